import PyProof.Rows.All
import Wide.All
import OpenK.AllK
import Wide.FinOn
import HandS.ForMost
import HandS.ForExc
import HandS.IsInst
import HandS.TupAny
import HandS.TupMul
import HandS.Deep
import HandS.Zip
import HandS.Conv
import HandS.SetFor
import HandS.Lambda
import KE.SortData
import HandS.Set
import HandS.Iter
import KE.KExcIs
import HandS.EndTab
import KE.KNest
import KE.GoesMore
import KE.DataFind
import KE.KIndexOf
import HandS.Style
import HandS.Strs
import HandS.More
import HandS.TupSets
import PySem.Challenge.RW_backgates_k18_whole_functions
set_option Elab.async false
set_option linter.all false
set_option maxRecDepth 100000
set_option maxHeartbeats 4000000
namespace BG
open PySem PySem.Spec PyProof.Rows L2
/-- a new tuple, its object kept -/
abbrev NewT (H : Hp) (Q : VK) (xs : List V) : Prop := ∀ p ob, H p = none → Obj.dict ob = none → Obj.cls ob = .type "tuple" → Q (.ref p) (upd H p (.frz ob (.tup xs)))
section
variable {X : Cx} {pins : List (Addr × Obj)} {σ : L2.St} {H : Hp} {s : Shared}
theorem newT_laid {xs : List V} {us : List Value} {Q : VK} {h1 : Heap} {tk : Nat} (I1 : Inv X pins σ H { s with heap := h1, toks := tk }) (r : Vals xs us) (z : xs.length ≤ sizeLine) (q : NewT H Q xs) :
    EP X pins σ Q (.ref h1.objs.size) { s with heap := h1.push { cls := .type "tuple", data := .seq us.toArray }, toks := tk } := by
  have gt : (h1.push { cls := .type "tuple", data := .seq us.toArray }).get? h1.objs.size = some { cls := .type "tuple", data := .seq us.toArray } := Heap.get?_push_size _ rfl
  refine ⟨.ref h1.objs.size, upd H h1.objs.size (.frz { cls := .type "tuple", data := .seq us.toArray } (.tup xs)), ?_, rfl, q _ _ (I1.hok.fresh (Nat.le_refl _)) rfl rfl⟩
  exact I1.laid (a := h1.objs.size) (t' := tk) (fun b u e => Heap.get?_push_of_some _ e) (Nat.le_refl _) ⟨gt, z, us, r, ⟨_, gt, rfl, _, rfl⟩⟩
end
section
variable {X : Cx}
def tTupN (t : TA) : TE := fun σ H Q => t σ H fun xs H1 => xs.length ≤ sizeLine ∧ NewT H1 Q xs
theorem pe_tupN {es : List Expr} {t : TA} {x1} {pos : Pos} (h : PA X es t) : PE X (.Tuple es x1 pos) (tTupN t) := ⟨fun pins s σ H Q I hq =>
  wpAny_Tuple_spliced (thn (h.run pos pins s σ H _ I hq) fun us s1 ⟨xs, H1, I1, r, z, q⟩ => ⟨r.length ▸ z, newT_laid (s := s1) (h1 := s1.heap) (tk := s1.toks) I1 r z q⟩)⟩
def rCatN (K : PySem.W.Frag) : R2 := fun x y H Q => ∃ a b xs ys, x = .ref a ∧ y = .ref b ∧ SqT K H a xs ∧ SqT K H b ys ∧ xs.length + ys.length ≤ sizeLine ∧
  (xs = [] → Q (.ref b) H) ∧ (xs ≠ [] → ys = [] → Q (.ref a) H) ∧ (xs ≠ [] → ys ≠ [] → NewT H Q (xs ++ ys))
theorem op_catN : OpR X (binaryOp .Add) (rCatN X.K) := fun pins s σ H x y v u Q I rx ry h => by
  obtain ⟨a, b, xs, ys, rfl, rfl, ha, hb, hz, q0, q1, q2⟩ := h
  cases rx; cases ry
  obtain ⟨us, r1, p1, _⟩ := I.tuple ha
  obtain ⟨ws, r2, p2, _⟩ := I.tuple hb
  by_cases hx : xs = []
  · subst hx
    cases r1
    exact L2.cat_tup0 p1 p2 ⟨.ref b, H, I, rfl, q0 rfl⟩
  · refine HT.cat_tup p1 p2 (fun z => hx (r1.nil_iff.mp z)) (fun z => ⟨.ref a, H, I, rfl, q1 hx (r2.nil_iff.mp z)⟩) (fun z => ?_) (by rw [← r1.length, ← r2.length]; exact hz)
    exact newT_laid (s := s) (h1 := s.heap) (tk := s.toks) I (r1.append r2) (by rw [List.length_append]; exact hz) (q2 hx fun e => z (r2.nil_iff.mpr e))
def rSlN (K : PySem.W.Frag) : V → Option Int → Option Int → Hp → VK → Prop := fun x lo hi H Q => ∃ a xs, x = .ref a ∧ SqT K H a xs ∧
  (HT.sIx xs.length 0 lo = 0 ∧ HT.sIx xs.length xs.length hi = xs.length → Q (.ref a) H) ∧ (¬ (HT.sIx xs.length 0 lo = 0 ∧ HT.sIx xs.length xs.length hi = xs.length) → NewT H Q (cutV xs lo hi))
theorem sl_tupN : SlR X (rSlN X.K) := fun pins s σ H x v vl vu lo hi sl Q I rx hs pl pu h => by
  obtain ⟨a, xs, rfl, hx, q1, q2⟩ := h
  cases rx
  obtain ⟨us, r, ht, hz⟩ := I.tuple hx
  have el : us.toArray.size = xs.length := by rw [List.size_toArray, r.length]
  refine ⟨"tuple", _, PyProof.Rows.slot_tuple_getitem.lookup, ht.typeIs, ?_⟩
  by_cases hw : HT.sIx xs.length 0 lo = 0 ∧ HT.sIx xs.length xs.length hi = xs.length
  · exact L2.getItem_tuple_whole ht hs pl pu (by rw [el]; exact hw) ⟨.ref a, H, I, rfl, q1 hw⟩
  · refine HT.getItem_tuple_cut ht hs pl pu (by rw [el]; exact hw) ?_ (by rw [el]; exact hz)
    rw [el]
    exact newT_laid (s := s) (h1 := s.heap) (tk := s.toks) I ((r.drop (HT.sIx xs.length 0 lo)).take (HT.sIx xs.length xs.length hi - HT.sIx xs.length 0 lo)) (Nat.le_trans (cutV_length xs lo hi) hz) (q2 hw)
theorem call_tupN : CallR X (.type "tuple") (fun xs H Q => ∃ p ys, xs = [.ref p] ∧ ((SqL X.K H p ys ∧ NewT H Q ys) ∨ (SqT X.K H p ys ∧ Q (.ref p) H))) := fun pins s σ H xs us Q I r h => by
  obtain ⟨p, ys, rfl, h⟩ := h
  obtain ⟨u, rfl, ru⟩ := vals1 r
  cases ru
  rcases h with ⟨hq, q⟩ | ⟨hq, q⟩
  · obtain ⟨ws, rw', pl, hz⟩ := I.list hq
    have el := rw'.length
    refine call_tuple_list pl.isList (fun h' kp => ?_) (by simp only [List.size_toArray] <;> omega)
    have I1 : Inv X pins σ H { s with heap := h' } := I.kept (t' := s.toks) kp
    exact newT_laid (s := s) (h1 := h') (tk := s.toks) I1 rw' hz q
  · obtain ⟨ws, _, pt, _⟩ := I.tuple hq
    exact call_tuple_same pt ⟨.ref p, H, I, rfl, q⟩
def rRepN (K : PySem.W.Frag) : R2 := fun x y H Q => ∃ l k xs, x = .ref l ∧ y = .int k ∧ SqT K H l xs ∧ xs ≠ [] ∧ 2 ≤ k ∧ k ≤ 1000 ∧ xs.length ≤ 1000 ∧ NewT H Q (List.replicate k.toNat xs).flatten
theorem op_repN : OpR X (binaryOp .Mult) (rRepN X.K) := fun pins s σ H x y v u Q I rx ry h => by
  obtain ⟨l, k, xs, rfl, rfl, hT, hne, h1, h2, hz, q⟩ := h
  cases rx
  obtain ⟨tok, rfl⟩ := ry
  obtain ⟨us, r, ⟨⟨cl, dd, dt, slt⟩, ho, hcl, m, hdt⟩, hs⟩ := I.tuple hT
  have ecl : cl = .type "tuple" := hcl
  have edt : dt = .seq us.toArray m := hdt
  subst ecl edt
  have el : us.length = xs.length := r.length.symm
  have es : us.toArray.size = xs.length := by rw [List.size_toArray, el]
  have emp : us.toArray.isEmpty = false := by
    cases us with
    | nil => exact absurd (List.eq_nil_of_length_eq_zero el.symm) hne
    | cons _ _ => rfl
  have small : ((us.toArray.size : Nat) : Int) * k ≤ 1000000 := by
    rw [es]
    exact Int.le_trans (Int.mul_le_mul_of_nonneg_right (show ((xs.length : Nat) : Int) ≤ 1000 by omega) (by omega)) (by omega)
  have wide : k.toNat * xs.length ≤ 1000 * 1000 := Nat.mul_le_mul (by omega) hz
  have fl : (List.replicate k.toNat us).flatten.length ≤ sizeLine := by rw [PyProof.Rows.lm_len_rep_flat, el, sizeLine_eq]; omega
  have b0 : (decide (k < -(2 ^ 63)) || decide (k ≥ 2 ^ 63)) = false := by simp; omega
  have b1 : (us.toArray.isEmpty || k == 1) = false := by rw [emp]; simp; omega
  have b2 : (decide (k ≤ 0) || us.toArray.isEmpty) = false := by rw [emp]; simp; omega
  have b4 : Builtin.Tuple.tupleTooMany (((us.toArray.size : Nat) : Int) * k) = false := by unfold Builtin.Tuple.tupleTooMany; rw [sizeLine_eq]; exact decide_eq_false (by omega)
  have fin := newT_laid (s := s) (h1 := s.heap) (tk := s.toks) I (r.rep k.toNat) (by rw [PyProof.Rows.lm_len_rep_flat, sizeLine_eq]; omega) q
  rw [← size_rep] at fin
  exact wpAny_binaryOp_repeat_ref (T := "tuple") (U := "int") (by decide) ⟨_, ho, rfl⟩ (fun s' => typeIs_int s' k tok) noFill_tuple_mul F.fills_int_mul F.slot_int_rmul repeat_tuple F.slot_int_index.lookup
    (call_meets F.slot_int_rmul (typeIs_int s k tok) F.entry_int_rmul (F.args_int_rmul_2 _ _) (int_rmul_tuple k tok l us.toArray m dd slt)
      ⟨ho, rfl, ⟨_, ho, rfl⟩, call_meets F.slot_tuple_mul ⟨_, ho, rfl⟩ F.entry_tuple_mul (F.args_tuple_mul_2 _ _) (tuple_mulW l us.toArray m dd slt k tok b0 b1 b2 (by omega) b4 (by rw [size_rep, List.size_toArray]; exact fl)) ⟨ho, fin⟩⟩)
end
end BG
set_option Elab.async false
set_option linter.all false
set_option maxRecDepth 100000
set_option maxHeartbeats 4000000
namespace BG
open PySem PySem.Spec PyProof.Rows L2
/-- a value as data: nothing of the heap -/
inductive D where
  | non | bl (b : Bool) | int (i : Int) | str (x : Str) | tup (xs : List D) | lst (xs : List D) | town | scr (ns : List Int) | dct (ks : List Key) (ds : List D)
/-- the state of the draws: the count and the rests; none: not begun -/
abbrev Tn := Option (Int × List (Int × Int))
inductive Out (α : Type) where
  | ok (a : α) (t : Tn)
  | exc (c : Nat) (t : Tn)
abbrev M (α : Type) := Tn → Option (Out α)
section
variable {α β : Type}
def ret (a : α) : M α := fun t => some (.ok a t)
def bnd (m : M α) (f : α → M β) : M β := fun t => match m t with
  | some (.ok a t') => f a t'
  | some (.exc c t') => some (.exc c t')
  | none => none
def raise (c : Nat) : M α := fun t => some (.exc c t)
def stuck : M α := fun _ => none
/-- what raises is stuck -/
def calm (m : M α) : M α := fun t => match m t with
  | some (.ok a t') => some (.ok a t')
  | _ => none
theorem bnd_ok {m : M α} {f : α → M β} {t t' : Tn} {a : α} (h : m t = some (.ok a t')) : bnd m f t = f a t' := by
  unfold bnd; rw [h]
theorem ret_bnd (a : α) (f : α → M β) : bnd (ret a) f = f a := rfl
end
/-- a slot: nothing, a value, a list of its own that may be changed -/
inductive SV where
  | un | val (d : D) | own (ds : List D) | dic (ks : List (Key × D)) | raw (v : V) | exn (c : Addr)
/-- an exception's object of the class cls -/
def ExK (cls : Value) (a : Addr) : HO := .ext fun h => ∃ (oe : Obj) (vs : Array Value), h.get? a = some oe ∧ oe.cls = cls ∧ oe.dict = none ∧ oe.data = .fields vs
/-- an object of one's own -/
def isOw : SV → Bool
  | .own _ => true
  | .dic _ => true
  | _ => false
abbrev Sl := List SV
/-- what is frozen; the addresses of the draws' dicts -/
structure G where
  Fz : Hp
  tw : Option (Addr × Addr)
def G.isTw (g : G) (b : Addr) : Prop := ∃ p, g.tw = some p ∧ (b = p.1 ∨ b = p.2)
/-- a tuple whose object holds no dict -/
def SqN (K : PySem.W.Frag) (H : Hp) (a : Addr) (xs : List V) : Prop :=
  (∃ o, H a = some (.frz o (.tup xs)) ∧ o.dict = none ∧ o.cls = .type "tuple") ∨
    ∃ (o : Obj) (its : Array Value) (n : Nat), K.lookup a = some o ∧ o.cls = .type "tuple" ∧ o.data = .seq its n ∧ its.size ≤ sizeLine ∧ Vals xs its.toList ∧ o.dict = none
theorem SqN.t {K : PySem.W.Frag} {H : Hp} {a : Addr} {xs : List V} (h : SqN K H a xs) : SqT K H a xs := by
  rcases h with ⟨o, h, _⟩ | ⟨o, its, n, h1, h2, h3, h4, h5, _⟩
  · exact .inl (.inr ⟨o, h⟩)
  · exact .inr ⟨o, its, n, h1, h2, h3, h4, h5⟩
theorem SqN.mono {K : PySem.W.Frag} {H H' : Hp} {a : Addr} {xs : List V} (e : Same H H') (h : SqN K H a xs) : SqN K H' a xs := by
  rcases h with ⟨o, h, q⟩ | h
  · exact .inl ⟨o, e _ _ h, q⟩
  · exact .inr h
mutual
inductive Rp (K : PySem.W.Frag) (g : G) : V → D → Prop
  | non : Rp K g .non .non
  | bl (b : Bool) : Rp K g (.bl b) (.bl b)
  | int (i : Int) : Rp K g (.int i) (.int i)
  | str (x : Str) : Rp K g (.str x) (.str x)
  | tup {a : Addr} {xs : List V} {ds : List D} : SqN K g.Fz a xs → RpA K g xs ds → Rp K g (.ref a) (.tup ds)
  | lst {a : Addr} {xs : List V} {ds : List D} : g.Fz a = some (.lst xs) → RpA K g xs ds → Rp K g (.ref a) (.lst ds)
  | town {a b : Addr} : g.tw = some (a, b) → Rp K g (.ref a) .town
  | scr {a : Addr} {ns : List Int} : SqL K g.Fz a (ns.map V.int) → Rp K g (.ref a) (.scr ns)
  | dct {a : Addr} {o : Obj} {ks : List Key} {vs : List V} {ds : List D} : g.Fz a = some (.frz o (.dK (ks.zip vs))) → ks.length = vs.length → RpA K g vs ds → Rp K g (.ref a) (.dct ks ds)
inductive RpA (K : PySem.W.Frag) (g : G) : List V → List D → Prop
  | nil : RpA K g [] []
  | cons {v : V} {vs : List V} {d : D} {ds : List D} : Rp K g v d → RpA K g vs ds → RpA K g (v :: vs) (d :: ds)
end
theorem Same.tseq {K : PySem.W.Frag} {H H' : Hp} {a : Addr} {xs : List V} (e : Same H H') (h : SqT K H a xs) : SqT K H' a xs := by
  rcases h with (h | ⟨o, h⟩) | h
  · exact .inl (.inl (e _ _ h))
  · exact .inl (.inr ⟨o, e _ _ h⟩)
  · exact .inr h
section
variable {K : PySem.W.Frag} {g g' : G}
mutual
theorem Rp.mono (f : Same g.Fz g'.Fz) (tw : ∀ p, g.tw = some p → g'.tw = some p) : ∀ {d : D} {v : V}, Rp K g v d → Rp K g' v d
  | .non, _, h => by cases h; exact .non
  | .bl b, _, h => by cases h; exact .bl b
  | .int i, _, h => by cases h; exact .int i
  | .str x, _, h => by cases h; exact .str x
  | .tup ds, _, h => by cases h with | tup s a => exact .tup (s.mono f) (RpA.mono f tw a)
  | .lst ds, _, h => by cases h with | lst s a => exact .lst (f _ _ s) (RpA.mono f tw a)
  | .town, _, h => by cases h with | town e => exact .town (tw _ e)
  | .scr ns, _, h => by cases h with | scr e => exact .scr (f.seq e)
  | .dct ks ds, _, h => by cases h with | dct e l a => exact .dct (f _ _ e) l (RpA.mono f tw a)
theorem RpA.mono (f : Same g.Fz g'.Fz) (tw : ∀ p, g.tw = some p → g'.tw = some p) : ∀ {ds : List D} {vs : List V}, RpA K g vs ds → RpA K g' vs ds
  | [], _, h => by cases h; exact .nil
  | d :: ds, _, h => by cases h with | cons a b => exact .cons (Rp.mono f tw a) (RpA.mono f tw b)
end
theorem RpA.length : ∀ {ds : List D} {vs : List V}, RpA K g vs ds → vs.length = ds.length
  | [], _, h => by cases h; rfl
  | d :: ds, _, h => by cases h with | cons a b => rw [List.length_cons, List.length_cons, RpA.length b]
theorem RpA.get : ∀ {ds : List D} {vs : List V} {i : Nat} {d : D}, RpA K g vs ds → ds[i]? = some d → ∃ v, vs[i]? = some v ∧ Rp K g v d
  | [], _, _, _, h, e => by simp at e
  | d :: ds, _, 0, _, h, e => by
    cases h with
    | cons a b =>
      have e' : d = _ := Option.some.inj e
      subst e'
      exact ⟨_, rfl, a⟩
  | d :: ds, _, i + 1, _, h, e => by
    cases h with
    | cons a b =>
      obtain ⟨v, h1, h2⟩ := RpA.get (i := i) b e
      exact ⟨v, h1, h2⟩
theorem RpA.app : ∀ {ds es : List D} {vs ws : List V}, RpA K g vs ds → RpA K g ws es → RpA K g (vs ++ ws) (ds ++ es)
  | [], _, _, _, h, q => by cases h; exact q
  | d :: ds, _, _, _, h, q => by cases h with | cons a b => exact .cons a (RpA.app b q)
theorem RpA.one {v : V} {d : D} (h : Rp K g v d) : RpA K g [v] [d] := .cons h .nil
theorem RpA.take : ∀ {ds : List D} {vs : List V} (n : Nat), RpA K g vs ds → RpA K g (vs.take n) (ds.take n)
  | _, _, 0, _ => .nil
  | [], _, n + 1, h => by cases h; exact .nil
  | d :: ds, _, n + 1, h => by cases h with | cons a b => exact .cons a (RpA.take n b)
theorem RpA.drop : ∀ {ds : List D} {vs : List V} (n : Nat), RpA K g vs ds → RpA K g (vs.drop n) (ds.drop n)
  | _, _, 0, h => h
  | [], _, n + 1, h => by cases h; exact .nil
  | d :: ds, _, n + 1, h => by cases h with | cons a b => exact RpA.drop n b
theorem RpA.set {v : V} {d : D} (r : Rp K g v d) : ∀ {ds : List D} {vs : List V} (n : Nat), RpA K g vs ds → RpA K g (vs.set n v) (ds.set n d)
  | [], _, _, h => by cases h; exact .nil
  | _ :: ds, _, 0, h => by cases h with | cons a b => exact .cons r b
  | _ :: ds, _, n + 1, h => by cases h with | cons a b => exact .cons a (RpA.set r n b)
theorem RpA.rep {ds : List D} {vs : List V} (h : RpA K g vs ds) : ∀ k : Nat, RpA K g (List.replicate k vs).flatten (List.replicate k ds).flatten
  | 0 => .nil
  | k + 1 => by
    rw [List.replicate_succ, List.replicate_succ, List.flatten_cons, List.flatten_cons]
    exact h.app (RpA.rep h k)
theorem RpA.dropLast {ds : List D} {vs : List V} (h : RpA K g vs ds) : RpA K g vs.dropLast ds.dropLast := by
  rw [List.dropLast_eq_take, List.dropLast_eq_take, h.length]
  exact h.take _
end
/-- something is tracked there, and it is no table -/
def Nt (H : Hp) (b : Addr) : Prop := ∃ o, H b = some o ∧ ∀ ps, o ≠ .tbl ps
theorem Nt.no {H : Hp} {b : Addr} (h : H b = none) : ¬ Nt H b := fun ⟨o, e, _⟩ => by rw [h] at e; cases e
/-- a step: what was frozen stays, what stood stays (but the draws' dicts and the tables) -/
structure Stp (g : G) (H : Hp) (g' : G) (H' : Hp) : Prop where
  fz : Same g.Fz g'.Fz
  tw : ∀ p, g.tw = some p → g'.tw = some p
  twn : g.tw = none → ∀ a b, g'.tw = some (a, b) → ¬ Nt H a ∧ ¬ Nt H b
  frm : ∀ b o, H b = some o → ¬ g.isTw b → (∀ ps, o ≠ .tbl ps) → H' b = some o
  thr : ∀ b, Nt H b → Nt H' b
  new : ∀ b, Nt H b → g'.Fz b = g.Fz b
theorem Stp.refl (g : G) (H : Hp) : Stp g H g H := ⟨fun _ _ h => h, fun _ h => h, fun h a b e => (by rw [h] at e; cases e), fun _ _ h _ _ => h, fun _ h => h, fun _ _ => rfl⟩
theorem Stp.trans {g g1 g2 : G} {H H1 H2 : Hp} (a : Stp g H g1 H1) (b : Stp g1 H1 g2 H2) : Stp g H g2 H2 where
  fz := a.fz.trans b.fz
  tw := fun p h => b.tw p (a.tw p h)
  twn := fun h x y e => by
    cases h1 : g1.tw with
    | none =>
      obtain ⟨p, q⟩ := b.twn h1 x y e
      exact ⟨fun z => p (a.thr x z), fun z => q (a.thr y z)⟩
    | some p =>
      have e2 := b.tw p h1
      rw [e] at e2
      cases e2
      exact a.twn h x y h1
  frm := fun c o h n t => by
    refine b.frm c o (a.frm c o h n t) (fun ⟨p, hp, q⟩ => ?_) t
    cases h1 : g.tw with
    | some p' =>
      have := a.tw p' h1
      rw [hp] at this
      cases this
      exact n ⟨p, h1, q⟩
    | none =>
      obtain ⟨z1, z2⟩ := a.twn h1 p.1 p.2 hp
      rcases q with q | q
      · exact z1 ⟨o, by rw [← q]; exact h, t⟩
      · exact z2 ⟨o, by rw [← q]; exact h, t⟩
  thr := fun c h => b.thr c (a.thr c h)
  new := fun c h => (b.new c (a.thr c h)).trans (a.new c h)
theorem Rp.stp {K : PySem.W.Frag} {g g' : G} {H H' : Hp} {v : V} {d : D} (s : Stp g H g' H') (h : Rp K g v d) : Rp K g' v d := h.mono s.fz s.tw
theorem RpA.stp {K : PySem.W.Frag} {g g' : G} {H H' : Hp} {v : List V} {d : List D} (s : Stp g H g' H') (h : RpA K g v d) : RpA K g' v d := h.mono s.fz s.tw
def TownOk (g : G) (H : Hp) : Tn → Prop
  | none => g.tw = none
  | some (c, rs) => ∃ a b, g.tw = some (a, b) ∧ a ≠ b ∧ H a = some (.dK [(.inr "count", .int c), (.inr "rests", .ref b)]) ∧ H b = some (.dK (rs.map fun p => (Sum.inl p.1, V.int p.2)))
/-- constants of a row: the tables of code objects; the addresses of the exceptions' classes -/
structure Cn where
  T : List (Addr × Str)
  ex : Nat → Addr
structure Wf (C : Cn) (g : G) (H : Hp) (t : Tn) : Prop where
  fz : Same g.Fz H
  tw : TownOk g H t
  ntw : ∀ b, g.isTw b → g.Fz b = none
  tab : LamX.Tabs C.T H
  nft : ∀ b ps, g.Fz b ≠ some (.tbl ps)
theorem nft_upd {F : Hp} {p : Addr} {o : HO} (h : ∀ b ps, F b ≠ some (.tbl ps)) (ho : ∀ ps, o ≠ .tbl ps) : ∀ b ps, upd F p o b ≠ some (.tbl ps) := fun b ps e => by
  by_cases hb : b = p
  · rw [hb, upd_same] at e; exact ho ps (Option.some.inj e)
  · rw [upd_ne hb] at e; exact h b ps e
/-- a town's dict is a dict -/
theorem Wf.twd {C : Cn} {g : G} {H : Hp} {t : Tn} (w : Wf C g H t) {b : Addr} (h : g.isTw b) : ∃ kvs, H b = some (.dK kvs) := by
  obtain ⟨p, hp, q⟩ := h
  cases t with
  | none => rw [show g.tw = none from w.tw] at hp; cases hp
  | some cr =>
    obtain ⟨a, c, e, _, h1, h2⟩ := w.tw
    rw [hp] at e
    cases e
    rcases q with q | q
    · exact ⟨_, by rw [q]; exact h1⟩
    · exact ⟨_, by rw [q]; exact h2⟩
theorem Wf.ntL {C : Cn} {g : G} {H : Hp} {t : Tn} (w : Wf C g H t) {b : Addr} {xs : List V} (h : H b = some (.lst xs)) : ¬ g.isTw b := fun z => by
  obtain ⟨kvs, e⟩ := w.twd z
  rw [h] at e; cases e
theorem Wf.ntN {C : Cn} {g : G} {H : Hp} {t : Tn} (w : Wf C g H t) {b : Addr} (h : H b = none) : ¬ g.isTw b := fun z => by
  obtain ⟨kvs, e⟩ := w.twd z
  rw [h] at e; cases e
theorem Wf.fzN {C : Cn} {g : G} {H : Hp} {t : Tn} (w : Wf C g H t) {b : Addr} (h : H b = none) : g.Fz b = none := by
  cases z : g.Fz b with
  | none => rfl
  | some o => rw [w.fz b o z] at h; cases h
/-- a dict's pairs -/
def RpK (K : PySem.W.Frag) (g : G) (vs : List (Key × V)) (ks : List (Key × D)) : Prop := vs.map (·.1) = ks.map (·.1) ∧ RpA K g (vs.map (·.2)) (ks.map (·.2))
/-- what a slot tells -/
def SVok (K : PySem.W.Frag) (g : G) (H : Hp) : SV → Option (Option V) → Prop
  | .un, _ => True
  | .val d, o => ∃ v, o = some (some v) ∧ Rp K g v d
  | .own ds, o => ∃ p vs, o = some (some (.ref p)) ∧ H p = some (.lst vs) ∧ RpA K g vs ds ∧ g.Fz p = none
  | .dic ks, o => ∃ p vs, o = some (some (.ref p)) ∧ H p = some (.dK vs) ∧ RpK K g vs ks ∧ g.Fz p = none ∧ ¬ g.isTw p
  | .raw v, o => o = some (some v)
  | .exn c, o => ∃ p, o = some (some (.ref p)) ∧ H p = some (ExK (.ref c) p)
/-- the slots -/
structure SL (K : PySem.W.Frag) (g : G) (H : Hp) (σ : L2.St) (S : Sl) : Prop where
  len : σ.length = S.length
  ok : ∀ (i : Nat) x, S[i]? = some x → SVok K g H x σ[i]?
  dis : ∀ (i j : Nat) p x y, S[i]? = some x → S[j]? = some y → isOw x = true → isOw y = true → σ[i]? = some (some (.ref p)) → σ[j]? = some (some (.ref p)) → i = j
section
variable {K : PySem.W.Frag} {g : G} {H : Hp} {σ : L2.St} {S : Sl}
theorem SL.val (s : SL K g H σ S) (i : Nat) (d : D) (e : S[i]? = some (.val d)) : ∃ v, σ[i]? = some (some v) ∧ Rp K g v d := s.ok i _ e
theorem SL.own (s : SL K g H σ S) (i : Nat) (ds : List D) (e : S[i]? = some (.own ds)) : ∃ p vs, σ[i]? = some (some (.ref p)) ∧ H p = some (.lst vs) ∧ RpA K g vs ds ∧ g.Fz p = none := s.ok i _ e
theorem SL.dic (s : SL K g H σ S) (i : Nat) (ks : List (Key × D)) (e : S[i]? = some (.dic ks)) : ∃ p vs, σ[i]? = some (some (.ref p)) ∧ H p = some (.dK vs) ∧ RpK K g vs ks ∧ g.Fz p = none ∧ ¬ g.isTw p := s.ok i _ e
theorem SL.raw (s : SL K g H σ S) (i : Nat) (v : V) (e : S[i]? = some (.raw v)) : σ[i]? = some (some v) := s.ok i _ e
/-- the address of an object of one's own, and that it is there -/
theorem SL.ow (s : SL K g H σ S) {i : Nat} {x : SV} (e : S[i]? = some x) (h : isOw x = true) : ∃ p o, σ[i]? = some (some (.ref p)) ∧ H p = some o ∧ g.Fz p = none ∧ ∀ ps, o ≠ .tbl ps := by
  cases x with
  | own ds => obtain ⟨p, vs, h1, h2, h3, h4⟩ := s.own i ds e; exact ⟨p, _, h1, h2, h4, fun _ z => nomatch z⟩
  | dic ks => obtain ⟨p, vs, h1, h2, h3, h4, h5⟩ := s.dic i ks e; exact ⟨p, _, h1, h2, h4, fun _ z => nomatch z⟩
  | _ => cases h
/-- a slot is set -/
theorem SL.put (s : SL K g H σ S) {i : Nat} {x : SV} {o : Option V} (hx : SVok K g H x (some o)) (hd : isOw x = true → ∀ p, o = some (.ref p) → ∀ (j : Nat) y, S[j]? = some y → isOw y = true → σ[j]? = some (some (.ref p)) → j = i) : SL K g H (σ.set i o) (S.set i x) where
  len := by rw [List.length_set, List.length_set]; exact s.len
  ok := fun j y e => by
    by_cases h : i = j
    · subst h
      by_cases hl : i < S.length
      · rw [List.getElem?_set_self hl] at e
        cases e
        rw [List.getElem?_set_self (by rw [s.len]; exact hl)]
        exact hx
      · rw [List.getElem?_eq_none (by rw [List.length_set]; omega)] at e; cases e
    · rw [List.getElem?_set_ne h] at e ⊢
      exact s.ok j y e
  dis := fun j k q y z e1 e2 o1 o2 e3 e4 => by
    have lt : ∀ {m} {y : SV}, (S.set i x)[m]? = some y → m < S.length := fun {m y} e => by
      obtain ⟨h, _⟩ := List.getElem?_eq_some_iff.mp e
      rw [List.length_set] at h
      exact h
    by_cases h1 : i = j
    · by_cases h2 : i = k
      · exact h1.symm.trans h2
      · subst h1
        have l1 := lt e1
        rw [List.getElem?_set_self l1] at e1
        rw [List.getElem?_set_self (by rw [s.len]; exact l1)] at e3
        cases e1
        rw [List.getElem?_set_ne h2] at e2 e4
        cases e3
        exact (hd o1 q rfl k z e2 o2 e4).symm
    · by_cases h2 : i = k
      · subst h2
        have l2 := lt e2
        rw [List.getElem?_set_self l2] at e2
        rw [List.getElem?_set_self (by rw [s.len]; exact l2)] at e4
        cases e2
        rw [List.getElem?_set_ne h1] at e1 e3
        cases e4
        exact hd o2 q rfl j y e1 o1 e3
      · rw [List.getElem?_set_ne h1] at e1 e3
        rw [List.getElem?_set_ne h2] at e2 e4
        exact s.dis j k q y z e1 e2 o1 o2 e3 e4
end
theorem RpK.stp {K : PySem.W.Frag} {g g' : G} {H H' : Hp} {vs : List (Key × V)} {ks : List (Key × D)} (r : RpK K g vs ks) (p : Stp g H g' H') : RpK K g' vs ks := ⟨r.1, r.2.stp p⟩
theorem Stp.ntw {g g' : G} {H H' : Hp} {b : Addr} {o : HO} (p : Stp g H g' H') (h : H b = some o) (n : ¬ g.isTw b) (nt : ∀ ps, o ≠ .tbl ps) : ¬ g'.isTw b := fun ⟨q, hq, z⟩ => by
  cases e : g.tw with
  | some q' =>
    have := p.tw q' e
    rw [hq] at this
    cases this
    exact n ⟨q, e, z⟩
  | none =>
    obtain ⟨z1, z2⟩ := p.twn e q.1 q.2 hq
    rcases z with z | z
    · exact z1 ⟨o, by rw [← z]; exact h, nt⟩
    · exact z2 ⟨o, by rw [← z]; exact h, nt⟩
theorem SL.stp {K : PySem.W.Frag} {C : Cn} {g g' : G} {H H' : Hp} {t : Tn} {σ : L2.St} {S : Sl} (s : SL K g H σ S) (w : Wf C g H t) (p : Stp g H g' H') : SL K g' H' σ S where
  len := s.len
  ok := fun i x e => by
    have h := s.ok i x e
    cases x with
    | un => trivial
    | val d => obtain ⟨v, h1, h2⟩ := h; exact ⟨v, h1, h2.stp p⟩
    | own ds =>
      obtain ⟨a, vs, h1, h2, h3, h4⟩ := h
      exact ⟨a, vs, h1, p.frm _ _ h2 (w.ntL h2) (fun _ z => nomatch z), h3.stp p, by rw [p.new a ⟨_, h2, fun _ z => nomatch z⟩]; exact h4⟩
    | dic ks =>
      obtain ⟨a, vs, h1, h2, h3, h4, h5⟩ := h
      exact ⟨a, vs, h1, p.frm _ _ h2 h5 (fun _ z => nomatch z), h3.stp p, by rw [p.new a ⟨_, h2, fun _ z => nomatch z⟩]; exact h4, p.ntw h2 h5 (fun _ z => nomatch z)⟩
    | raw v => exact h
    | exn c =>
      obtain ⟨p0, h1, h2⟩ := h
      refine ⟨p0, h1, p.frm _ _ h2 (fun z => ?_) (fun _ z => by unfold ExK at z; cases z)⟩
      obtain ⟨kvs, e⟩ := w.twd z
      rw [h2] at e
      unfold ExK at e
      cases e
  dis := s.dis
/-- what is wanted behind -/
def Post {α : Type} (C : Cn) (E : XK) (g : G) (H : Hp) (Rok : α → Tn → G → Hp → Prop) : Option (Out α) → Prop
  | none => False
  | some (.ok a t') => ∀ g' H', Stp g H g' H' → Wf C g' H' t' → Rok a t' g' H'
  | some (.exc c t') => ∀ g' H', Stp g H g' H' → Wf C g' H' t' → E (.ref (C.ex c)) none H'
section
variable {α β : Type} {C : Cn} {E : XK} {g g1 : G} {H H1 : Hp} {Rok : α → Tn → G → Hp → Prop}
theorem Post.stp {r : Option (Out α)} (h : Post C E g H Rok r) (s : Stp g H g1 H1) : Post C E g1 H1 Rok r := by
  cases r with
  | none => exact h
  | some o =>
    cases o with
    | ok a t' => exact fun g' H' s' w => h g' H' (s.trans s') w
    | exc c t' => exact fun g' H' s' w => h g' H' (s.trans s') w
theorem Post.imp {r : Option (Out α)} {Rok' : α → Tn → G → Hp → Prop} (h : Post C E g H Rok r) (f : ∀ a t' g' H', Stp g H g' H' → Wf C g' H' t' → Rok a t' g' H' → Rok' a t' g' H') : Post C E g H Rok' r := by
  cases r with
  | none => exact h
  | some o =>
    cases o with
    | ok a t' => exact fun g' H' s' w => f a t' g' H' s' w (h g' H' s' w)
    | exc c t' => exact h
theorem Post.bnd {Rok : β → Tn → G → Hp → Prop} {m : M α} {k : α → M β} {t : Tn} (h : Post C E g H Rok (bnd m k t)) : Post C E g H (fun a t1 g1 H1 => Post C E g1 H1 Rok (k a t1)) (m t) := by
  unfold BG.bnd at h
  cases e : m t with
  | none => rw [e] at h; exact h
  | some o =>
    rw [e] at h
    cases o with
    | ok a t' => exact fun g' H' s' w => Post.stp h s'
    | exc c t' => exact h
theorem postRet {a : α} {t : Tn} (h : Post C E g H Rok (ret a t)) (w : Wf C g H t) : Rok a t g H := h g H (.refl g H) w
theorem Post.calm {m : M α} {t : Tn} (h : Post C E g H Rok (calm m t)) (E' : XK) : Post C E' g H Rok (m t) := by
  unfold BG.calm at h
  cases e : m t with
  | none => rw [e] at h; exact h.elim
  | some o =>
    rw [e] at h
    cases o with
    | ok a t' => exact h
    | exc c t' => exact h.elim
end
/-- the weak relation: data, or a list of one's own -/
def RpW (K : PySem.W.Frag) (g : G) (H : Hp) (v : V) (d : D) : Prop := Rp K g v d ∨ ∃ p vs ds, d = .lst ds ∧ v = .ref p ∧ H p = some (.lst vs) ∧ RpA K g vs ds
theorem RpW.stp {K : PySem.W.Frag} {C : Cn} {g g' : G} {H H' : Hp} {t : Tn} {v : V} {d : D} (w : Wf C g H t) (s : Stp g H g' H') (h : RpW K g H v d) : RpW K g' H' v d := by
  rcases h with h | ⟨p, vs, ds, e1, e2, e3, e4⟩
  · exact .inl (h.stp s)
  · exact .inr ⟨p, vs, ds, e1, e2, s.frm _ _ e3 (w.ntL e3) (fun _ z => nomatch z), e4.stp s⟩
/-- a list that was just made -/
def RpF (K : PySem.W.Frag) (H0 : Hp) (g : G) (H : Hp) (v : V) (d : D) : Prop := ∃ p vs ds, d = .lst ds ∧ v = .ref p ∧ ¬ Nt H0 p ∧ H p = some (.lst vs) ∧ RpA K g vs ds ∧ g.Fz p = none
abbrev Ex := Sl → M D
def tE (K : PySem.W.Frag) (C : Cn) (E : XK) (f : Ex) : TE := fun σ H Q => ∃ g S t, Wf C g H t ∧ SL K g H σ S ∧ Post C E g H (fun d _ g' H' => ∀ v, Rp K g' v d → Q v H') (f S t)
def tW (K : PySem.W.Frag) (C : Cn) (E : XK) (f : Ex) : TE := fun σ H Q => ∃ g S t, Wf C g H t ∧ SL K g H σ S ∧ Post C E g H (fun d _ g' H' => ∀ v, RpW K g' H' v d → Q v H') (f S t)
def tF (K : PySem.W.Frag) (C : Cn) (E : XK) (f : Ex) : TE := fun σ H Q => ∃ g S t, Wf C g H t ∧ SL K g H σ S ∧ Post C E g H (fun d _ g' H' => ∀ v, RpF K H g' H' v d → Q v H') (f S t)
def tT (K : PySem.W.Frag) (C : Cn) (E : XK) (f : Ex) : TT := fun σ H Q => ∃ g S t, Wf C g H t ∧ SL K g H σ S ∧ Post C E g H (fun d _ g' H' => ∃ b, d = .bl b ∧ Q b H') (f S t)
def tAs (K : PySem.W.Frag) (C : Cn) (E : XK) (f : Sl → M (List D)) : TA := fun σ H Q => ∃ g S t, Wf C g H t ∧ SL K g H σ S ∧ Post C E g H (fun ds _ g' H' => ∀ vs, RpA K g' vs ds → Q vs H') (f S t)
abbrev CE (X : Cx) (C : Cn) (E : XK) (e : Expr) (f : Ex) : Prop := PE X e (tE X.K C E f)
abbrev CW (X : Cx) (C : Cn) (E : XK) (e : Expr) (f : Ex) : Prop := PE X e (tW X.K C E f)
abbrev CF (X : Cx) (C : Cn) (E : XK) (e : Expr) (f : Ex) : Prop := PE X e (tF X.K C E f)
abbrev CT (X : Cx) (C : Cn) (E : XK) (e : Expr) (f : Ex) : Prop := PT X e (tT X.K C E f)
abbrev CA (X : Cx) (C : Cn) (E : XK) (es : List Expr) (f : Sl → M (List D)) : Prop := PA X es (tAs X.K C E f)
theorem PE.imp {X : Cx} {e : Expr} {t t' : TE} (h : PE X e t) (f : ∀ σ H Q, t' σ H Q → t σ H Q) : PE X e t' := ⟨fun pins s σ H Q I q => h.run pins s σ H Q I (f σ H Q q)⟩
theorem PT.imp {X : Cx} {e : Expr} {t t' : TT} (h : PT X e t) (f : ∀ σ H Q, t' σ H Q → t σ H Q) : PT X e t' := ⟨fun pins s σ H Q I q => h.run pins s σ H Q I (f σ H Q q)⟩
theorem PA.imp {X : Cx} {e : List Expr} {t t' : TA} (h : PA X e t) (f : ∀ σ H Q, t' σ H Q → t σ H Q) : PA X e t' := ⟨fun pos pins s σ H Q I q => h.run pos pins s σ H Q I (f σ H Q q)⟩
theorem PS.imp {X : Cx} {e : Stmt} {t t' : TS} (h : PS X e t) (f : ∀ D σ H, t' D σ H → t D σ H) : PS X e t' := ⟨fun pins s σ H D I q => h.run pins s σ H D I (f D σ H q)⟩
theorem PSs.imp {X : Cx} {e : List Stmt} {t t' : TS} (h : PSs X e t) (f : ∀ D σ H, t' D σ H → t D σ H) : PSs X e t' := ⟨fun pins s σ H D I q => h.run pins s σ H D I (f D σ H q)⟩
section
variable {X : Cx} {C : Cn} {E : XK} {e : Expr} {f : Ex}
theorem e2w (h : CE X C E e f) : CW X C E e f := PE.imp h fun σ H Q ⟨g, S, t, w, s, p⟩ => ⟨g, S, t, w, s, p.imp fun d t' g' H' _ _ q v r => q v (.inl r)⟩
/-- the list that was just made is frozen -/
theorem Rp.frz {K : PySem.W.Frag} {g0 g : G} {H0 H : Hp} {t : Tn} {v : V} {d : D} (r : RpF K H0 g H v d) (s : Stp g0 H0 g H) (w : Wf C g H t) : ∃ g', Stp g0 H0 g' H ∧ Wf C g' H t ∧ Rp K g' v d := by
  obtain ⟨p, vs, ds, rfl, rfl, e0, e1, ra, e2⟩ := r
  have sm : Same g.Fz (upd g.Fz p (.lst vs)) := fun b o h => by
    rw [upd_ne (ne_of_none h e2)]; exact h
  refine ⟨⟨upd g.Fz p (.lst vs), g.tw⟩, ⟨s.fz.trans sm, s.tw, s.twn, s.frm, s.thr, fun b h => ?_⟩, ⟨fun b o h => ?_, w.tw, fun b h => ?_, w.tab, nft_upd w.nft fun _ z => by cases z⟩, ?_⟩
  · have nb : b ≠ p := fun z => e0 (by rw [← z]; exact h)
    show upd g.Fz p (.lst vs) b = _
    rw [upd_ne nb]
    exact s.new b h
  · have h : upd g.Fz p (.lst vs) b = some o := h
    by_cases hb : b = p
    · rw [hb, upd_same] at h
      cases h
      rw [hb]; exact e1
    · rw [upd_ne hb] at h
      exact w.fz b o h
  · have nb : b ≠ p := fun z => w.ntL e1 (by rw [← z]; exact h)
    show upd g.Fz p (.lst vs) b = _
    rw [upd_ne nb]
    exact w.ntw b h
  · exact .lst upd_same (RpA.mono (g' := ⟨upd g.Fz p (.lst vs), g.tw⟩) sm (fun _ h => h) ra)
theorem f2e (h : CF X C E e f) : CE X C E e f := PE.imp h fun σ H Q ⟨g, S, t, w, s, p⟩ => by
  refine ⟨g, S, t, w, s, ?_⟩
  cases r : f S t with
  | none => rw [r] at p; exact p
  | some o =>
    rw [r] at p
    cases o with
    | exc c t' => exact p
    | ok d t' =>
      intro g' H' s' w' v rf
      obtain ⟨g2, s2, w2, r2⟩ := Rp.frz rf s' w'
      exact p g2 H' s2 w2 v r2
theorem f2w (h : CF X C E e f) : CW X C E e f := e2w (f2e h)
end
theorem RpW.lst {K : PySem.W.Frag} {C : Cn} {g : G} {H : Hp} {t : Tn} {v : V} {ds : List D} (w : Wf C g H t) (h : RpW K g H v (.lst ds)) : ∃ p vs, v = .ref p ∧ H p = some (.lst vs) ∧ RpA K g vs ds := by
  rcases h with h | ⟨p, vs, ds', e1, e2, e3, e4⟩
  · cases h with
    | lst a b => exact ⟨_, _, rfl, w.fz _ _ a, b⟩
  · cases e1
    exact ⟨p, vs, e2, e3, e4⟩
theorem RpW.tup {K : PySem.W.Frag} {C : Cn} {g : G} {H : Hp} {t : Tn} {v : V} {ds : List D} (w : Wf C g H t) (h : RpW K g H v (.tup ds)) : ∃ p vs, v = .ref p ∧ SqT K H p vs ∧ RpA K g vs ds := by
  rcases h with h | ⟨p, vs, ds', e1, e2, e3, e4⟩
  · cases h with
    | tup a b => exact ⟨_, _, rfl, Same.tseq w.fz a.t, b⟩
  · cases e1
theorem RpW.int {K : PySem.W.Frag} {g : G} {H : Hp} {v : V} {i : Int} (h : RpW K g H v (.int i)) : v = .int i := by
  rcases h with h | ⟨p, vs, ds', e1, e2, e3, e4⟩
  · cases h; rfl
  · cases e1
theorem RpW.str {K : PySem.W.Frag} {g : G} {H : Hp} {v : V} {i : Str} (h : RpW K g H v (.str i)) : v = .str i := by
  rcases h with h | ⟨p, vs, ds', e1, e2, e3, e4⟩
  · cases h; rfl
  · cases e1
theorem RpW.bl {K : PySem.W.Frag} {g : G} {H : Hp} {v : V} {i : Bool} (h : RpW K g H v (.bl i)) : v = .bl i := by
  rcases h with h | ⟨p, vs, ds', e1, e2, e3, e4⟩
  · cases h; rfl
  · cases e1
theorem RpW.non {K : PySem.W.Frag} {g : G} {H : Hp} {v : V} (h : RpW K g H v .non) : v = .non := by
  rcases h with h | ⟨p, vs, ds', e1, e2, e3, e4⟩
  · cases h; rfl
  · cases e1
/-- an operand, then what follows -/
theorem tE.seq {K : PySem.W.Frag} {C : Cn} {E : XK} {fa : Ex} {k : Sl → D → M D} {σ : L2.St} {H : Hp} {Q Q1 : VK} (h : tE K C E (fun S => bnd (fa S) (k S)) σ H Q)
    (f : ∀ g S t x d H1, Wf C g H1 t → SL K g H1 σ S → Rp K g x d → Post C E g H1 (fun d _ g' H' => ∀ v, Rp K g' v d → Q v H') (k S d t) → Q1 x H1) : tE K C E fa σ H Q1 := by
  obtain ⟨g, S, t, w, s, p⟩ := h
  exact ⟨g, S, t, w, s, p.bnd.imp fun d t' g' H' st w' q v r => f g' S t' v d H' w' (s.stp w st) r q⟩
theorem tW.seq {K : PySem.W.Frag} {C : Cn} {E : XK} {fa : Ex} {k : Sl → D → M D} {σ : L2.St} {H : Hp} {Q Q1 : VK} (h : tE K C E (fun S => bnd (fa S) (k S)) σ H Q)
    (f : ∀ g S t x d H1, Wf C g H1 t → SL K g H1 σ S → RpW K g H1 x d → Post C E g H1 (fun d _ g' H' => ∀ v, Rp K g' v d → Q v H') (k S d t) → Q1 x H1) : tW K C E fa σ H Q1 := by
  obtain ⟨g, S, t, w, s, p⟩ := h
  exact ⟨g, S, t, w, s, p.bnd.imp fun d t' g' H' st w' q v r => f g' S t' v d H' w' (s.stp w st) r q⟩
/-- a new object laid, tracked, not frozen -/
theorem Stp.lay {C : Cn} {g : G} {H : Hp} {t : Tn} {p : Addr} {o : HO} (w : Wf C g H t) (hp : H p = none) : Stp g H g (upd H p o) :=
  ⟨fun _ _ h => h, fun _ h => h, fun h a b e => (by rw [h] at e; cases e), fun b o' h _ _ => (by rw [upd_ne (ne_of_none h hp)]; exact h), fun b ⟨o', h, n⟩ => ⟨o', by rw [upd_ne (ne_of_none h hp)]; exact h, n⟩, fun _ _ => rfl⟩
theorem Wf.lay {C : Cn} {g : G} {H : Hp} {t : Tn} {p : Addr} {o : HO} (w : Wf C g H t) (hp : H p = none) : Wf C g (upd H p o) t where
  fz := fun b o' h => by rw [upd_ne (ne_of_none (w.fz b o' h) hp)]; exact w.fz b o' h
  tw := by
    cases t with
    | none => exact w.tw
    | some cr =>
      obtain ⟨a, b, e1, e2, e3, e4⟩ := w.tw
      exact ⟨a, b, e1, e2, by rw [upd_ne (ne_of_none e3 hp)]; exact e3, by rw [upd_ne (ne_of_none e4 hp)]; exact e4⟩
  ntw := w.ntw
  tab := w.tab.ext fun b o' h => by rw [upd_ne (ne_of_none h hp)]; exact h
  nft := w.nft
/-- .. frozen: a tuple -/
theorem layT {K : PySem.W.Frag} {C : Cn} {g : G} {H : Hp} {t : Tn} {p : Addr} {vs : List V} {ds : List D} {ob : Obj} (w : Wf C g H t) (hp : H p = none) (hd : ob.dict = none) (hc : ob.cls = .type "tuple") (r : RpA K g vs ds) :
    ∃ g', Stp g H g' (upd H p (.frz ob (.tup vs))) ∧ Wf C g' (upd H p (.frz ob (.tup vs))) t ∧ Rp K g' (.ref p) (.tup ds) := by
  have f0 : g.Fz p = none := w.fzN hp
  have sm : Same g.Fz (upd g.Fz p (.frz ob (.tup vs))) := fun b o h => by
    rw [upd_ne (ne_of_none h f0)]; exact h
  have s1 := Stp.lay (o := HO.frz ob (.tup vs)) w hp
  have w1 := Wf.lay (o := HO.frz ob (.tup vs)) w hp
  refine ⟨⟨upd g.Fz p (.frz ob (.tup vs)), g.tw⟩, ⟨sm, s1.tw, s1.twn, s1.frm, s1.thr, fun b h => ?_⟩, ⟨fun b o h => ?_, w1.tw, fun b h => ?_, w1.tab, nft_upd w1.nft fun _ z => by cases z⟩, ?_⟩
  · have nb : b ≠ p := fun z => Nt.no hp (by rw [← z]; exact h)
    show upd g.Fz p (.frz ob (.tup vs)) b = _
    rw [upd_ne nb]
  · have h : upd g.Fz p (.frz ob (.tup vs)) b = some o := h
    by_cases hb : b = p
    · rw [hb, upd_same] at h
      cases h
      rw [hb]; exact upd_same
    · rw [upd_ne hb] at h
      exact w1.fz b o h
  · have nb : b ≠ p := fun z => w.ntN hp (by rw [← z]; exact h)
    show upd g.Fz p (.frz ob (.tup vs)) b = _
    rw [upd_ne nb]
    exact w.ntw b h
  · exact .tup (.inl ⟨ob, upd_same, hd, hc⟩) (RpA.mono (g' := ⟨upd g.Fz p (.frz ob (.tup vs)), g.tw⟩) sm (fun _ h => h) r)
/-- a new list, not frozen yet -/
theorem layL {K : PySem.W.Frag} {C : Cn} {g : G} {H : Hp} {t : Tn} {p : Addr} {vs : List V} {ds : List D} (w : Wf C g H t) (hp : H p = none) (r : RpA K g vs ds) : RpF K H g (upd H p (.lst vs)) (.ref p) (.lst ds) :=
  ⟨p, vs, ds, rfl, rfl, Nt.no hp, upd_same, r, w.fzN hp⟩
end BG
set_option Elab.async false
set_option linter.all false
set_option maxRecDepth 100000
set_option maxHeartbeats 4000000
namespace BG
open PySem PySem.Spec PyProof.Rows L2
def eVar (i : Nat) : Ex := fun S => match S[i]? with
  | some (.val d) => ret d
  | _ => stuck
def ePeek (i : Nat) : Ex := fun S => match S[i]? with
  | some (.val d) => ret d
  | some (.own ds) => ret (.lst ds)
  | _ => stuck
def eC (d : D) : Ex := fun _ => ret d
def eBin (op : D → D → M D) (a b : Ex) : Ex := fun S => bnd (a S) fun x => bnd (b S) fun y => op x y
def eUn (op : D → M D) (a : Ex) : Ex := fun S => bnd (a S) fun x => op x
def evs : List Ex → Sl → M (List D)
  | [], _ => ret []
  | f :: fs, S => bnd (f S) fun d => bnd (evs fs S) fun ds => ret (d :: ds)
def eTup (fs : List Ex) : Ex := fun S => bnd (evs fs S) fun ds => ret (.tup ds)
def eLst (fs : List Ex) : Ex := fun S => bnd (evs fs S) fun ds => ret (.lst ds)
def eAnd (a b : Ex) : Ex := fun S => bnd (a S) fun x => match x with
  | .bl true => b S
  | .bl false => ret (.bl false)
  | _ => stuck
def eOr (a b : Ex) : Ex := fun S => bnd (a S) fun x => match x with
  | .bl true => ret (.bl true)
  | .bl false => b S
  | _ => stuck
def oNot (x : D) : M D := match x with
  | .bl b => ret (.bl (!b))
  | _ => stuck
def eIf (c a b : Ex) : Ex := fun S => bnd (c S) fun x => match x with
  | .bl true => a S
  | .bl false => b S
  | _ => stuck
theorem evs_length : ∀ {fs : List Ex} {S : Sl} {t t' : Tn} {ds : List D}, evs fs S t = some (.ok ds t') → ds.length = fs.length
  | [], _, _, _, ds, h => by
    have h : some (Out.ok ([] : List D) _) = some (Out.ok ds _) := h
    cases h; rfl
  | f :: fs, S, t, t', ds, h => by
    unfold evs bnd at h
    cases e : f S t with
    | none => rw [e] at h; cases h
    | some o =>
      rw [e] at h
      cases o with
      | exc c t1 => cases h
      | ok d t1 =>
        cases e2 : evs fs S t1 with
        | none => simp only [e2] at h; cases h
        | some o2 =>
          simp only [e2] at h
          cases o2 with
          | exc c t2 => cases h
          | ok ds2 t2 =>
            have h : some (Out.ok (d :: ds2) t2) = some (Out.ok ds t') := h
            cases h
            rw [List.length_cons, List.length_cons, evs_length e2]
section
variable {α : Type} {C : Cn} {E : XK} {g : G} {H : Hp} {Rok Rok' : α → Tn → G → Hp → Prop}
theorem Post.impE {r : Option (Out α)} (h : Post C E g H Rok r) (f : ∀ a t', r = some (.ok a t') → ∀ g' H', Stp g H g' H' → Wf C g' H' t' → Rok a t' g' H' → Rok' a t' g' H') : Post C E g H Rok' r := by
  cases r with
  | none => exact h
  | some o =>
    cases o with
    | ok a t' => exact fun g' H' s' w => f a t' rfl g' H' s' w (h g' H' s' w)
    | exc c t' => exact h
end
section
variable {X : Cx} {C : Cn} {E : XK}
theorem ce_var (i : Nat) {x : Str} {pos : Pos} (hN : X.N[i]? = some x := by rfl) (hv : Vis X.env.scope x := by first | exact Or.inl rfl | exact Or.inr (Or.inl rfl) | exact Or.inr (Or.inr rfl)) (hd : (x == ("__debug__" : Str)) = false := by decide)
    (hcd : (x == ("__classdict__" : Str)) = false := by decide) : CE X C E (.Name x pos) (eVar i) := by
  refine PE.imp (pe_var hN hv hd hcd) fun σ H Q ⟨g, S, t, w, s, p⟩ => ?_
  unfold eVar at p
  cases e : S[i]? with
  | none => rw [e] at p; exact p.elim
  | some sv =>
    rw [e] at p
    cases sv with
    | un => exact p.elim
    | own ds => exact p.elim
    | dic ks => exact p.elim
    | raw v => exact p.elim
    | exn v => exact p.elim
    | val d =>
      obtain ⟨v, h1, h2⟩ := s.val i d e
      exact ⟨v, h1, postRet p w v h2⟩
theorem cw_peek (i : Nat) {x : Str} {pos : Pos} (hN : X.N[i]? = some x := by rfl) (hv : Vis X.env.scope x := by first | exact Or.inl rfl | exact Or.inr (Or.inl rfl) | exact Or.inr (Or.inr rfl)) (hd : (x == ("__debug__" : Str)) = false := by decide)
    (hcd : (x == ("__classdict__" : Str)) = false := by decide) : CW X C E (.Name x pos) (ePeek i) := by
  refine PE.imp (pe_var hN hv hd hcd) fun σ H Q ⟨g, S, t, w, s, p⟩ => ?_
  unfold ePeek at p
  cases e : S[i]? with
  | none => rw [e] at p; exact p.elim
  | some sv =>
    rw [e] at p
    cases sv with
    | un => exact p.elim
    | dic ks => exact p.elim
    | raw v => exact p.elim
    | exn v => exact p.elim
    | own ds =>
      obtain ⟨a, vs, h1, h2, h3, h4⟩ := s.own i ds e
      exact ⟨_, h1, postRet p w _ (.inr ⟨a, vs, ds, rfl, rfl, h2, h3⟩)⟩
    | val d =>
      obtain ⟨v, h1, h2⟩ := s.val i d e
      exact ⟨v, h1, postRet p w v (.inl h2)⟩
theorem ce_int {i j pos} : CE X C E (.Constant (.int i) j pos) (eC (.int i)) := PE.imp pe_int fun σ H Q ⟨g, S, t, w, s, p⟩ => postRet p w _ (.int i)
theorem ce_bl {i j pos} : CE X C E (.Constant (.bool i) j pos) (eC (.bl i)) := PE.imp pe_bl fun σ H Q ⟨g, S, t, w, s, p⟩ => postRet p w _ (.bl i)
/-- a module's constant: its value in the written part -/
theorem ce_glob {x : Str} {v : V} {u : Value} {d : D} {pos : Pos} (hm : X.mg x = some u) (hr : RelV v u) (r : ∀ g, Rp X.K g v d) (hg : Gl X x := by rfl) (hd : (x == ("__debug__" : Str)) = false := by decide) : CE X C E (.Name x pos) (eC d) :=
  PE.imp (pe_glob hg hm hr hd) fun σ H Q ⟨g, S, t, w, s, p⟩ => postRet p w _ (r g)
/-- two operands by values: a law of an operation -/
def rD (K : PySem.W.Frag) (C : Cn) (E : XK) (prim : D → D → M D) : R2 := fun x y H Q => ∃ g t p q, Wf C g H t ∧ RpW K g H x p ∧ RpW K g H y q ∧ Post C E g H (fun d _ g' H' => ∀ v, Rp K g' v d → Q v H') (prim p q t)
abbrev BinOk (X : Cx) (C : Cn) (E : XK) (f : Value → Value → Sem Value) (prim : D → D → M D) : Prop := OpR X f (rD X.K C E prim)
theorem OpR.imp {f : Value → Value → Sem Value} {r r' : R2} (h : OpR X f r) (i : ∀ x y H Q, r' x y H Q → r x y H Q) : OpR X f r' := fun pins s σ H x y v u Q I rx ry q => h pins s σ H x y v u Q I rx ry (i x y H Q q)
theorem tW.two {prim : D → D → M D} {fa fb : Ex} {σ : L2.St} {H : Hp} {Q : VK} (h : tE X.K C E (eBin prim fa fb) σ H Q) : tOp (rD X.K C E prim) (tW X.K C E fa) (tW X.K C E fb) σ H Q := by
  refine tW.seq h fun g S t x d H1 w s rx p1 => ?_
  exact ⟨g, S, t, w, s, p1.bnd.imp fun d2 t2 g2 H2 st w2 q v r2 => ⟨g2, t2, d, d2, w2, rx.stp w st, r2, q⟩⟩
theorem ce_bin {op : Operator} {prim : D → D → M D} {a b : Expr} {fa fb : Ex} {pos : Pos} (ho : BinOk X C E (binaryOp op) prim) (ha : CW X C E a fa) (hb : CW X C E b fb) : CE X C E (.BinOp a op b pos) (eBin prim fa fb) :=
  PE.imp (pe_op ho ha hb) fun σ H Q h => tW.two h
theorem ce_cmp {op : CmpOp} {prim : D → D → M D} {a b : Expr} {fa fb : Ex} {pos : Pos} (ho : BinOk X C E (compareOp op) prim) (ha : CW X C E a fa) (hb : CW X C E b fb) (hm : behindInMarks op b = false := by rfl) :
    CE X C E (.Compare a [op] [b] pos) (eBin prim fa fb) := PE.imp (pe_cmpR ho ha hb hm) fun σ H Q h => tW.two h
theorem tT.tE {f : Ex} {σ : L2.St} {H : Hp} {Q : Bool → Hp → Prop} (h : tT X.K C E f σ H Q) : tE X.K C E f σ H (fun x H' => ∃ k, x = .bl k ∧ Q k H') := by
  obtain ⟨g, S, t, w, s, p⟩ := h
  exact ⟨g, S, t, w, s, p.imp fun d t' g' H' _ _ ⟨b, e, q⟩ v r => by
    subst e
    cases r
    exact ⟨b, rfl, q⟩⟩
theorem ct_cmp {op : CmpOp} {prim : D → D → M D} {a b : Expr} {fa fb : Ex} {pos : Pos} (ho : BinOk X C E (compareOp op) prim) (ha : CW X C E a fa) (hb : CW X C E b fb) (hm : behindInMarks op b = false := by rfl) :
    CT X C E (.Compare a [op] [b] pos) (eBin prim fa fb) := PT.imp (pt_cmpR ho ha hb hm) fun σ H Q h => tW.two (tT.tE h)
/-- any expression that gives a bool, as a test -/
theorem ct_val {e : Expr} {f : Ex} (h : CE X C E e f) (he : ∀ whole, isTrue e X.env whole = (do let v ← whole; standAt e.pos; holding [v] (truthy v)) := by intro _; rfl) : CT X C E e f :=
  PT.imp (pt_val h he) fun σ H Q h => tT.tE h
theorem tE.and {fa fb : Ex} {σ : L2.St} {H : Hp} {Q : VK} (h : tE X.K C E (eAnd fa fb) σ H Q) : tAndV (tE X.K C E fa) (tE X.K C E fb) σ H Q := by
  refine tE.seq h fun g S t x d H1 w s rx p1 => ?_
  cases d with
  | bl b =>
    cases rx
    refine ⟨b, rfl, ?_⟩
    cases b with
    | true => exact iteT ⟨g, S, t, w, s, p1⟩
    | false => exact iteF (postRet p1 w _ (.bl false))
  | _ => exact p1.elim
theorem tE.or {fa fb : Ex} {σ : L2.St} {H : Hp} {Q : VK} (h : tE X.K C E (eOr fa fb) σ H Q) : tOrV (tE X.K C E fa) (tE X.K C E fb) σ H Q := by
  refine tE.seq h fun g S t x d H1 w s rx p1 => ?_
  cases d with
  | bl b =>
    cases rx
    refine ⟨b, rfl, ?_⟩
    cases b with
    | false => exact iteF ⟨g, S, t, w, s, p1⟩
    | true => exact iteT (postRet p1 w _ (.bl true))
  | _ => exact p1.elim
theorem ce_one {op} {a : Expr} {f : Ex} {pos : Pos} (h : CE X C E a f) : CE X C E (.BoolOp op [a] pos) f := pe_one h
theorem ce_and {a b : Expr} {rest : List Expr} {fa fb : Ex} {pos : Pos} (ha : CE X C E a fa) (hb : CE X C E (.BoolOp .And (b :: rest) pos) fb) : CE X C E (.BoolOp .And (a :: b :: rest) pos) (eAnd fa fb) := PE.imp (pe_and ha hb) fun σ H Q h => tE.and h
theorem ce_not {a : Expr} {fa : Ex} {pos : Pos} (ha : CE X C E a fa) : CE X C E (.UnaryOp .Not a pos) (eUn oNot fa) := PE.imp (pe_not ha) fun σ H Q h => by
  refine tE.seq h fun g S t x d H1 w s rx p1 => ?_
  cases d with
  | bl b =>
    cases rx
    exact ⟨b, rfl, postRet p1 w _ (.bl _)⟩
  | _ => exact p1.elim
/-- a test, then what follows -/
theorem tT.seq {fa : Ex} {k : D → M D} {σ : L2.St} {H : Hp} {Rr : D → Tn → G → Hp → Prop} {Q1 : Bool → Hp → Prop} {g : G} {S : Sl} {t : Tn} (w : Wf C g H t) (s : SL X.K g H σ S) (p : Post C E g H Rr (bnd (fa S) k t)) (nb : ∀ d t, (∀ b, d ≠ .bl b) → k d t = none)
    (f : ∀ g t b H1, Wf C g H1 t → SL X.K g H1 σ S → Post C E g H1 Rr (k (.bl b) t) → Q1 b H1) : tT X.K C E fa σ H Q1 := by
  refine ⟨g, S, t, w, s, p.bnd.imp fun d t' g' H' st w' q => ?_⟩
  by_cases h : ∃ b, d = .bl b
  · obtain ⟨b, rfl⟩ := h
    exact ⟨b, rfl, f g' t' b H' w' (s.stp w st) q⟩
  · have q : Post C E g' H' Rr (k d t') := q
    rw [nb d t' (fun b z => h ⟨b, z⟩)] at q
    exact q.elim
theorem cw_and {a b : Expr} {rest : List Expr} {fa fb : Ex} {pos : Pos} (ha : CT X C E a fa) (hb : PW X (.BoolOp .And (b :: rest) pos) (tT X.K C E fb)) : PW X (.BoolOp .And (a :: b :: rest) pos) (tT X.K C E (eAnd fa fb)) := by
  refine ⟨fun wh pins s σ H Q I h => (pw_and ha hb).run wh pins s σ H Q I ?_⟩
  obtain ⟨g, S, t, w, sl, p⟩ := h
  refine tT.seq (k := fun x => match x with | .bl true => fb S | .bl false => ret (.bl false) | _ => stuck) w sl p (fun d t h => ?_) fun g t b H1 w s p => ?_
  · cases d <;> first | rfl | exact absurd rfl (h _)
  · cases b with
    | true => exact iteT ⟨g, S, t, w, s, p⟩
    | false =>
      obtain ⟨b, e, q⟩ := postRet p w
      cases e
      exact iteF q
theorem cw_or {a b : Expr} {rest : List Expr} {fa fb : Ex} {pos : Pos} (ha : CT X C E a fa) (hb : PW X (.BoolOp .Or (b :: rest) pos) (tT X.K C E fb)) : PW X (.BoolOp .Or (a :: b :: rest) pos) (tT X.K C E (eOr fa fb)) := by
  refine ⟨fun wh pins s σ H Q I h => (pw_or ha hb).run wh pins s σ H Q I ?_⟩
  obtain ⟨g, S, t, w, sl, p⟩ := h
  refine tT.seq (k := fun x => match x with | .bl true => ret (.bl true) | .bl false => fb S | _ => stuck) w sl p (fun d t h => ?_) fun g t b H1 w s p => ?_
  · cases d <;> first | rfl | exact absurd rfl (h _)
  · cases b with
    | false => exact iteF ⟨g, S, t, w, s, p⟩
    | true =>
      obtain ⟨b, e, q⟩ := postRet p w
      cases e
      exact iteT q
theorem ct_w {e : Expr} {f : Ex} (h : PW X e (tT X.K C E f)) : CT X C E e f := h.pt
theorem ct_not {a : Expr} {fa : Ex} {pos : Pos} (ha : CT X C E a fa) : CT X C E (.UnaryOp .Not a pos) (eUn oNot fa) := PT.imp (pt_not ha) fun σ H Q h => by
  obtain ⟨g, S, t, w, sl, p⟩ := h
  refine tT.seq (k := oNot) w sl p (fun d t h => ?_) fun g t b H1 w s p => ?_
  · cases d <;> first | rfl | exact absurd rfl (h _)
  · obtain ⟨b, e, q⟩ := postRet p w
    cases e
    exact q
theorem ce_if {c a b : Expr} {fc fa fb : Ex} {pos : Pos} (hc : CT X C E c fc) (ha : CE X C E a fa) (hb : CE X C E b fb) : CE X C E (.IfExp c a b pos) (eIf fc fa fb) := PE.imp (pe_ifExp hc ha hb) fun σ H Q h => by
  obtain ⟨g, S, t, w, sl, p⟩ := h
  refine tT.seq (k := fun x => match x with | .bl true => fa S | .bl false => fb S | _ => stuck) w sl p (fun d t h => ?_) fun g t b H1 w s p => ?_
  · cases d <;> first | rfl | exact absurd rfl (h _)
  · cases b with
    | true => exact iteT ⟨g, S, t, w, s, p⟩
    | false => exact iteF ⟨g, S, t, w, s, p⟩
theorem ca_nil : CA X C E [] (evs []) := PA.imp pa_nil fun σ H Q ⟨g, S, t, w, s, p⟩ => postRet p w _ .nil
theorem ca_cons {e : Expr} {es : List Expr} {f : Ex} {fs : List Ex} (ha : CE X C E e f) (hr : CA X C E es (evs fs)) (hs : starEach (e :: es) X.env = (false, eval e X.env) :: starEach es X.env := by rfl) : CA X C E (e :: es) (evs (f :: fs)) :=
  PA.imp (pa_cons ha hr hs) fun σ H Q ⟨g, S, t, w, s, p⟩ => ⟨g, S, t, w, s, p.bnd.imp fun d t1 g1 H1 st1 w1 q v r => ⟨g1, S, t1, w1, s.stp w st1, q.bnd.imp fun ds t2 g2 H2 st2 w2 q2 vs rs => postRet q2 w2 _ (.cons (r.stp st2) rs)⟩⟩
theorem Post.evs {fs : List Ex} {S : Sl} {t : Tn} {g : G} {H : Hp} {Rok : List D → Tn → G → Hp → Prop} (p : Post C E g H Rok (evs fs S t)) : Post C E g H (fun ds t' g' H' => ds.length = fs.length ∧ Rok ds t' g' H') (evs fs S t) :=
  p.impE fun a t' e g' H' _ _ r => ⟨evs_length e, r⟩
theorem ce_tup {es : List Expr} {fs : List Ex} {x1} {pos : Pos} (h : CA X C E es (evs fs)) (hl : fs.length ≤ sizeLine := by decide) : CE X C E (.Tuple es x1 pos) (eTup fs) := PE.imp (pe_tupN h) fun σ H Q ⟨g, S, t, w, s, p⟩ =>
  ⟨g, S, t, w, s, (Post.evs p.bnd).imp fun ds t1 g1 H1 st1 w1 ⟨el, q⟩ vs rs => ⟨by rw [rs.length, el]; exact hl, fun a ob ha hd hcl => by
    obtain ⟨g2, s2, w2, r2⟩ := layT w1 ha hd hcl rs
    exact q g2 _ s2 w2 _ r2⟩⟩
theorem cf_lst {es : List Expr} {fs : List Ex} {pos : Pos} (h : CA X C E es (evs fs)) (hl : fs.length ≤ sizeLine := by decide) : CF X C E (.List es pos) (eLst fs) := PE.imp (pe_lst h) fun σ H Q ⟨g, S, t, w, s, p⟩ =>
  ⟨g, S, t, w, s, (Post.evs p.bnd).imp fun ds t1 g1 H1 st1 w1 ⟨el, q⟩ vs rs => ⟨by rw [rs.length, el]; exact hl, fun a ha => by
    obtain ⟨p', vs', ds', e1, e2, e3, e4, e5, e6⟩ := layL (H := H1) w1 ha rs
    have h0 : ¬ Nt H a := fun z => Nt.no ha (st1.thr a z)
    exact q g1 _ (Stp.lay w1 ha) (Wf.lay w1 ha) _ ⟨a, vs, ds, rfl, rfl, h0, upd_same, rs, w1.fzN ha⟩⟩⟩
end
end BG
set_option Elab.async false
set_option linter.all false
set_option maxRecDepth 100000
set_option maxHeartbeats 4000000
namespace BG
open PySem PySem.Spec PyProof.Rows L2
mutual
def D.py : D → PyData
  | .non => .none
  | .bl b => .bool b
  | .int i => .int i
  | .str x => .str x
  | .tup xs => .tuple (pyA xs)
  | .lst xs => .list (pyA xs)
  | .town => .none
  | .scr _ => .none
  | .dct _ _ => .none
def pyA : List D → List PyData
  | [] => []
  | d :: ds => d.py :: pyA ds
end
mutual
def okD : D → Nat → Bool
  | .non, _ => true
  | .bl _, _ => true
  | .int _, _ => true
  | .str x, _ => PyData.strOk x
  | .tup xs, n => match n with
    | 0 => false
    | m + 1 => okA xs m
  | .lst xs, n => match n with
    | 0 => false
    | m + 1 => okA xs m
  | .town, _ => false
  | .scr _, _ => false
  | .dct _ _, _ => false
def okA : List D → Nat → Bool
  | [], _ => true
  | d :: ds, n => okD d n && okA ds n
end
theorem okA_all : ∀ (ds : List D) (n : Nat), okA ds n = ds.all fun d => okD d n
  | [], _ => rfl
  | d :: ds, n => by rw [okA, List.all_cons, okA_all ds n]
mutual
theorem okD_lay : ∀ (d : D) (n : Nat), okD d n = true → d.py.canLay0 = true ∧ d.py.depth ≤ n
  | .non, _, _ => by rw [D.py]; exact ⟨rfl, Nat.zero_le _⟩
  | .bl _, _, _ => by rw [D.py]; exact ⟨rfl, Nat.zero_le _⟩
  | .int _, _, _ => by rw [D.py]; exact ⟨rfl, Nat.zero_le _⟩
  | .str x, _, h => by rw [D.py]; exact ⟨h, Nat.zero_le _⟩
  | .tup xs, 0, h => by cases h
  | .tup xs, n + 1, h => by
    obtain ⟨a, b⟩ := okA_lay xs n h
    rw [D.py]
    exact ⟨a, Nat.succ_le_succ b⟩
  | .lst xs, 0, h => by cases h
  | .lst xs, n + 1, h => by
    obtain ⟨a, b⟩ := okA_lay xs n h
    rw [D.py]
    exact ⟨a, Nat.succ_le_succ b⟩
  | .town, _, h => by cases h
  | .scr _, _, h => by cases h
  | .dct _ _, _, h => by cases h
theorem okA_lay : ∀ (ds : List D) (n : Nat), okA ds n = true → PyData.canLayAll0 (pyA ds) = true ∧ PyData.depthAll (pyA ds) ≤ n
  | [], _, _ => ⟨rfl, Nat.zero_le _⟩
  | d :: ds, n, h => by
    have h : (okD d n && okA ds n) = true := h
    rw [Bool.and_eq_true] at h
    obtain ⟨a1, a2⟩ := okD_lay d n h.1
    obtain ⟨b1, b2⟩ := okA_lay ds n h.2
    refine ⟨?_, ?_⟩
    · show (d.py.canLay0 && PyData.canLayAll0 (pyA ds)) = true
      rw [a1, b1]; rfl
    · show max d.py.depth (PyData.depthAll (pyA ds)) ≤ n
      exact Nat.max_le.mpr ⟨a2, b2⟩
end
theorem shaped_of {d : D} {n : Nat} (h : okD d n = true) (hn : n ≤ 64) : SeqAt.shaped d.py = true := by
  obtain ⟨a, b⟩ := okD_lay d n h
  unfold SeqAt.shaped
  rw [a, decide_eq_true (Nat.le_trans b hn)]; rfl
section
variable {K : PySem.W.Frag} {C : Cn} {g : G} {H : Hp} {t : Tn}
mutual
theorem Rp.dp (w : Wf C g H t) : ∀ {d : D} {v : V} {n : Nat}, Rp K g v d → okD d n = true → Dp K H v d.py
  | .non, _, _, h, _ => by cases h; rw [D.py]; exact .non
  | .bl b, _, _, h, _ => by cases h; rw [D.py]; exact .bl b
  | .int i, _, _, h, _ => by cases h; rw [D.py]; exact .int i
  | .str x, _, _, h, _ => by cases h; rw [D.py]; exact .str x
  | .tup ds, _, 0, h, o => by cases o
  | .tup ds, _, n + 1, h, o => by
    cases h with
    | tup s a => rw [D.py]; exact .tup (Same.tseq w.fz s.t) (RpA.dp w a o)
  | .lst ds, _, 0, h, o => by cases o
  | .lst ds, _, n + 1, h, o => by
    cases h with
    | lst s a => rw [D.py]; exact .lst (.inl (.inl (w.fz _ _ s))) (RpA.dp w a o)
  | .town, _, _, h, o => by cases o
  | .scr _, _, _, h, o => by cases o
  | .dct _ _, _, _, h, o => by cases o
theorem RpA.dp (w : Wf C g H t) : ∀ {ds : List D} {vs : List V} {n : Nat}, RpA K g vs ds → okA ds n = true → DpAll K H vs (pyA ds)
  | [], _, _, h, _ => by cases h; exact .nil
  | d :: ds, _, n, h, o => by
    have o : (okD d n && okA ds n) = true := o
    rw [Bool.and_eq_true] at o
    cases h with
    | cons a b => exact .cons (Rp.dp w a o.1) (RpA.dp w b o.2)
end
theorem RpW.dp (w : Wf C g H t) {d : D} {v : V} {n : Nat} (h : RpW K g H v d) (o : okD d n = true) : Dp K H v d.py := by
  rcases h with h | ⟨p, vs, ds, rfl, rfl, e3, e4⟩
  · exact h.dp w o
  · cases n with
    | zero => cases o
    | succ n => rw [D.py]; exact .lst (.inl (.inl e3)) (e4.dp w o)
end
section
variable {K : PySem.W.Frag} {C : Cn} {E : XK} {g : G} {H : Hp} {t : Tn} {Q : VK}
abbrev PostQ (K : PySem.W.Frag) (C : Cn) (E : XK) (g : G) (H : Hp) (Q : VK) (r : Option (Out D)) : Prop := Post C E g H (fun d _ g' H' => ∀ v, Rp K g' v d → Q v H') r
theorem pRetV {d : D} {v : V} (p : PostQ K C E g H Q (ret d t)) (w : Wf C g H t) (r : Rp K g v d) : Q v H := postRet p w v r
theorem pRetT {ds : List D} {vs : List V} (p : PostQ K C E g H Q (ret (.tup ds) t)) (w : Wf C g H t) (r : RpA K g vs ds) : NewT H Q vs := fun a ob ha hd hcl => by
  obtain ⟨g2, s2, w2, r2⟩ := layT w ha hd hcl r
  exact p g2 _ s2 w2 _ r2
theorem pRetL {ds : List D} {vs : List V} (p : PostQ K C E g H Q (ret (.lst ds) t)) (w : Wf C g H t) (r : RpA K g vs ds) (a : Addr) (ha : H a = none) : Q (.ref a) (upd H a (.lst vs)) := by
  obtain ⟨g2, s2, w2, r2⟩ := Rp.frz (layL w ha r) (Stp.lay w ha) (Wf.lay w ha)
  exact p g2 _ s2 w2 _ r2
end
def pAdd : D → D → M D
  | .int i, .int j => ret (.int (i + j))
  | .str x, .str y => if x.length + y.length ≤ sizeLine then ret (.str (x ++ y)) else stuck
  | .tup xs, .tup ys => if xs.length + ys.length ≤ sizeLine then ret (.tup (xs ++ ys)) else stuck
  | .lst xs, .lst ys => if xs.length + ys.length ≤ sizeLine then ret (.lst (xs ++ ys)) else stuck
  | _, _ => stuck
def pSub : D → D → M D
  | .int i, .int j => ret (.int (i - j))
  | _, _ => stuck
def pMul : D → D → M D
  | .int i, .int j => if -(2 ^ 64) < i ∧ i < 2 ^ 64 then ret (.int (i * j)) else stuck
  | .tup xs, .int k => if xs ≠ [] ∧ 2 ≤ k ∧ k ≤ 1000 ∧ xs.length ≤ 1000 then ret (.tup (List.replicate k.toNat xs).flatten) else stuck
  | .lst xs, .int k => if 0 ≤ k ∧ k ≤ 1000 ∧ xs.length ≤ 1000 then ret (.lst (List.replicate k.toNat xs).flatten) else stuck
  | _, _ => stuck
def pMod : D → D → M D
  | .int i, .int j => if 0 < j then ret (.int (i % j)) else stuck
  | _, _ => stuck
def pDiv : D → D → M D
  | .int i, .int j => if 0 < j ∧ j < 1073741824 then ret (.int (i / j)) else stuck
  | _, _ => stuck
def pXor : D → D → M D
  | .int i, .int j => ret (.int (Builtin.bitXor i j))
  | _, _ => stuck
def pEq (p q : D) : M D := if okD p 60 = true ∧ okD q 60 = true then ret (.bl (PyData.eqv p.py q.py)) else stuck
def pNe (p q : D) : M D := if okD p 60 = true ∧ okD q 60 = true then ret (.bl (!PyData.eqv p.py q.py)) else stuck
def pLt : D → D → M D
  | .int i, .int j => ret (.bl (decide (i < j)))
  | .str i, .str j => ret (.bl (decide (i.cps.toList < j.cps.toList)))
  | _, _ => stuck
def pLe : D → D → M D
  | .int i, .int j => ret (.bl (decide (i ≤ j)))
  | _, _ => stuck
def pGt : D → D → M D
  | .int i, .int j => ret (.bl (decide (j < i)))
  | _, _ => stuck
def pGe : D → D → M D
  | .int i, .int j => ret (.bl (decide (j ≤ i)))
  | _, _ => stuck
def inD (p : D) (ds : List D) : Bool := ds.any fun d => PyData.eqv d.py p.py
def pIn : D → D → M D
  | p, .tup ds => if okD p 60 = true ∧ okA ds 60 = true then ret (.bl (inD p ds)) else stuck
  | p, .lst ds => if okD p 60 = true ∧ okA ds 60 = true then ret (.bl (inD p ds)) else stuck
  | _, _ => stuck
def isN : D → Bool
  | .non => true
  | _ => false
def pIs : D → D → M D
  | p, .non => ret (.bl (isN p))
  | _, _ => stuck
def pIsNot : D → D → M D
  | p, .non => ret (.bl (!isN p))
  | _, _ => stuck
section
variable {X : Cx} {C : Cn} {E : XK}
theorem bin_add : BinOk X C E (binaryOp .Add) pAdd := OpR.imp (op_add.or (op_add_str.or (op_catN.or op_cat))) fun x y H Q ⟨g, t, p, q, w, rx, ry, h⟩ => by
  cases p with
  | int i =>
    cases q with
    | int j => exact .inl ⟨i, j, rx.int, ry.int, pRetV h w (.int _)⟩
    | _ => exact h.elim
  | str i =>
    cases q with
    | str j =>
      have h : PostQ X.K C E g H Q ((if i.length + j.length ≤ sizeLine then ret (.str (i ++ j)) else stuck) t) := h
      split at h
      · exact .inr (.inl ⟨i, j, rx.str, ry.str, by assumption, pRetV h w (.str _)⟩)
      · exact h.elim
    | _ => exact h.elim
  | tup xs =>
    cases q with
    | tup ys =>
      have h : PostQ X.K C E g H Q ((if xs.length + ys.length ≤ sizeLine then ret (.tup (xs ++ ys)) else stuck) t) := h
      split at h
      · obtain ⟨a, vs, rfl, e1, r1⟩ := rx.tup w
        obtain ⟨b, us, rfl, e2, r2⟩ := ry.tup w
        refine .inr (.inr (.inl ⟨a, b, vs, us, rfl, rfl, e1, e2, by rw [r1.length, r2.length]; assumption, fun z => ?_, fun z z2 => ?_, fun _ _ => pRetT h w (r1.app r2)⟩))
        · subst z
          have e0 : xs = [] := List.eq_nil_of_length_eq_zero r1.length.symm
          subst e0
          rcases ry with ry | ⟨_, _, _, z, _⟩
          · exact pRetV h w ry
          · cases z
        · subst z2
          have e0 : ys = [] := List.eq_nil_of_length_eq_zero r2.length.symm
          subst e0
          rw [List.append_nil] at h
          rcases rx with rx | ⟨_, _, _, z, _⟩
          · exact pRetV h w rx
          · cases z
      · exact h.elim
    | _ => exact h.elim
  | lst xs =>
    cases q with
    | lst ys =>
      have h : PostQ X.K C E g H Q ((if xs.length + ys.length ≤ sizeLine then ret (.lst (xs ++ ys)) else stuck) t) := h
      split at h
      · obtain ⟨a, vs, rfl, e1, r1⟩ := rx.lst w
        obtain ⟨b, us, rfl, e2, r2⟩ := ry.lst w
        exact .inr (.inr (.inr ⟨a, b, vs, us, rfl, rfl, e1, e2, by rw [r1.length, r2.length]; assumption, fun p hp => pRetL h w (r1.app r2) p hp⟩))
      · exact h.elim
    | _ => exact h.elim
  | _ => cases q <;> exact h.elim
theorem bin_sub : BinOk X C E (binaryOp .Sub) pSub := OpR.imp op_sub fun x y H Q ⟨g, t, p, q, w, rx, ry, h⟩ => by
  cases p <;> cases q <;> first | exact ⟨_, _, rx.int, ry.int, pRetV h w (.int _)⟩ | exact h.elim
theorem bin_mod : BinOk X C E (binaryOp .Mod) pMod := OpR.imp op_mod fun x y H Q ⟨g, t, p, q, w, rx, ry, h⟩ => by
  cases p <;> cases q <;> first | exact h.elim | skip
  rename_i i j
  have h : PostQ X.K C E g H Q ((if 0 < j then ret (.int (i % j)) else stuck) t) := h
  split at h
  · exact ⟨_, _, rx.int, ry.int, by assumption, pRetV h w (.int _)⟩
  · exact h.elim
theorem bin_div : BinOk X C E (binaryOp .FloorDiv) pDiv := OpR.imp op_fdiv fun x y H Q ⟨g, t, p, q, w, rx, ry, h⟩ => by
  cases p <;> cases q <;> first | exact h.elim | skip
  rename_i i j
  have h : PostQ X.K C E g H Q ((if 0 < j ∧ j < 1073741824 then ret (.int (i / j)) else stuck) t) := h
  split at h
  · exact ⟨_, _, rx.int, ry.int, by assumption, pRetV h w (.int _)⟩
  · exact h.elim
theorem bin_mul : BinOk X C E (binaryOp .Mult) pMul := OpR.imp (op_mul.or (op_repN.or op_rep)) fun x y H Q ⟨g, t, p, q, w, rx, ry, h⟩ => by
  cases p with
  | int i =>
    cases q with
    | int j =>
      have h : PostQ X.K C E g H Q ((if -(2 ^ 64) < i ∧ i < 2 ^ 64 then ret (.int (i * j)) else stuck) t) := h
      split at h
      · exact .inl ⟨i, j, rx.int, ry.int, .inl (by assumption), pRetV h w (.int _)⟩
      · exact h.elim
    | _ => exact h.elim
  | tup xs =>
    cases q with
    | int k =>
      have h : PostQ X.K C E g H Q ((if xs ≠ [] ∧ 2 ≤ k ∧ k ≤ 1000 ∧ xs.length ≤ 1000 then ret (.tup (List.replicate k.toNat xs).flatten) else stuck) t) := h
      split at h
      · rename_i hc
        obtain ⟨a, vs, rfl, e1, r1⟩ := rx.tup w
        refine .inr (.inl ⟨a, k, vs, rfl, ry.int, e1, fun z => hc.1 ?_, hc.2.1, hc.2.2.1, by rw [r1.length]; exact hc.2.2.2, pRetT h w (r1.rep _)⟩)
        subst z
        exact List.eq_nil_of_length_eq_zero r1.length.symm
      · exact h.elim
    | _ => exact h.elim
  | lst xs =>
    cases q with
    | int k =>
      have h : PostQ X.K C E g H Q ((if 0 ≤ k ∧ k ≤ 1000 ∧ xs.length ≤ 1000 then ret (.lst (List.replicate k.toNat xs).flatten) else stuck) t) := h
      split at h
      · rename_i hc
        obtain ⟨a, vs, rfl, e1, r1⟩ := rx.lst w
        refine .inr (.inr ⟨a, k, vs, rfl, ry.int, e1, by omega, by omega, ?_, fun p hp => pRetL h w (r1.rep _) p hp⟩)
        rw [r1.length, sizeLine_eq]
        have a1 : xs.length * k.toNat ≤ 1000 * 1000 := Nat.mul_le_mul hc.2.2 (by omega)
        omega
      · exact h.elim
    | _ => exact h.elim
  | _ => cases q <;> exact h.elim
theorem bin_eq (hu : X.A.units + 64 < cLine) : BinOk X C E (compareOp .Eq) pEq := OpR.imp (op_eqD hu) fun x y H Q ⟨g, t, p, q, w, rx, ry, h⟩ => by
  unfold pEq at h
  split at h
  · rename_i hc
    exact ⟨p.py, q.py, rx.dp w hc.1, ry.dp w hc.2, shaped_of hc.1 (by decide), shaped_of hc.2 (by decide), pRetV h w (.bl _)⟩
  · exact h.elim
theorem bin_ne (hu : X.A.units + 64 < cLine) : BinOk X C E (compareOp .NotEq) pNe := OpR.imp (op_neD hu) fun x y H Q ⟨g, t, p, q, w, rx, ry, h⟩ => by
  unfold pNe at h
  split at h
  · rename_i hc
    exact ⟨p.py, q.py, rx.dp w hc.1, ry.dp w hc.2, shaped_of hc.1 (by decide), shaped_of hc.2 (by decide), pRetV h w (.bl _)⟩
  · exact h.elim
theorem bin_lt : BinOk X C E (compareOp .Lt) pLt := OpR.imp (op_lt.or op_lt_str) fun x y H Q ⟨g, t, p, q, w, rx, ry, h⟩ => by
  cases p <;> cases q <;> first | exact h.elim | exact .inl ⟨_, _, rx.int, ry.int, pRetV h w (.bl _)⟩ | exact .inr ⟨_, _, rx.str, ry.str, pRetV h w (.bl _)⟩
theorem bin_le : BinOk X C E (compareOp .LtE) pLe := OpR.imp op_le fun x y H Q ⟨g, t, p, q, w, rx, ry, h⟩ => by
  cases p <;> cases q <;> first | exact h.elim | exact ⟨_, _, rx.int, ry.int, pRetV h w (.bl _)⟩
theorem bin_gt : BinOk X C E (compareOp .Gt) pGt := OpR.imp op_gt fun x y H Q ⟨g, t, p, q, w, rx, ry, h⟩ => by
  cases p <;> cases q <;> first | exact h.elim | exact ⟨_, _, rx.int, ry.int, pRetV h w (.bl _)⟩
theorem bin_ge : BinOk X C E (compareOp .GtE) pGe := OpR.imp op_ge fun x y H Q ⟨g, t, p, q, w, rx, ry, h⟩ => by
  cases p <;> cases q <;> first | exact h.elim | exact ⟨_, _, rx.int, ry.int, pRetV h w (.bl _)⟩
end
end BG
set_option Elab.async false
set_option linter.all false
set_option maxRecDepth 100000
set_option maxHeartbeats 4000000
namespace BG
open PySem PySem.Spec PyProof.Rows L2
def pIdx : D → D → M D
  | .tup ds, .int i => match atI ds i with
    | some d => ret d
    | none => stuck
  | .lst ds, .int i => match atI ds i with
    | some d => ret d
    | none => stuck
  | .scr ns, .int i => match atI ns i with
    | some n => ret (.int n)
    | none => stuck
  | _, _ => stuck
theorem RpW.scr {K : PySem.W.Frag} {C : Cn} {g : G} {H : Hp} {t : Tn} {v : V} {ns : List Int} (w : Wf C g H t) (h : RpW K g H v (.scr ns)) : ∃ p, v = .ref p ∧ SqL K H p (ns.map V.int) := by
  rcases h with h | ⟨p, vs, ds', e1, e2, e3, e4⟩
  · cases h with
    | scr a => exact ⟨_, rfl, Same.seq w.fz a⟩
  · cases e1
theorem RpA.atI {K : PySem.W.Frag} {g : G} {vs : List V} {ds : List D} {i : Int} {d : D} (r : RpA K g vs ds) (h : atI ds i = some d) : ∃ v, L2.atI vs i = some v ∧ Rp K g v d := by
  unfold L2.atI at h ⊢
  rw [r.length]
  cases e : ixN ds.length i with
  | none => rw [e] at h; cases h
  | some j =>
    rw [e] at h
    exact r.get h
section
variable {X : Cx} {C : Cn} {E : XK}
theorem IxR.imp {r r' : R2} (h : IxR X r) (i : ∀ x y H Q, r' x y H Q → r x y H Q) : IxR X r' := fun value slice pins s σ H x y v u Q I rx ry q => h value slice pins s σ H x y v u Q I rx ry (i x y H Q q)
theorem ix_D : IxR X (rD X.K C E pIdx) := IxR.imp (ix_list.or ix_tup) fun x y H Q ⟨g, t, p, q, w, rx, ry, h⟩ => by
  cases p with
  | tup ds =>
    cases q with
    | int i =>
      have h : PostQ X.K C E g H Q ((match L2.atI ds i with | some d => ret d | none => stuck) t) := h
      obtain ⟨a, vs, rfl, e1, r1⟩ := rx.tup w
      cases e : L2.atI ds i with
      | none => rw [e] at h; exact h.elim
      | some d =>
        rw [e] at h
        obtain ⟨v, e2, r2⟩ := r1.atI e
        exact .inr ⟨a, vs, i, v, rfl, ry.int, e1, e2, pRetV h w r2⟩
    | _ => exact h.elim
  | lst ds =>
    cases q with
    | int i =>
      have h : PostQ X.K C E g H Q ((match L2.atI ds i with | some d => ret d | none => stuck) t) := h
      obtain ⟨a, vs, rfl, e1, r1⟩ := rx.lst w
      cases e : L2.atI ds i with
      | none => rw [e] at h; exact h.elim
      | some d =>
        rw [e] at h
        obtain ⟨v, e2, r2⟩ := r1.atI e
        exact .inl ⟨a, vs, i, v, rfl, ry.int, .of e1, e2, pRetV h w r2⟩
    | _ => exact h.elim
  | scr ns =>
    cases q with
    | int i =>
      have h : PostQ X.K C E g H Q ((match L2.atI ns i with | some n => ret (D.int n) | none => stuck) t) := h
      obtain ⟨a, rfl, e1⟩ := rx.scr w
      cases e : L2.atI ns i with
      | none => rw [e] at h; exact h.elim
      | some n =>
        rw [e] at h
        refine .inl ⟨a, _, i, .int n, rfl, ry.int, e1, ?_, pRetV h w (Rp.int n)⟩
        unfold L2.atI at e ⊢
        rw [List.length_map]
        cases z : ixN ns.length i with
        | none => rw [z] at e; cases e
        | some j =>
          rw [z] at e
          have e : ns[j]? = some n := e
          show (ns.map V.int)[j]? = some (.int n)
          rw [List.getElem?_map, e]; rfl
    | _ => exact h.elim
  | _ => cases q <;> exact h.elim
theorem ce_ix {a b : Expr} {fa fb : Ex} {pos : Pos} (ha : CW X C E a fa) (hb : CW X C E b fb) (hs : PlainIx b := by exact fun _ _ => rfl) : CE X C E (.Subscript a b pos) (eBin pIdx fa fb) := PE.imp (pe_ix ix_D ha hb hs) fun σ H Q h => tW.two h
def oEx (o : Option Ex) (S : Sl) : M (Option Int) := match o with
  | none => ret none
  | some f => bnd (f S) fun d => match d with
    | .int i => ret (some i)
    | _ => stuck
def cutD (ds : List D) (lo hi : Option Int) : List D := (ds.drop (HT.sIx ds.length 0 lo)).take (HT.sIx ds.length ds.length hi - HT.sIx ds.length 0 lo)
def pSlice (x : D) (lo hi : Option Int) : M D := match x with
  | .tup ds => ret (.tup (cutD ds lo hi))
  | .lst ds => ret (.lst (cutD ds lo hi))
  | _ => stuck
def eSlice (a : Ex) (lo hi : Option Ex) : Ex := fun S => bnd (a S) fun x => bnd (oEx lo S) fun l => bnd (oEx hi S) fun h => pSlice x l h
def tOp1 (K : PySem.W.Frag) (C : Cn) (E : XK) (o : Option Ex) : TO := fun σ H Q => ∃ g S t, Wf C g H t ∧ SL K g H σ S ∧ Post C E g H (fun d _ g' H' => Q d H') (oEx o S t)
theorem PO.imp {e : Option Expr} {t t' : TO} (h : PO X e t) (f : ∀ σ H Q, t' σ H Q → t σ H Q) : PO X e t' := ⟨fun pins s σ H Q I q => h.run pins s σ H Q I (f σ H Q q)⟩
theorem co_none : PO X none (tOp1 X.K C E none) := PO.imp po_none fun σ H Q ⟨g, S, t, w, s, p⟩ => postRet p w
theorem co_some {e : Expr} {f : Ex} (h : CE X C E e f) : PO X (some e) (tOp1 X.K C E (some f)) := PO.imp (po_some h) fun σ H Q ⟨g, S, t, w, s, p⟩ => ⟨g, S, t, w, s, p.bnd.imp fun d t1 g1 H1 st1 w1 q v r => by
  cases d with
  | int i => cases r; exact ⟨i, rfl, postRet q w1⟩
  | _ => exact q.elim⟩
theorem RpA.cut {K : PySem.W.Frag} {g : G} {vs : List V} {ds : List D} (r : RpA K g vs ds) (lo hi : Option Int) : RpA K g (cutV vs lo hi) (cutD ds lo hi) := by
  unfold cutV cutD
  rw [r.length]
  exact (r.drop _).take _
theorem ce_slice {a : Expr} {lo hi : Option Expr} {fa : Ex} {fl fh : Option Ex} {p2 pos : Pos} (ha : CW X C E a fa) (hl : PO X lo (tOp1 X.K C E fl)) (hh : PO X hi (tOp1 X.K C E fh)) : CE X C E (.Subscript a (.Slice lo hi none p2) pos) (eSlice fa fl fh) := by
  refine PE.imp (pe_slice (sl_tupN.or sl_list) ha hl hh) fun σ H Q h => ?_
  refine tW.seq h fun g S t x d H1 w s rx p1 => ?_
  refine ⟨g, S, t, w, s, p1.bnd.imp fun l t2 g2 H2 st2 w2 q2 => ?_⟩
  refine ⟨g2, S, t2, w2, s.stp w st2, q2.bnd.imp fun hh t3 g3 H3 st3 w3 q3 => ?_⟩
  have rx3 := (rx.stp w st2).stp w2 st3
  cases d with
  | tup ds =>
    obtain ⟨b, vs, rfl, e1, r1⟩ := rx3.tup w3
    refine .inl ⟨b, vs, rfl, e1, fun hw => ?_, fun _ => pRetT q3 w3 (r1.cut l hh)⟩
    have e : cutD ds l hh = ds := by
      unfold cutD
      rw [r1.length] at hw
      rw [hw.1, hw.2, List.drop_zero, Nat.sub_zero, List.take_length]
    have q3 : PostQ X.K C E g3 H3 Q (ret (.tup (cutD ds l hh)) t3) := q3
    rw [e] at q3
    rcases rx3 with rx3 | ⟨_, _, _, z, _⟩
    · exact pRetV q3 w3 rx3
    · cases z
  | lst ds =>
    obtain ⟨b, vs, rfl, e1, r1⟩ := rx3.lst w3
    exact .inr ⟨b, vs, rfl, .of e1, fun p hp => pRetL q3 w3 (r1.cut l hh) p hp⟩
  | _ => exact q3.elim
end
def c1D (K : PySem.W.Frag) (C : Cn) (E : XK) (prim : D → M D) : List V → Hp → VK → Prop := fun xs H Q => ∃ x g t d, xs = [x] ∧ Wf C g H t ∧ RpW K g H x d ∧ PostQ K C E g H Q (prim d t)
section
variable {X : Cx} {C : Cn} {E : XK}
theorem CallR.imp {f : Value} {r r' : List V → Hp → VK → Prop} (h : CallR X f r) (i : ∀ xs H Q, r' xs H Q → r xs H Q) : CallR X f r' := fun pins s σ H xs us Q I rs q => h pins s σ H xs us Q I rs (i xs H Q q)
theorem tW.call1 {prim : D → M D} {f : Ex} {σ : L2.St} {H : Hp} {Q : VK} (h : tE X.K C E (eUn prim f) σ H Q) : tCB (c1D X.K C E prim) (tCons (tW X.K C E f) tNil) σ H Q :=
  tW.seq h fun g S t x d H1 w s rx p1 => ⟨x, g, t, d, rfl, w, rx, p1⟩
theorem ce_callB1 {prim : D → M D} {id : String} {x : Str} {e : Expr} {f : Ex} {p pos : Pos} (hc : CallR X (.builtin id) (c1D X.K C E prim)) (hm : X.mg x = none) (hv : bootBuiltins x = some (.builtin id)) (ha : CW X C E e f) (hg : Gl X x := by rfl)
    (hn : x ≠ "__name__" := by decide) (hdb : (x == ("__debug__" : Str)) = false := by decide) (hs : starEach [e] X.env = (false, eval e X.env) :: starEach [] X.env := by rfl) (hp : (backTo pos (starEach [] X.env)).any (·.1) = false := by rfl) :
    CE X C E (.Call (.Name x p) [e] [] pos) (eUn prim f) := PE.imp (pe_callB hc hg hm hv (pa_cons ha pa_nil hs) hn hdb hs hp) fun σ H Q h => tW.call1 h
theorem ce_callTy1 {prim : D → M D} {T : String} {x : Str} {e : Expr} {f : Ex} {p pos : Pos} (hc : CallR X (.type T) (c1D X.K C E prim)) (hm : X.mg x = none) (hv : bootBuiltins x = some (.type T)) (ha : CW X C E e f) (hg : Gl X x := by rfl)
    (hn : x ≠ "__name__" := by decide) (hdb : (x == ("__debug__" : Str)) = false := by decide) (hs : starEach [e] X.env = (false, eval e X.env) :: starEach [] X.env := by rfl) (hp : (backTo pos (starEach [] X.env)).any (·.1) = false := by rfl) :
    CE X C E (.Call (.Name x p) [e] [] pos) (eUn prim f) := PE.imp (pe_callTy hc hg hm hv (pa_cons ha pa_nil hs) hn hdb hs hp) fun σ H Q h => tW.call1 h
def bLen : D → M D
  | .tup ds => ret (.int ds.length)
  | .lst ds => ret (.int ds.length)
  | .str z => if z.length ≤ sizeLine then ret (.int z.length) else stuck
  | .scr ns => ret (.int ns.length)
  | _ => stuck
def bools : List D → Option (List Bool)
  | [] => some []
  | .bl b :: ds => (bools ds).map (b :: ·)
  | _ => none
def intsD : List D → Option (List Int)
  | [] => some []
  | .int b :: ds => (intsD ds).map (b :: ·)
  | _ => none
def bAll : D → M D
  | .lst ds => match bools ds with
    | some bs => ret (.bl (bs.all id))
    | none => stuck
  | _ => stuck
def bTuple : D → M D
  | .lst ds => ret (.tup ds)
  | .tup ds => ret (.tup ds)
  | _ => stuck
def bList : D → M D
  | .lst ds => ret (.lst ds)
  | .tup ds => ret (.lst ds)
  | _ => stuck
theorem RpA.bools {K : PySem.W.Frag} {g : G} : ∀ {ds : List D} {vs : List V} {bs : List Bool}, RpA K g vs ds → bools ds = some bs → vs = bs.map V.bl
  | [], _, bs, h, e => by cases h; cases e; rfl
  | .bl b :: ds, _, bs, h, e => by
    cases h with
    | cons a r =>
      cases a
      have e : (BG.bools ds).map (b :: ·) = some bs := e
      cases z : BG.bools ds with
      | none => rw [z] at e; cases e
      | some cs =>
        rw [z] at e
        cases e
        rw [RpA.bools r z]; rfl
  | .non :: _, _, _, _, e => by cases e
  | .int _ :: _, _, _, _, e => by cases e
  | .str _ :: _, _, _, _, e => by cases e
  | .tup _ :: _, _, _, _, e => by cases e
  | .lst _ :: _, _, _, _, e => by cases e
  | .town :: _, _, _, _, e => by cases e
  | .scr _ :: _, _, _, _, e => by cases e
  | .dct _ _ :: _, _, _, _, e => by cases e
theorem RpA.intsD {K : PySem.W.Frag} {g : G} : ∀ {ds : List D} {vs : List V} {bs : List Int}, RpA K g vs ds → intsD ds = some bs → vs = bs.map V.int
  | [], _, bs, h, e => by cases h; cases e; rfl
  | .int b :: ds, _, bs, h, e => by
    cases h with
    | cons a r =>
      cases a
      have e : (BG.intsD ds).map (b :: ·) = some bs := e
      cases z : BG.intsD ds with
      | none => rw [z] at e; cases e
      | some cs =>
        rw [z] at e
        cases e
        rw [RpA.intsD r z]; rfl
  | .non :: _, _, _, _, e => by cases e
  | .bl _ :: _, _, _, _, e => by cases e
  | .str _ :: _, _, _, _, e => by cases e
  | .tup _ :: _, _, _, _, e => by cases e
  | .lst _ :: _, _, _, _, e => by cases e
  | .town :: _, _, _, _, e => by cases e
  | .scr _ :: _, _, _, _, e => by cases e
  | .dct _ _ :: _, _, _, _, e => by cases e
theorem cr_len : CallR X (.builtin "len") (c1D X.K C E bLen) := CallR.imp (call_len_seq.or call_len_str) fun xs H Q ⟨x, g, t, d, ex, w, a, h⟩ => by
  subst ex
  cases d with
  | tup ds =>
    obtain ⟨p, vs, rfl, e1, r1⟩ := a.tup w
    exact .inl ⟨p, vs, rfl, .inr e1, by rw [r1.length]; exact pRetV h w (.int _)⟩
  | lst ds =>
    obtain ⟨p, vs, rfl, e1, r1⟩ := a.lst w
    exact .inl ⟨p, vs, rfl, .inl (.of e1), by rw [r1.length]; exact pRetV h w (.int _)⟩
  | str z =>
    have h : PostQ X.K C E g H Q ((if z.length ≤ sizeLine then ret (.int z.length) else stuck) t) := h
    split at h
    · exact .inr ⟨z, by rw [a.str], by assumption, pRetV h w (.int _)⟩
    · exact h.elim
  | scr ns =>
    obtain ⟨p, rfl, e1⟩ := a.scr w
    exact .inl ⟨p, _, rfl, .inl e1, by rw [List.length_map]; exact pRetV h w (.int _)⟩
  | _ => exact h.elim
theorem cr_allD (hc : X.calm = true) : CallR X (.builtin "all") (c1D X.K C E bAll) := CallR.imp (cr_all hc) fun xs H Q ⟨x, g, t, d, ex, w, a, h⟩ => by
  subst ex
  cases d with
  | lst ds =>
    obtain ⟨p, vs, rfl, e1, r1⟩ := a.lst w
    have h : PostQ X.K C E g H Q ((match bools ds with | some bs => ret (D.bl (bs.all id)) | none => stuck) t) := h
    cases z : bools ds with
    | none => rw [z] at h; exact h.elim
    | some bs =>
      rw [z] at h
      exact ⟨p, bs, rfl, .of (by rw [e1, r1.bools z]), pRetV h w (Rp.bl _)⟩
  | _ => exact h.elim
theorem cr_tuple : CallR X (.type "tuple") (c1D X.K C E bTuple) := CallR.imp call_tupN fun xs H Q ⟨x, g, t, d, ex, w, a, h⟩ => by
  subst ex
  cases d with
  | lst ds =>
    obtain ⟨p, vs, rfl, e1, r1⟩ := a.lst w
    exact ⟨p, vs, rfl, .inl ⟨.of e1, pRetT h w r1⟩⟩
  | tup ds =>
    obtain ⟨p, vs, rfl, e1, r1⟩ := a.tup w
    rcases a with a | ⟨_, _, _, z, _⟩
    · exact ⟨p, vs, rfl, .inr ⟨e1, pRetV h w a⟩⟩
    · cases z
  | _ => exact h.elim
theorem Stp.back {g g1 : G} {H H1 : Hp} (s : Stp g H g1 H1) {l : Addr} (h : H1 l = none) : ¬ Nt H l := fun z => Nt.no h (s.thr l z)
theorem Stp.backN {g g1 : G} {H H1 : Hp} (s : Stp g H g1 H1) {l : Addr} (h : ¬ Nt H1 l) : ¬ Nt H l := fun z => h (s.thr l z)
/-- list(x) to be changed -/
theorem cf_list {x : Str} {e : Expr} {f : Ex} {p pos : Pos} (hm : X.mg x = none) (hv : bootBuiltins x = some (.type "list")) (ha : CW X C E e f) (hg : Gl X x := by rfl)
    (hn : x ≠ "__name__" := by decide) (hdb : (x == ("__debug__" : Str)) = false := by decide) (hs : starEach [e] X.env = (false, eval e X.env) :: starEach [] X.env := by rfl) (hp : (backTo pos (starEach [] X.env)).any (·.1) = false := by rfl) :
    CF X C E (.Call (.Name x p) [e] [] pos) (eUn bList f) := by
  refine PE.imp (pe_callTy call_list_of hg hm hv (pa_cons ha pa_nil hs) hn hdb hs hp) fun σ H Q ⟨g, S, t, w, s, p⟩ => ?_
  refine ⟨g, S, t, w, s, p.bnd.imp fun d t1 g1 H1 st1 w1 q v r => ?_⟩
  have key : ∀ {es us}, d = .lst es ∨ d = .tup es → RpA X.K g1 us es → ∀ l, H1 l = none → Q (.ref l) (upd H1 l (.lst us)) := fun {es us} hds ra l hl => by
    have q : Post C E g1 H1 (fun d _ g' H' => ∀ v, RpF X.K H g' H' v d → Q v H') (ret (.lst es) t1) := by
      rcases hds with rfl | rfl <;> exact q
    exact q g1 _ (Stp.lay w1 hl) (Wf.lay w1 hl) _ ⟨l, us, es, rfl, rfl, st1.back hl, upd_same, ra, w1.fzN hl⟩
  cases d with
  | lst ds =>
    obtain ⟨p, vs, rfl, e1, r1⟩ := r.lst w1
    exact ⟨p, vs, rfl, .inl (.of e1), key (.inl rfl) r1⟩
  | tup ds =>
    obtain ⟨p, vs, rfl, e1, r1⟩ := r.tup w1
    exact ⟨p, vs, rfl, .inr e1, key (.inr rfl) r1⟩
  | _ => exact q.elim
end
inductive Ty where
  | tuple | int | bool | str
def Ty.name : Ty → String
  | .tuple => "tuple" | .int => "int" | .bool => "bool" | .str => "str"
def isTy : Ty → D → Option Bool
  | _, .town => none
  | _, .scr _ => none
  | _, .dct _ _ => none
  | .tuple, .tup _ => some true
  | .int, .int _ => some true
  | .int, .bl _ => some true
  | .bool, .bl _ => some true
  | .str, .str _ => some true
  | _, _ => some false
def pIsi (T : Ty) (d : D) : M D := match isTy T d with
  | some b => ret (.bl b)
  | none => stuck
def tyN : D → Option String
  | .non => some "NoneType" | .bl _ => some "bool" | .int _ => some "int" | .str _ => some "str" | .tup _ => some "tuple" | .lst _ => some "list" | _ => none
theorem tyX_of {K : PySem.W.Frag} {C : Cn} {g : G} {H : Hp} {t : Tn} (w : Wf C g H t) {v : V} {d : D} {n : String} (r : RpW K g H v d) (h : tyN d = some n) : TyX K H v (.type n) := by
  cases d with
  | non => cases h; rw [r.non]; exact .base .non
  | bl b => cases h; rw [r.bl]; exact .base (.bl b)
  | int i => cases h; rw [r.int]; exact .base (.int i)
  | str x => cases h; rw [r.str]; exact .base (.str x)
  | tup ds =>
    cases h
    obtain ⟨p, vs, rfl, e1, r1⟩ := r.tup w
    rcases e1 with (e1 | ⟨o, e1⟩) | ⟨o, its, n, e1, c, _⟩
    · exact .base (.tup e1)
    · exact .fTuple e1
    · exact .kTuple e1 c
  | lst ds =>
    cases h
    obtain ⟨p, vs, rfl, e1, r1⟩ := r.lst w
    exact .base (.lst e1)
  | town => cases h
  | scr _ => cases h
  | dct _ _ => cases h
theorem kit_isi {K : PySem.W.Frag} {T : Ty} {d : D} {b : Bool} (h : isTy T d = some b) : ∃ n, tyN d = some n ∧ PySem.W.kitOne K (.type n) (.type T.name) = some b := by
  cases T <;> cases d <;> first | cases h; done | (cases h; exact ⟨_, rfl, kit_ty (by decide +kernel)⟩)
section
variable {X : Cx} {C : Cn} {E : XK}
theorem ce_isi (T : Ty) {a : Expr} {fa : Ex} {x : Str} {p q pos : Pos} (hm : X.mg "isinstance" = none) (hmT : X.mg x = none) (hv : bootBuiltins x = some (.type T.name)) (ha : CW X C E a fa) (hg : Gl X "isinstance" := by rfl) (hgT : Gl X x := by rfl)
    (hvi : bootBuiltins "isinstance" = some (.builtin "isinstance") := by decide +kernel) (hn : x ≠ "__name__" := by decide) (hdb : (x == ("__debug__" : Str)) = false := by decide)
    (hs : starEach [a, .Name x q] X.env = (false, eval a X.env) :: starEach [.Name x q] X.env := by rfl) (hs2 : starEach [.Name x q] X.env = (false, eval (.Name x q) X.env) :: starEach [] X.env := by rfl) (hp : (backTo pos (starEach [.Name x q] X.env)).any (·.1) = false := by rfl) :
    CE X C E (.Call (.Name "isinstance" p) [a, .Name x q] [] pos) (eUn (pIsi T) fa) := by
  refine PE.imp (pe_callB call_isi hg hm hvi (pa_cons ha (pa_cons (pe_bltn (v := .ty T.name) hgT hmT hv rfl hn hdb) pa_nil hs2) hs) (by decide) (by decide) hs hp) fun σ H Q h => ?_
  refine tW.seq h fun g S t x d H1 w s rx p1 => ?_
  have p1 : PostQ X.K C E g H1 Q ((match isTy T d with | some b => ret (D.bl b) | none => stuck) t) := p1
  cases e : isTy T d with
  | none => rw [e] at p1; exact p1.elim
  | some b =>
    rw [e] at p1
    obtain ⟨n, e1, e2⟩ := kit_isi (K := X.K) e
    exact ⟨x, .ty T.name, .type n, .type T.name, b, rfl, .ty _, tyX_of w rx e1, e2, pRetV p1 w (Rp.bl b)⟩
/-- -n, a written number -/
def pNeg : D → M D
  | .int i => ret (.int (-i))
  | _ => stuck
/-- a < b < c -/
def eChain (o1 o2 : D → D → M D) (a b c : Ex) : Ex := fun S => bnd (a S) fun x => bnd (b S) fun y => bnd (o1 x y) fun z => match z with
  | .bl true => bnd (c S) fun u => o2 y u
  | .bl false => ret (.bl false)
  | _ => stuck
theorem ce_chain {op op' : CmpOp} {o1 o2 : D → D → M D} {a b c : Expr} {fa fb fc : Ex} {pos : Pos} (ho : BinOk X C E (compareOp op) o1) (ho' : BinOk X C E (compareOp op') o2) (ha : CW X C E a fa) (hb : CW X C E b fb) (hc : CW X C E c fc)
    (hm : lastMarks [op, op'] [b, c] = false := by rfl) : CE X C E (.Compare a [op, op'] [b, c] pos) (eChain o1 o2 fa fb fc) := by
  refine PE.imp (pe_chain ho ho' ha hb hc hm) fun σ H Q h => ?_
  refine tW.seq h fun g S t x d H1 w s rx p1 => ?_
  refine ⟨g, S, t, w, s, p1.bnd.imp fun d2 t2 g2 H2 st2 w2 q2 v r2 => ?_⟩
  have rx2 := rx.stp w st2
  have s2 := s.stp w st2
  refine ⟨g2, t2, d, d2, w2, rx2, r2, q2.bnd.imp fun z t3 g3 H3 st3 w3 q3 u ru => ?_⟩
  have r3 := r2.stp w2 st3
  have s3 := s2.stp w2 st3
  cases z with
  | bl k =>
    cases ru
    refine ⟨k, rfl, ?_⟩
    cases k with
    | true => exact iteT ⟨g3, S, t3, w3, s3, q3.bnd.imp fun d4 t4 g4 H4 st4 w4 q4 v4 r4 => ⟨g4, t4, d2, d4, w4, r3.stp w3 st4, r4, q4⟩⟩
    | false => exact iteF (pRetV q3 w3 (.bl false))
  | _ => exact q3.elim
end
abbrev Fn := List D → M D
/-- the promise of a def that is read as F -/
def spF (K : PySem.W.Frag) (C : Cn) (n : Nat) (F : Fn) : Sp := fun vs H Q E => ∃ g ds t, RpA K g vs ds ∧ Wf C g H t ∧ vs.length = n ∧ PostQ K C E g H Q (F ds t)
def eCall (F : Fn) (fs : List Ex) : Ex := fun S => bnd (evs fs S) fun ds => F ds
/-- a def as it stands in the module -/
structure Fd (P : Program) (w : World) (K : PySem.W.Frag) (mg : Str → Option Value) (base : Heap) (C : Cn) (k : Nat) (x : Str) (n : Nat) (F : Fn) : Prop where
  ex : ∃ f fd ps, FnOk P w K mg base (L2.CX P w) k f fd ps (spF K C n F) ∧ mg x = some (.ref f) ∧ PySem.W.keepIn K (.ref f) = true ∧ Binds K fd ps []
section
variable {X : Cx} {C : Cn} {E : XK}
theorem ce_call {k j : Nat} {x : Str} {F : Fn} {e : Expr} {es : List Expr} {fs : List Ex} {p pos : Pos} (hf : Fd X.prog X.w X.K X.mg X.base C k x fs.length F) (hr : Room j X.A) (hk : k ≤ j) (hx : Passes (L2.CX X.prog X.w) X E) (ha : CA X C E (e :: es) (evs fs)) (hg : Gl X x := by rfl)
    (hn : (x == ("__debug__" : Str)) = false := by decide) (hs : starEach (e :: es) X.env = (false, eval e X.env) :: starEach es X.env := by rfl) (hp : (backTo pos (starEach es X.env)).any (·.1) = false := by rfl) : CE X C E (.Call (.Name x p) (e :: es) [] pos) (eCall F fs) := by
  obtain ⟨f, fd, ps, F', hm, hkp, hb⟩ := hf.ex
  refine PE.imp (pe_call F' (hr.mono hk) hg hm hkp hb .nil hx ha hn hs hp) fun σ H Q ⟨g, S, t, w, s, p⟩ => ?_
  exact ⟨g, S, t, w, s, (Post.evs p.bnd).imp fun ds t1 g1 H1 st1 w1 ⟨el, q⟩ vs rs => ⟨g1, ds, t1, by rw [List.append_nil]; exact rs, w1, by rw [List.append_nil, rs.length, el], q⟩⟩
theorem ce_call0 {k j : Nat} {x : Str} {F : Fn} {p pos : Pos} (hf : Fd X.prog X.w X.K X.mg X.base C k x 0 F) (hr : Room j X.A) (hk : k ≤ j) (hx : Passes (L2.CX X.prog X.w) X E) (hg : Gl X x := by rfl) (hn : (x == ("__debug__" : Str)) = false := by decide) : CE X C E (.Call (.Name x p) [] [] pos) (eCall F []) := by
  obtain ⟨f, fd, ps, F', hm, hkp, hb⟩ := hf.ex
  refine PE.imp (pe_call0 F' (hr.mono hk) hg hm hkp hb .nil hx hn) fun σ H Q ⟨g, S, t, w, s, p⟩ => ?_
  exact ⟨g, [], t, .nil, w, rfl, p⟩
end
end BG
set_option Elab.async false
set_option linter.all false
set_option maxRecDepth 100000
set_option maxHeartbeats 4000000
namespace BG
open PySem PySem.Spec PyProof.Rows L2
theorem bnd_assoc {α β γ : Type} (m : M α) (f : α → M β) (k : β → M γ) : bnd (bnd m f) k = bnd m fun a => bnd (f a) k := by
  funext t
  unfold bnd
  cases m t with
  | none => rfl
  | some o => cases o <;> rfl
/-- as Post.bnd, the start kept -/
theorem Post.bnd0 {α β : Type} {C : Cn} {E : XK} {g : G} {H : Hp} {Rok : β → Tn → G → Hp → Prop} {m : M α} {k : α → M β} {t : Tn} (h : Post C E g H Rok (BG.bnd m k t)) : Post C E g H (fun a t1 _ _ => Post C E g H Rok (k a t1)) (m t) := by
  unfold BG.bnd at h
  cases e : m t with
  | none => rw [e] at h; exact h
  | some o =>
    rw [e] at h
    cases o with
    | ok a t' => exact fun g' H' s' w => h
    | exc c t' => exact h
theorem SL.set {K : PySem.W.Frag} {g : G} {H : Hp} {σ : L2.St} {S : Sl} {i : Nat} {v : V} {d : D} (s : SL K g H σ S) (r : Rp K g v d) : SL K g H (σ.set i (some v)) (S.set i (.val d)) := s.put ⟨v, rfl, r⟩ (fun h => nomatch h)
def wipeS (S : Sl) : List Nat → Sl
  | [] => S
  | v :: vs => (wipeS S vs).set v .un
theorem SL.un {K : PySem.W.Frag} {g : G} {H : Hp} {σ : L2.St} {S : Sl} {i : Nat} (s : SL K g H σ S) (o : Option V) : SL K g H (σ.set i o) (S.set i .un) := s.put trivial (fun h => nomatch h)
theorem SL.wipe {K : PySem.W.Frag} {g : G} {H : Hp} {σ : L2.St} {S : Sl} (s : SL K g H σ S) : ∀ vs : List Nat, SL K g H (wipe σ vs) (wipeS S vs)
  | [] => s
  | v :: vs => (SL.wipe s vs).un none
theorem wipe_in {σ : L2.St} {j : Nat} : ∀ {vs : List Nat}, j ∈ vs → j < σ.length → (wipe σ vs)[j]? = some none
  | [], h, _ => by cases h
  | v :: vs, h, hl => by
    unfold wipe
    by_cases e : v = j
    · subst e
      rw [List.getElem?_set_self (by rw [wipe_length]; exact hl)]
    · rw [List.getElem?_set_ne e]
      exact wipe_in ((List.mem_cons.mp h).resolve_left fun z => e z.symm) hl
/-- what differs at wiped places alone is wiped to the same -/
theorem wipe_eq {σ σ2 : L2.St} {vs : List Nat} (hl : σ2.length = σ.length) (h : ∀ j : Nat, j ∉ vs → σ2[j]? = (L2.wipe σ vs)[j]?) : L2.wipe σ2 vs = L2.wipe σ vs := by
  apply List.ext_getElem?
  intro j
  by_cases hj : j ∈ vs
  · by_cases hlt : j < σ.length
    · rw [wipe_in hj hlt, wipe_in hj (by omega)]
    · rw [List.getElem?_eq_none (by rw [wipe_length]; omega), List.getElem?_eq_none (by rw [wipe_length]; omega)]
  · rw [wipe_out hj, h j hj]
theorem set_ow {S : Sl} {i m : Nat} {d : D} {x : SV} (e : (S.set i (.val d))[m]? = some x) (h : isOw x = true) : i ≠ m := fun z => by
  subst z
  by_cases hl : i < S.length
  · rw [List.getElem?_set_self hl] at e; cases e; cases h
  · rw [List.getElem?_eq_none (by rw [List.length_set]; omega)] at e; cases e
abbrev Tg := D → Sl → Option Sl
def gN (i : Nat) : Tg := fun d S => some (S.set i (.val d))
def gP (i j : Nat) : Tg := fun d S => match d with
  | .tup [a, b] => some ((S.set i (.val a)).set j (.val b))
  | _ => none
def tG (K : PySem.W.Frag) (C : Cn) (is : List Nat) (f : Tg) : TG := fun v σ H Q => ∃ g S t d S', Wf C g H t ∧ SL K g H σ S ∧ Rp K g v d ∧ f d S = some S' ∧ ∀ σ', SL K g H σ' S' → σ'.length = σ.length → (∀ j : Nat, j ∉ is → σ'[j]? = σ[j]?) → (∀ (j : Nat) x, S'[j]? = some x → isOw x = true → S[j]? = some x ∧ σ'[j]? = σ[j]?) → Q σ' H
abbrev CG (X : Cx) (C : Cn) (is : List Nat) (tg : Expr) (f : Tg) : Prop := PG X tg (tG X.K C is f)
theorem PG.imp {X : Cx} {e : Expr} {t t' : TG} (h : PG X e t) (f : ∀ v σ H Q, t' v σ H Q → t v σ H Q) : PG X e t' := ⟨fun pins s σ H v u Q I r q => h.run pins s σ H v u Q I r (f v σ H Q q)⟩
section
variable {X : Cx} {C : Cn} {E : XK}
theorem cg_name (i : Nat) {x : Str} {pos : Pos} (hN : X.N.Nodup) (hi : X.N[i]? = some x := by rfl) (hx : Loc X.env.scope x := by first | exact .inl rfl | exact .inr rfl) (hf : X.fn x = true ∨ X.env.scope.names.lookup x = some .local := by first | exact .inl rfl | exact .inr rfl | assumption) : CG X C [i] (.Name x pos) (gN i) :=
  PG.imp (pg_name hN hi hx hf) fun v σ H Q ⟨g, S, t, d, S', w, s, r, e, q⟩ => by
    cases e
    refine q _ (s.set r) (by rw [List.length_set]) (fun j hj => ?_) fun j ds e ho => ?_
    · rw [List.getElem?_set_ne fun z => hj (by rw [z]; exact List.mem_singleton.mpr rfl)]
    · have n := set_ow e ho
      rw [List.getElem?_set_ne n] at e
      exact ⟨e, by rw [List.getElem?_set_ne n]⟩
theorem cg_pair (i j : Nat) {x y : Str} {p1 p2 pos : Pos} {k : Nat} (hN : X.N.Nodup) (hc : X.calm = true := by rfl) (hi : X.N[i]? = some x := by rfl) (hj : X.N[j]? = some y := by rfl) (hx : Loc X.env.scope x := by first | exact .inl rfl | exact .inr rfl) (hy : Loc X.env.scope y := by first | exact .inl rfl | exact .inr rfl)
    (hf : X.fn x = true ∨ X.env.scope.names.lookup x = some .local := by first | exact .inl rfl | exact .inr rfl | assumption) (hf2 : X.fn y = true ∨ X.env.scope.names.lookup y = some .local := by first | exact .inl rfl | exact .inr rfl | assumption) :
    CG X C [i, j] (.Tuple [.Name x p1, .Name y p2] k pos) (gP i j) :=
  PG.imp (pg_tup hc (pgs_cons (pg_name (i := i) hN hi hx hf) (pgs_cons (pg_name (i := j) hN hj hy hf2) pgs_nil rfl) rfl) rfl rfl) fun v σ H Q ⟨g, S, t, d, S', w, s, r, e, q⟩ => by
    cases d with
    | tup ds =>
      match ds, e with
      | [a, b], e =>
        cases e
        cases r with
        | tup sq ra =>
          cases ra with
          | cons r1 ra =>
            cases ra with
            | cons r2 ra =>
              cases ra
              refine ⟨_, _, rfl, Same.tseq w.fz sq.t, rfl, _, _, rfl, _, _, rfl, rfl, q _ ((s.set r1).set r2) (by rw [List.length_set, List.length_set]) (fun m hm => ?_) fun m ds e ho => ?_⟩
              · rw [List.getElem?_set_ne fun z => hm (by rw [z]; simp), List.getElem?_set_ne fun z => hm (by rw [z]; simp)]
              · have n := set_ow e ho
                rw [List.getElem?_set_ne n] at e
                have n2 := set_ow e ho
                rw [List.getElem?_set_ne n2] at e
                exact ⟨e, by rw [List.getElem?_set_ne n, List.getElem?_set_ne n2]⟩
    | _ => cases e
end
def Yl (K : PySem.W.Frag) (g : G) (H : Hp) (x : V) (H' : Hp) (d : D) : Prop := (H' = H ∧ Rp K g x d) ∨ ∃ T vs ds, x = .ref T ∧ H T = none ∧ (∃ ob, H' = upd H T (.frz ob (.tup vs)) ∧ ob.dict = none ∧ ob.cls = .type "tuple") ∧ d = .tup ds ∧ RpA K g vs ds
def WalkD (K : PySem.W.Frag) (B : Hp) (J : It) (ds : List D) (g : G) : Prop := ∀ i H, Same B H → (∀ d, ds[i]? = some d → J.go i H ∧ ∀ x H', J.yld i H x H' → Yl K g H x H' d) ∧ (ds.length ≤ i → J.stop i H)
def Kp (C : Cn) (g : G) (H : Hp) (B : Hp) : Prop := ∀ g2 H2 t2, Stp g H g2 H2 → Wf C g2 H2 t2 → Same B H2
/-- strict: what is walked is frozen -/
def tI (K : PySem.W.Frag) (C : Cn) (E : XK) (f : Sl → M (List D)) : TI := fun σ H R => ∃ g S t, Wf C g H t ∧ SL K g H σ S ∧ Post C E g H (fun ds _ g' H' => ∀ J, WalkD K g'.Fz J ds g' → R J H') (f S t)
def tIW (K : PySem.W.Frag) (C : Cn) (E : XK) (f : Sl → M (List D)) : TI := fun σ H R => ∃ g S t, Wf C g H t ∧ SL K g H σ S ∧ Post C E g H (fun ds _ g' H' => ∀ J B, Kp C g' H' B → WalkD K B J ds g' → R J H') (f S t)
abbrev CI (X : Cx) (C : Cn) (E : XK) (tg it : Expr) (f : Sl → M (List D)) : Prop := PI X tg it (tI X.K C E f)
abbrev CIW (X : Cx) (C : Cn) (E : XK) (tg it : Expr) (f : Sl → M (List D)) : Prop := PI X tg it (tIW X.K C E f)
theorem PI.imp {X : Cx} {tg e : Expr} {t t' : TI} (h : PI X tg e t) (f : ∀ σ H Q, t' σ H Q → t σ H Q) : PI X tg e t' := ⟨fun pins s σ H Q I q => h.run pins s σ H Q I (f σ H Q q)⟩
/-- the items of a list or tuple -/
def itSeq (f : Ex) : Sl → M (List D) := fun S => bnd (f S) fun d => match d with
  | .tup ds => ret ds
  | .lst ds => ret ds
  | _ => stuck
def itRange1 (f : Ex) : Sl → M (List D) := fun S => bnd (f S) fun d => match d with
  | .int j => if -(2 ^ 62) ≤ j ∧ j < 2 ^ 62 then ret ((List.range j.toNat).map fun (i : Nat) => .int ((0 : Int) + (i : Int))) else stuck
  | _ => stuck
theorem walkL {K : PySem.W.Frag} {g : G} {B : Hp} {a : Addr} {vs : List V} {ds : List D} (h : B a = some (.lst vs)) (r : RpA K g vs ds) : WalkD K B (Itl K a) ds g := fun i H sm => by
  have sq : SqL K H a vs := .of (sm _ _ h)
  refine ⟨fun d e => ?_, fun hl => ⟨vs, sq, by rw [r.length]; exact hl⟩⟩
  obtain ⟨v, e1, r1⟩ := r.get e
  refine ⟨⟨vs, v, sq, e1⟩, fun x H' ⟨e2, e3⟩ => .inl ⟨e2, ?_⟩⟩
  have := e3 vs sq
  rw [e1] at this
  cases this
  exact r1
theorem walkT {K : PySem.W.Frag} {g : G} {B : Hp} {a : Addr} {vs : List V} {ds : List D} (h : SqT K B a vs) (r : RpA K g vs ds) : WalkD K B (Itt K a) ds g := fun i H sm => by
  have sq : SqT K H a vs := Same.tseq sm h
  refine ⟨fun d e => ?_, fun hl => ⟨vs, sq, by rw [r.length]; exact hl⟩⟩
  obtain ⟨v, e1, r1⟩ := r.get e
  refine ⟨⟨vs, v, sq, e1⟩, fun x H' ⟨e2, e3⟩ => .inl ⟨e2, ?_⟩⟩
  have := e3 vs sq
  rw [e1] at this
  cases this
  exact r1
theorem walkR {K : PySem.W.Frag} {g : G} {B : Hp} {a : Int} {n : Nat} : WalkD K B (Itr a n) ((List.range n).map fun (i : Nat) => D.int (a + (i : Int))) g := fun i H sm => by
  refine ⟨fun d e => ?_, fun hl => by rw [List.length_map, List.length_range] at hl; exact hl⟩
  rw [List.getElem?_map] at e
  cases z : (List.range n)[i]? with
  | none => rw [z] at e; cases e
  | some m =>
    rw [z] at e
    cases e
    obtain ⟨h1, h2⟩ := List.getElem?_eq_some_iff.mp z
    rw [List.getElem_range] at h2
    subst h2
    rw [List.length_range] at h1
    refine ⟨h1, fun x H' ⟨e2, e3⟩ => .inl ⟨e2, ?_⟩⟩
    subst e3
    exact .int _
section
variable {X : Cx} {C : Cn} {E : XK} {tg : Expr}
/-- a list or a tuple that is walked -/
theorem pi_seq {l : Expr} {tl : TE} (hl : PE X l tl) : PI X tg l (fun σ H R => tl σ H fun x H1 => ∃ a, x = .ref a ∧ ((∃ xs, SqL X.K H1 a xs ∧ R (Itl X.K a) H1) ∨ (∃ xs, SqT X.K H1 a xs ∧ R (Itt X.K a) H1))) := by
  refine ⟨fun pins s σ H R I h => ?_⟩
  refine thn (hl.run pins s σ H _ I h) fun v s1 ⟨x, H1, I1, r1, q1⟩ => ?_
  obtain ⟨a, e, h2⟩ := q1
  subst e
  cases r1
  rcases h2 with ⟨xs, hq, q⟩ | ⟨xs, hq, q⟩
  · obtain ⟨its, rv, p, hz⟩ := I1.list hq
    refine wpAny_pyIter_list p.isList ?_
    refine ⟨s1.heap.objs.size, [s1.heap.objs.size], _, _, H1, rfl, I1.kept (t' := s1.toks) fun b o e => Heap.get?_push_of_some _ e, turn_list a _, ⟨_, Heap.get?_push_size _ rfl, rfl, rfl⟩, fun b hb => ?_, q⟩
    have e : b = s1.heap.objs.size := by simpa using hb
    subst e
    exact I1.fpOk (Nat.le_refl _) (I1.hok.fresh (Nat.le_refl _))
  · obtain ⟨its, rv, p, hz⟩ := I1.tuple hq
    refine wpAny_pyIter_tuple (show s1.heap.IsTuple a its.toArray from p) ?_
    refine ⟨s1.heap.objs.size, [s1.heap.objs.size], _, _, H1, rfl, I1.kept (t' := s1.toks) fun b o e => Heap.get?_push_of_some _ e, turn_tuple a _, ⟨_, Heap.get?_push_size _ rfl, rfl, rfl⟩, fun b hb => ?_, q⟩
    have e : b = s1.heap.objs.size := by simpa using hb
    subst e
    exact I1.fpOk (Nat.le_refl _) (I1.hok.fresh (Nat.le_refl _))
theorem ci_seq {l : Expr} {f : Ex} (h : CE X C E l f) : CI X C E tg l (itSeq f) := PI.imp (pi_seq h) fun σ H R ⟨g, S, t, w, s, p⟩ => ⟨g, S, t, w, s, p.bnd.imp fun d t1 g1 H1 st1 w1 q v r => by
  cases d with
  | tup ds =>
    cases r with
    | tup sq ra => exact ⟨_, rfl, .inr ⟨_, Same.tseq w1.fz sq.t, postRet q w1 _ (walkT sq.t ra)⟩⟩
  | lst ds =>
    cases r with
    | lst sq ra => exact ⟨_, rfl, .inl ⟨_, .of (w1.fz _ _ sq), postRet q w1 _ (walkL sq ra)⟩⟩
  | _ => exact q.elim⟩
theorem ciw_seq {l : Expr} {f : Ex} (h : CW X C E l f) : CIW X C E tg l (itSeq f) := PI.imp (pi_seq h) fun σ H R ⟨g, S, t, w, s, p⟩ => ⟨g, S, t, w, s, p.bnd.imp fun d t1 g1 H1 st1 w1 q v r => by
  cases d with
  | tup ds =>
    rcases r with r | ⟨_, _, _, z, _⟩
    · cases r with
      | tup sq ra => exact ⟨_, rfl, .inr ⟨_, Same.tseq w1.fz sq.t, postRet q w1 _ g1.Fz (fun g2 H2 t2 s2 w2 => s2.fz.trans w2.fz) (walkT sq.t ra)⟩⟩
    · cases z
  | lst ds =>
    obtain ⟨a, vs, rfl, e1, r1⟩ := r.lst w1
    refine ⟨_, rfl, .inl ⟨_, .of e1, postRet q w1 _ (fun b => if b = a then some (.lst vs) else none) (fun g2 H2 t2 s2 w2 b o e => ?_) (walkL (vs := vs) (by rw [if_pos rfl]) r1)⟩⟩
    have e : (if b = a then some (HO.lst vs) else none) = some o := e
    by_cases hb : b = a
    · rw [if_pos hb] at e
      cases e
      rw [hb]
      exact s2.frm _ _ e1 (w1.ntL e1) (fun _ z => nomatch z)
    · rw [if_neg hb] at e; cases e
  | _ => exact q.elim⟩
theorem ci_w {l : Expr} {f : Sl → M (List D)} (h : CI X C E tg l f) : CIW X C E tg l f := PI.imp h fun σ H R ⟨g, S, t, w, s, p⟩ => ⟨g, S, t, w, s, p.imp fun ds t1 g1 H1 st1 w1 q J wk => q J g1.Fz (fun g2 H2 t2 s2 w2 => s2.fz.trans w2.fz) wk⟩
theorem ci_range1 {a : Expr} {f : Ex} {p pos : Pos} (hm : X.mg "range" = none) (ha : CE X C E a f) (hg : Gl X "range" := by rfl) (hs : starEach [a] X.env = (false, eval a X.env) :: starEach [] X.env := by rfl) : CI X C E tg (.Call (.Name "range" p) [a] [] pos) (itRange1 f) :=
  PI.imp (pi_range1 hg hm (pa_cons ha pa_nil hs) hs) fun σ H R ⟨g, S, t, w, s, p⟩ => ⟨g, S, t, w, s, p.bnd.imp fun d t1 g1 H1 st1 w1 q v r => by
    cases d with
    | int j =>
      cases r
      have q : Post C E g1 H1 (fun ds _ g' H' => ∀ J, WalkD X.K g'.Fz J ds g' → R J H') ((if -(2 ^ 62) ≤ j ∧ j < 2 ^ 62 then ret ((List.range j.toNat).map fun (i : Nat) => D.int ((0 : Int) + (i : Int))) else stuck) t1) := q
      split at q
      · rename_i hc
        exact ⟨j, rfl, hc.1, hc.2, postRet q w1 _ walkR⟩
      · exact q.elim
    | _ => exact q.elim⟩
end
/-- an object of one's own is changed -/
theorem SL.updX {K : PySem.W.Frag} {g : G} {H : Hp} {σ : L2.St} {S : Sl} {i : Nat} {a : Addr} {x y : SV} {o : HO} (s : SL K g H σ S) (e : S[i]? = some x) (ox : isOw x = true) (h1 : σ[i]? = some (some (.ref a))) (oy : isOw y = true) (hy : SVok K g (upd H a o) y (some (some (.ref a)))) : SL K g (upd H a o) σ (S.set i y) where
  len := by rw [List.length_set]; exact s.len
  ok := fun j z e2 => by
    by_cases hj : i = j
    · subst hj
      obtain ⟨hl, _⟩ := List.getElem?_eq_some_iff.mp e
      rw [List.getElem?_set_self hl] at e2
      cases e2
      rw [h1]; exact hy
    · rw [List.getElem?_set_ne hj] at e2
      have h := s.ok j z e2
      cases z with
      | own ds =>
        obtain ⟨b, us, k1, k2, k3, k4⟩ := h
        have nb : b ≠ a := fun z => hj (s.dis i j a x _ e e2 ox rfl h1 (by rw [← z]; exact k1))
        exact ⟨b, us, k1, by rw [upd_ne nb]; exact k2, k3, k4⟩
      | dic ks =>
        obtain ⟨b, us, k1, k2, k3⟩ := h
        have nb : b ≠ a := fun z => hj (s.dis i j a x _ e e2 ox rfl h1 (by rw [← z]; exact k1))
        exact ⟨b, us, k1, by rw [upd_ne nb]; exact k2, k3⟩
      | un => exact h
      | val d => exact h
      | raw v => exact h
      | exn c =>
        obtain ⟨b, k1, k2⟩ := h
        refine ⟨b, k1, ?_⟩
        obtain ⟨p0, o0, q1, q2, _⟩ := s.ow e ox
        rw [h1] at q1
        cases q1
        have nb : b ≠ a := fun z => by
          cases x with
          | own ds => obtain ⟨p1, vs1, r1, r2, _⟩ := s.own i ds e; rw [h1] at r1; cases r1; rw [← z, k2] at r2; unfold ExK at r2; cases r2
          | dic ks => obtain ⟨p1, vs1, r1, r2, _⟩ := s.dic i ks e; rw [h1] at r1; cases r1; rw [← z, k2] at r2; unfold ExK at r2; cases r2
          | _ => cases ox
        rw [upd_ne nb]; exact k2
  dis := fun j k p z1 z2 e1 e2 o1 o2 e3 e4 => by
    have at_ : ∀ {m : Nat} {z : SV}, (S.set i y)[m]? = some z → isOw z = true → ∃ z', S[m]? = some z' ∧ isOw z' = true := fun {m z} e2 oz => by
      by_cases hj : i = m
      · subst hj; exact ⟨x, e, ox⟩
      · rw [List.getElem?_set_ne hj] at e2
        exact ⟨z, e2, oz⟩
    obtain ⟨d1, e1, o1⟩ := at_ e1 o1
    obtain ⟨d2, e2, o2⟩ := at_ e2 o2
    exact s.dis j k p d1 d2 e1 e2 o1 o2 e3 e4
/-- a list that is not frozen is changed -/
theorem Wf.updL {C : Cn} {g : G} {H : Hp} {t : Tn} {p : Addr} {xs ys : List V} (w : Wf C g H t) (hp : H p = some (.lst xs)) (fp : g.Fz p = none) : Wf C g (upd H p (.lst ys)) t where
  fz := fun b o' h => by
    rw [upd_ne (ne_of_none h fp)]
    exact w.fz b o' h
  tw := by
    cases t with
    | none => exact w.tw
    | some cr =>
      obtain ⟨a, b, e1, e2, e3, e4⟩ := w.tw
      exact ⟨a, b, e1, e2, by rw [upd_ne (ne_of e3 hp (fun z => nomatch z))]; exact e3, by rw [upd_ne (ne_of e4 hp (fun z => nomatch z))]; exact e4⟩
  ntw := w.ntw
  nft := w.nft
  tab := fun q hq => by
    obtain ⟨ps, h1, h2, h3⟩ := w.tab q hq
    refine ⟨ps, by rw [upd_ne (ne_of h1 hp (fun z => nomatch z))]; exact h1, h2, fun pos cv e => ?_⟩
    obtain ⟨c, e1, e2⟩ := h3 pos cv e
    exact ⟨c, e1, by rw [upd_ne (ne_of e2 hp (fun z => by unfold LamX.CodeO at z; cases z))]; exact e2⟩
def cmpL (tg : Tg) (cond elt : Ex) (S : Sl) : List D → M (List D)
  | [] => ret []
  | d :: ds => match tg d S with
    | none => stuck
    | some S' => bnd (calm (cond S')) fun b => match b with
      | .bl true => bnd (calm (elt S')) fun r => bnd (cmpL tg cond elt S ds) fun rs => ret (r :: rs)
      | .bl false => cmpL tg cond elt S ds
      | _ => stuck
def eComp (vs : List Nat) (it : Sl → M (List D)) (tg : Tg) (cond elt : Ex) : Ex := fun S => bnd (it S) fun ds => if ds.length ≤ sizeLine then bnd (cmpL tg cond elt (wipeS S vs) ds) fun rs => ret (.lst rs) else stuck
abbrev CTs (X : Cx) (C : Cn) (E : XK) (ifs : List Expr) (f : Ex) : Prop := PTs X ifs (tT X.K C E f)
theorem PTs.imp {X : Cx} {e : List Expr} {t t' : TT} (h : PTs X e t) (f : ∀ σ H Q, t' σ H Q → t σ H Q) : PTs X e t' := ⟨fun pins s σ H Q I q => h.run pins s σ H Q I (f σ H Q q)⟩
section
variable {X : Cx} {C : Cn} {E : XK}
theorem cts_nil : CTs X C E [] (eC (.bl true)) := PTs.imp pts_nil fun σ H Q ⟨g, S, t, w, s, p⟩ => by
  obtain ⟨b, e, q⟩ := postRet p w
  cases e
  exact q
theorem cts_one {c : Expr} {f : Ex} (h : CT X C E c f) : CTs X C E [c] f := pts_one h
/-- a list that is built at D: a step leaves it -/
theorem Yl.stp {K : PySem.W.Frag} {g g1 : G} {H H' : Hp} {t : Tn} {x : V} {d : D} (h : Yl K g1 H x H' d) (f : Same g1.Fz g.Fz) (tw : ∀ p, g1.tw = some p → g.tw = some p) (w : Wf C g H t) : ∃ g', Stp g H g' H' ∧ Wf C g' H' t ∧ Rp K g' x d ∧ ∀ b, H b ≠ none → H' b = H b := by
  rcases h with ⟨rfl, r⟩ | ⟨T, vs, ds, rfl, hT, ⟨ob, rfl, od, oc⟩, rfl, ra⟩
  · exact ⟨g, .refl _ _, w, r.mono f tw, fun _ _ => rfl⟩
  · obtain ⟨g2, s2, w2, r2⟩ := layT w hT od oc (ra.mono f tw)
    refine ⟨g2, s2, w2, r2, fun b hb => ?_⟩
    rw [upd_ne fun z => hb (by rw [z]; exact hT)]
theorem tF.lc {own : List (Str × Nat)} {is : List Nat} {fi : Sl → M (List D)} {ft : Tg} {fc fe : Ex} {σ : L2.St} {H : Hp} {Q : VK} (hv : ∀ i ∈ is, i ∈ own.map (·.2)) (h : tF X.K C E (eComp (own.map (·.2)) fi ft fc fe) σ H Q) :
    tLc (tIW X.K C E fi) (tG X.K C is ft) (tT X.K C E0 fc) (tE X.K C E0 fe) (own.map (·.2)) σ H Q := by
  obtain ⟨g, S, t, w, s, p⟩ := h
  refine ⟨g, S, t, w, s, p.bnd.imp fun ds t1 g1 H1 st1 w1 q J B kp wk => ?_⟩
  have q : Post C E g1 H1 (fun d _ g' H' => ∀ v, RpF X.K H g' H' v d → Q v H') ((if ds.length ≤ sizeLine then bnd (cmpL ft fc fe (wipeS S (own.map (·.2))) ds) fun rs => ret (BG.D.lst rs) else stuck) t1) := q
  split at q
  case isFalse => exact q.elim
  rename_i hsz
  intro La hD
  have s1 := s.stp w st1
  refine ⟨fun i m Hk => m = ds.length - i ∧ i ≤ ds.length ∧ ∃ gk tk av ad, Stp g1 H1 gk Hk ∧ Wf C gk Hk tk ∧ Hk La = some (.lst av) ∧ gk.Fz La = none ∧ RpA X.K gk av ad ∧ ad.length ≤ i ∧
    Post C E g1 H1 (fun d _ g' H' => ∀ v, RpF X.K H g' H' v d → Q v H') (bnd (cmpL ft fc fe (wipeS S (own.map (·.2))) (ds.drop i)) (fun rs => ret (BG.D.lst (ad ++ rs))) tk), ⟨ds.length, by simp, Nat.zero_le _, g1, t1, [], [], Stp.lay w1 hD, Wf.lay w1 hD, upd_same, w1.fzN hD, .nil, Nat.zero_le _, ?_⟩, ?_⟩
  · rw [List.drop_zero]
    exact q
  rintro i m Hk ⟨rfl, hi', gk, tk, av, ad, stk, wk', eD, fD, ra, hal, pk⟩
  obtain ⟨wgo, wstop⟩ := wk i Hk (kp gk Hk tk stk wk')
  by_cases hlt : i < ds.length
  · have ed : ds[i]? = some ds[i] := List.getElem?_eq_getElem hlt
    obtain ⟨go, yl⟩ := wgo _ ed
    have edr : ds.drop i = ds[i] :: ds.drop (i + 1) := List.drop_eq_getElem_cons hlt
    rw [edr] at pk
    refine .inr ⟨go, fun Hn => ∃ gn tn bv bd, Stp g1 H1 gn Hn ∧ Wf C gn Hn tn ∧ Hn La = some (.lst bv) ∧ gn.Fz La = none ∧ RpA X.K gn bv bd ∧ bd.length ≤ i + 1 ∧
      Post C E g1 H1 (fun d _ g' H' => ∀ v, RpF X.K H g' H' v d → Q v H') (bnd (cmpL ft fc fe (wipeS S (own.map (·.2))) (ds.drop (i + 1))) (fun rs => ret (BG.D.lst (bd ++ rs))) tn), fun H' hn => ⟨_, Nat.sub_lt_sub_left hlt (Nat.lt_succ_self i), rfl, hlt, hn⟩, fun x H' hy => ?_⟩
    obtain ⟨g3, st3, w3, r3, kp3⟩ := (yl x H' hy).stp stk.fz stk.tw wk'
    have st13 : Stp g1 H1 g3 H' := stk.trans st3
    have eD3 : H' La = some (.lst av) := by rw [kp3 La (by rw [eD]; exact fun z => nomatch z)]; exact eD
    have fD3 : g3.Fz La = none := by rw [st3.new La ⟨_, eD, fun _ z => nomatch z⟩]; exact fD
    have ra3 := ra.stp st3
    have sl3 : SL X.K g3 H' (L2.wipe σ (own.map (·.2))) (wipeS S (own.map (·.2))) := (s1.stp w1 st13).wipe _
    have pk : Post C E g1 H1 (fun d _ g' H' => ∀ v, RpF X.K H g' H' v d → Q v H') (bnd (match ft ds[i] (wipeS S (own.map (·.2))) with
      | none => stuck
      | some S' => bnd (calm (fc S')) fun b => match b with
        | .bl true => bnd (calm (fe S')) fun r => bnd (cmpL ft fc fe (wipeS S (own.map (·.2))) (ds.drop (i + 1))) fun rs => ret (r :: rs)
        | .bl false => cmpL ft fc fe (wipeS S (own.map (·.2))) (ds.drop (i + 1))
        | _ => stuck) (fun rs => ret (BG.D.lst (ad ++ rs))) tk) := pk
    cases eft : ft ds[i] (wipeS S (own.map (·.2))) with
    | none => rw [eft] at pk; exact pk.elim
    | some S' =>
      rw [eft] at pk
      refine ⟨g3, _, tk, _, S', w3, sl3, r3, eft, fun σ2 sl2 hl2 hout _ => ⟨wipe_eq (by rw [hl2, wipe_length]) fun j hj => hout j fun z => hj (hv j z), ?_⟩⟩
      have pk : Post C E g1 H1 (fun d _ g' H' => ∀ v, RpF X.K H g' H' v d → Q v H') (bnd (bnd (calm (fc S')) fun b => match b with
        | .bl true => bnd (calm (fe S')) fun r => bnd (cmpL ft fc fe (wipeS S (own.map (·.2))) (ds.drop (i + 1))) fun rs => ret (r :: rs)
        | .bl false => cmpL ft fc fe (wipeS S (own.map (·.2))) (ds.drop (i + 1))
        | _ => stuck) (fun rs => ret (BG.D.lst (ad ++ rs))) tk) := pk
      rw [bnd_assoc] at pk
      have pc := (Post.calm pk.bnd0 E0).stp st13
      refine ⟨g3, S', tk, w3, sl2, pc.imp fun b tb gb Hb stb wb qb => ?_⟩
      have st1b := st13.trans stb
      have eDb : Hb La = some (.lst av) := stb.frm _ _ eD3 (w3.ntL eD3) (fun _ z => nomatch z)
      have fDb : gb.Fz La = none := by rw [stb.new La ⟨_, eD3, fun _ z => nomatch z⟩]; exact fD3
      have rab := ra3.stp stb
      cases b with
      | bl b =>
        refine ⟨b, rfl, ?_⟩
        cases b with
        | false => exact iteF ⟨gb, tb, av, ad, st1b, wb, eDb, fDb, rab, Nat.le_succ_of_le hal, qb⟩
        | true =>
          refine iteT ?_
          have qb : Post C E g1 H1 (fun d _ g' H' => ∀ v, RpF X.K H g' H' v d → Q v H') (bnd (bnd (calm (fe S')) fun r => bnd (cmpL ft fc fe (wipeS S (own.map (·.2))) (ds.drop (i + 1))) fun rs => ret (r :: rs)) (fun rs => ret (BG.D.lst (ad ++ rs))) tb) := qb
          rw [bnd_assoc] at qb
          have pe := (Post.calm qb.bnd0 E0).stp st1b
          refine ⟨gb, S', tb, wb, sl2.stp w3 stb, pe.imp fun r tr gr Hr str wr qr y ry => ?_⟩
          have eDr : Hr La = some (.lst av) := str.frm _ _ eDb (wb.ntL eDb) (fun _ z => nomatch z)
          have fDr : gr.Fz La = none := by rw [str.new La ⟨_, eDb, fun _ z => nomatch z⟩]; exact fDb
          have rar := rab.stp str
          have st1r := st1b.trans str
          have hH1D : H1 La = none := hD
          refine ⟨av, eDr, ?_, gr, tr, av ++ [y], ad ++ [r], ⟨st1r.fz, st1r.tw, st1r.twn, fun b o e1 e2 e3 => ?_, fun b e1 => ?_, st1r.new⟩, ?_, upd_same, fDr, rar.app (.one ry), by rw [List.length_append]; exact Nat.succ_le_succ hal, ?_⟩
          · rw [rar.length]
            exact Nat.lt_of_lt_of_le (Nat.lt_of_le_of_lt hal hlt) hsz
          · rw [upd_ne (ne_of_none e1 hH1D)]
            exact st1r.frm b o e1 e2 e3
          · by_cases hb : b = La
            · exact ⟨_, by rw [hb]; exact upd_same, fun _ z => by cases z⟩
            · obtain ⟨o', e', n'⟩ := st1r.thr b e1
              exact ⟨o', by rw [upd_ne hb]; exact e', n'⟩
          · exact wr.updL eDr fDr
          · rw [bnd_assoc] at qr
            have er : (fun rs => ret (BG.D.lst (ad ++ [r] ++ rs))) = (fun rs => bnd (ret (r :: rs)) fun rs => ret (BG.D.lst (ad ++ rs))) := by
              funext rs
              rw [ret_bnd, List.append_assoc]; rfl
            rw [er]
            exact qr
      | _ => exact qb.elim
  · have e : i = ds.length := by omega
    subst e
    refine .inl ⟨wstop (Nat.le_refl _), ?_⟩
    rw [List.drop_length] at pk
    have pk : Post C E g1 H1 (fun d _ g' H' => ∀ v, RpF X.K H g' H' v d → Q v H') (ret (BG.D.lst (ad ++ [])) tk) := pk
    rw [List.append_nil] at pk
    exact pk gk Hk stk wk' _ ⟨La, av, ad, rfl, rfl, st1.back hD, eD, ra, fD⟩
theorem cf_comp {elt tg iter : Expr} {ifs : List Expr} {scope : Scope} {own : List (Str × Nat)} {pos : Pos} {is : List Nat} {fi : Sl → M (List D)} {ft : Tg} {fc fe : Ex} (hc : X.calm = true) (hN : X.N.Nodup) (hi : CIW X C E tg iter fi) (ok : BlkOk X.N X.env.scope scope own) (hv : ∀ i ∈ is, i ∈ own.map (·.2))
    (hg : ∀ (s : Shared) (H : Hp) (Ca : Addr) (cl : List (Str × Addr)) (fp : List Addr), CG (X.blk s H scope (compEnvC scope cl Ca X.env) fp) C is tg ft) (ht : ∀ (s : Shared) (H : Hp) (Ca : Addr) (cl : List (Str × Addr)) (fp : List Addr), CTs (X.blk s H scope (compEnvC scope cl Ca X.env) fp) C E0 ifs fc)
    (he : ∀ (s : Shared) (H : Hp) (Ca : Addr) (cl : List (Str × Addr)) (fp : List Addr), CE (X.blk s H scope (compEnvC scope cl Ca X.env) fp) C E0 elt fe) (hs : ∀ x, foldedSetIterable iter X.env x = pure x := by intro _; rfl) :
    CF X C E (.ListComp elt [⟨tg, iter, ifs, 0⟩] scope pos) (eComp (own.map (·.2)) fi ft fc fe) := by
  exact PE.imp (pe_lc (te := tE X.K C E0 fe) (g := tG X.K C is ft) (tt := tT X.K C E0 fc) hc hN hi ok hg ht he hs) fun σ H Q h => tF.lc hv h
end
end BG
set_option Elab.async false
set_option linter.all false
set_option maxRecDepth 100000
set_option maxHeartbeats 4000000
namespace BG
open PySem PySem.Spec PyProof.Rows L2
inductive Fl where
  | nx (S : Sl)
  | ret (d : D)
abbrev Stm := Sl → M Fl
def OwnF (H0 : Hp) (σ : L2.St) (S : Sl) : Prop := ∀ (j : Nat) x p, S[j]? = some x → isOw x = true → σ[j]? = some (some (.ref p)) → ¬ Nt H0 p
/-- what is frozen stays frozen -/
structure Gw (g g' : G) : Prop where
  fz : Same g.Fz g'.Fz
  tw : ∀ p, g.tw = some p → g'.tw = some p
theorem Gw.refl (g : G) : Gw g g := ⟨fun _ _ h => h, fun _ h => h⟩
theorem Gw.trans {g g1 g2 : G} (a : Gw g g1) (b : Gw g1 g2) : Gw g g2 := ⟨a.fz.trans b.fz, fun p h => b.tw p (a.tw p h)⟩
theorem Stp.gw {g g' : G} {H H' : Hp} (s : Stp g H g' H') : Gw g g' := ⟨s.fz, s.tw⟩
/-- what follows a statement -/
def Rs (K : PySem.W.Frag) (H0 : Hp) (gs : G) (De : Ends) : Fl → Tn → G → Hp → Prop
  | .nx S', _, g', H' => ∀ σ', Gw gs g' → SL K g' H' σ' S' → OwnF H0 σ' S' → De.nx σ' H'
  | .ret d, _, g', H' => ∀ v, Gw gs g' → Rp K g' v d → De.rt v H'
def tS (K : PySem.W.Frag) (C : Cn) (E : XK) (f : Stm) : TS := fun De σ H => ∃ g0 H0 gs g S t, Stp g0 H0 g H ∧ Gw gs g ∧ Wf C g H t ∧ SL K g H σ S ∧ OwnF H0 σ S ∧ Post C E g0 H0 (Rs K H0 gs De) (f S t)
abbrev CS (X : Cx) (C : Cn) (E : XK) (st : Stmt) (f : Stm) : Prop := PS X st (tS X.K C E f)
abbrev CSs (X : Cx) (C : Cn) (E : XK) (st : List Stmt) (f : Stm) : Prop := PSs X st (tS X.K C E f)
def sNil : Stm := fun S => ret (.nx S)
def sSeq (a b : Stm) : Stm := fun S => bnd (a S) fun fl => match fl with
  | .nx S' => b S'
  | .ret d => ret (.ret d)
def sAsg (i : Nat) (e : Ex) : Stm := fun S => bnd (e S) fun d => ret (.nx (S.set i (.val d)))
def sOwn (i : Nat) (e : Ex) : Stm := fun S => bnd (e S) fun d => match d with
  | .lst ds => ret (.nx (S.set i (.own ds)))
  | _ => stuck
def sAsgG (tg : Tg) (e : Ex) : Stm := fun S => bnd (e S) fun d => match tg d S with
  | some S' => ret (.nx S')
  | none => stuck
def sPar (i j : Nat) (a b : Ex) : Stm := fun S => bnd (a S) fun x => bnd (b S) fun y => ret (.nx ((S.set i (.val x)).set j (.val y)))
def sParO (i j : Nat) (a b : Ex) : Stm := fun S => bnd (a S) fun x => bnd (b S) fun y => match y with
  | .lst ds => ret (.nx ((S.set i (.val x)).set j (.own ds)))
  | _ => stuck
def sApp (i : Nat) (e : Ex) : Stm := fun S => match S[i]? with
  | some (.own _) => bnd (e S) fun d => match S[i]? with
    | some (.own ds) => if ds.length < sizeLine then ret (.nx (S.set i (.own (ds ++ [d])))) else stuck
    | _ => stuck
  | _ => stuck
def sExpr (e : Ex) : Stm := fun S => bnd (e S) fun _ => ret (.nx S)
def sIf (c : Ex) (a b : Stm) : Stm := fun S => bnd (c S) fun d => match d with
  | .bl true => a S
  | .bl false => b S
  | _ => stuck
def sRet (e : Ex) : Stm := fun S => bnd (e S) fun d => ret (.ret d)
def sFrz (i : Nat) (a : Stm) : Stm := fun S => match S[i]? with
  | some (.own ds) => a (S.set i (.val (.lst ds)))
  | _ => a S
def sRaise (c : Nat) : Stm := fun _ => raise c
def forL (tg : Tg) (body : Stm) : List D → Stm
  | [], S => ret (.nx S)
  | d :: ds, S => match tg d S with
    | none => stuck
    | some S' => bnd (calm (body S')) fun fl => match fl with
      | .nx S'' => forL tg body ds S''
      | .ret v => ret (.ret v)
def sFor (it : Sl → M (List D)) (tg : Tg) (body : Stm) : Stm := fun S => bnd (calm (it S)) fun ds => forL tg body ds S
def whileL (c : Ex) (body : Stm) : Nat → Stm
  | 0, _ => stuck
  | n + 1, S => bnd (calm (c S)) fun d => match d with
    | .bl true => bnd (calm (body S)) fun fl => match fl with
      | .nx S'' => whileL c body n S''
      | .ret v => ret (.ret v)
    | .bl false => ret (.nx S)
    | _ => stuck
def sWhile (n : Nat) (c : Ex) (body : Stm) : Stm := whileL c body n
section
variable {K : PySem.W.Frag} {C : Cn} {E : XK}
theorem OwnF.set {H0 : Hp} {σ : L2.St} {S : Sl} {i : Nat} {v : V} {d : D} (h : OwnF H0 σ S) : OwnF H0 (σ.set i (some v)) (S.set i (.val d)) := fun j ds p e1 ox e2 => by
  have n := set_ow e1 ox
  rw [List.getElem?_set_ne n] at e1 e2
  exact h j ds p e1 ox e2
theorem OwnF.keep {H0 : Hp} {σ σ' : L2.St} {S S' : Sl} (h : OwnF H0 σ S) (k : ∀ (j : Nat) x, S'[j]? = some x → isOw x = true → S[j]? = some x ∧ σ'[j]? = σ[j]?) : OwnF H0 σ' S' := fun j ds p e1 ox e2 => by
  obtain ⟨a, b⟩ := k j ds e1 ox
  rw [b] at e2
  exact h j ds p a ox e2
/-- an expression within a statement -/
theorem tS.ex {f : Ex} {k : D → M Fl} {σ : L2.St} {H : Hp} {De : Ends} {g0 gs g : G} {H0 : Hp} {S : Sl} {t : Tn} {Q : VK} (st : Stp g0 H0 g H) (gr : Gw gs g) (w : Wf C g H t) (s : SL K g H σ S) (p : Post C E g0 H0 (Rs K H0 gs De) (bnd (f S) k t))
    (h : ∀ d t1 g1 H1 v, Stp g H g1 H1 → Stp g0 H0 g1 H1 → Gw gs g1 → Wf C g1 H1 t1 → SL K g1 H1 σ S → Rp K g1 v d → Post C E g0 H0 (Rs K H0 gs De) (k d t1) → Q v H1) : tE K C E f σ H Q :=
  ⟨g, S, t, w, s, (p.bnd0.stp st).imp fun d t1 g1 H1 st1 w1 q v r => h d t1 g1 H1 v st1 (st.trans st1) (gr.trans st1.gw) w1 (s.stp w st1) r q⟩
theorem tS.exW {f : Ex} {k : D → M Fl} {σ : L2.St} {H : Hp} {De : Ends} {g0 gs g : G} {H0 : Hp} {S : Sl} {t : Tn} {Q : VK} (st : Stp g0 H0 g H) (gr : Gw gs g) (w : Wf C g H t) (s : SL K g H σ S) (p : Post C E g0 H0 (Rs K H0 gs De) (bnd (f S) k t))
    (h : ∀ d t1 g1 H1 v, Stp g H g1 H1 → Stp g0 H0 g1 H1 → Gw gs g1 → Wf C g1 H1 t1 → SL K g1 H1 σ S → RpW K g1 H1 v d → Post C E g0 H0 (Rs K H0 gs De) (k d t1) → Q v H1) : tW K C E f σ H Q :=
  ⟨g, S, t, w, s, (p.bnd0.stp st).imp fun d t1 g1 H1 st1 w1 q v r => h d t1 g1 H1 v st1 (st.trans st1) (gr.trans st1.gw) w1 (s.stp w st1) r q⟩
theorem tS.exF {f : Ex} {k : D → M Fl} {σ : L2.St} {H : Hp} {De : Ends} {g0 gs g : G} {H0 : Hp} {S : Sl} {t : Tn} {Q : VK} (st : Stp g0 H0 g H) (gr : Gw gs g) (w : Wf C g H t) (s : SL K g H σ S) (p : Post C E g0 H0 (Rs K H0 gs De) (bnd (f S) k t))
    (h : ∀ d t1 g1 H1 v, Stp g H g1 H1 → Stp g0 H0 g1 H1 → Gw gs g1 → Wf C g1 H1 t1 → SL K g1 H1 σ S → RpF K H g1 H1 v d → Post C E g0 H0 (Rs K H0 gs De) (k d t1) → Q v H1) : tF K C E f σ H Q :=
  ⟨g, S, t, w, s, (p.bnd0.stp st).imp fun d t1 g1 H1 st1 w1 q v r => h d t1 g1 H1 v st1 (st.trans st1) (gr.trans st1.gw) w1 (s.stp w st1) r q⟩
theorem tS.tst {f : Ex} {k : D → M Fl} {σ : L2.St} {H : Hp} {De : Ends} {g0 gs g : G} {H0 : Hp} {S : Sl} {t : Tn} {Q : Bool → Hp → Prop} (st : Stp g0 H0 g H) (gr : Gw gs g) (w : Wf C g H t) (s : SL K g H σ S) (p : Post C E g0 H0 (Rs K H0 gs De) (bnd (f S) k t))
    (nb : ∀ d t, (∀ b, d ≠ .bl b) → k d t = none) (h : ∀ b t1 g1 H1, Stp g H g1 H1 → Stp g0 H0 g1 H1 → Gw gs g1 → Wf C g1 H1 t1 → SL K g1 H1 σ S → Post C E g0 H0 (Rs K H0 gs De) (k (.bl b) t1) → Q b H1) : tT K C E f σ H Q :=
  ⟨g, S, t, w, s, (p.bnd0.stp st).imp fun d t1 g1 H1 st1 w1 q => by
    by_cases hb : ∃ b, d = .bl b
    · obtain ⟨b, rfl⟩ := hb
      exact ⟨b, rfl, h b t1 g1 H1 st1 (st.trans st1) (gr.trans st1.gw) w1 (s.stp w st1) q⟩
    · rw [nb d t1 fun b z => hb ⟨b, z⟩] at q
      exact q.elim⟩
/-- the slot gets a list of its own -/
theorem SL.setO {g : G} {H : Hp} {σ : L2.St} {S : Sl} {i : Nat} {p : Addr} {vs : List V} {ds : List D} (s : SL K g H σ S) (hp : H p = some (.lst vs)) (r : RpA K g vs ds) (fp : g.Fz p = none) (hn : ∀ (j : Nat) x, S[j]? = some x → isOw x = true → σ[j]? = some (some (.ref p)) → j = i) :
    SL K g H (σ.set i (some (.ref p))) (S.set i (.own ds)) := s.put ⟨p, vs, rfl, hp, r, fp⟩ fun _ q e => by cases e; exact hn
theorem OwnF.put {H0 : Hp} {σ : L2.St} {S : Sl} {i : Nat} {p : Addr} {x : SV} (h : OwnF H0 σ S) (hp : ¬ Nt H0 p) : OwnF H0 (σ.set i (some (.ref p))) (S.set i x) := fun j dj q e1 ox e2 => by
  by_cases hj : i = j
  · subst hj
    obtain ⟨hl, _⟩ := List.getElem?_eq_some_iff.mp e2
    rw [List.length_set] at hl
    rw [List.getElem?_set_self hl] at e2
    cases e2
    exact hp
  · rw [List.getElem?_set_ne hj] at e1 e2
    exact h j dj q e1 ox e2
theorem OwnF.setO {H0 : Hp} {σ : L2.St} {S : Sl} {i : Nat} {p : Addr} {ds : List D} (h : OwnF H0 σ S) (hp : ¬ Nt H0 p) : OwnF H0 (σ.set i (some (.ref p))) (S.set i (.own ds)) := h.put hp
/-- an object that was just made is nobody's -/
theorem SL.noOne {g : G} {H : Hp} {σ : L2.St} {S : Sl} {p : Addr} (s : SL K g H σ S) (hp : ¬ Nt H p) (i : Nat) : ∀ (j : Nat) x, S[j]? = some x → isOw x = true → σ[j]? = some (some (.ref p)) → j = i := fun j x e1 ox e2 => by
  obtain ⟨a, o, h1, h2, _, h4⟩ := s.ow e1 ox
  rw [e2] at h1
  cases h1
  exact absurd ⟨o, h2, h4⟩ hp
end
section
variable {X : Cx} {C : Cn} {E : XK}
theorem css_nil : CSs X C E [] sNil := PSs.imp pss_nil fun De σ H ⟨g0, H0, gs, g, S, t, st, gr, w, s, o, p⟩ => p g H st w σ gr s o
theorem css_cons {st : Stmt} {rest : List Stmt} {a b : Stm} (h1 : CS X C E st a) (h2 : CSs X C E rest b) : CSs X C E (st :: rest) (sSeq a b) := PSs.imp (pss_cons h1 h2) fun De σ H ⟨g0, H0, gs, g, S, t, st, gr, w, s, o, p⟩ =>
  ⟨g0, H0, gs, g, S, t, st, gr, w, s, o, p.bnd0.imp fun fl t1 g1 H1 st1 w1 q => by
    cases fl with
    | nx S' => exact fun σ' gr' s' o' => ⟨g0, H0, gs, g1, S', t1, st1, gr', w1, s', o', q⟩
    | ret d => exact q g1 H1 st1 w1⟩
theorem css_one {st : Stmt} {a : Stm} (h1 : CS X C E st a) : CSs X C E [st] a := PSs.imp (pss_one h1) fun De σ H h => h
theorem cs_asg (i : Nat) {x : Str} {e : Expr} {f : Ex} {pos pos' : Pos} (hN : X.N.Nodup) (he : CE X C E e f) (hi : X.N[i]? = some x := by rfl) (hx : Loc X.env.scope x := by first | exact .inl rfl | exact .inr rfl) (hs : swapsWith e (some (.Name x pos')) pos.line X.env = pure false := by rfl)
    (hf : X.fn x = true ∨ X.env.scope.names.lookup x = some .local := by first | exact .inl rfl | exact .inr rfl | assumption) : CS X C E (.Assign [.Name x pos'] e pos) (sAsg i f) :=
  PS.imp (ps_set hN hi hx he hs hf) fun De σ H ⟨g0, H0, gs, g, S, t, st, gr, w, s, o, p⟩ => tS.ex st gr w s p fun d t1 g1 H1 v st1 st01 gr1 w1 s1 r q => q g1 H1 st01 w1 _ gr1 (s1.set r) o.set
theorem cs_own (i : Nat) {x : Str} {e : Expr} {f : Ex} {pos pos' : Pos} (hN : X.N.Nodup) (he : CF X C E e f) (hi : X.N[i]? = some x := by rfl) (hx : Loc X.env.scope x := by first | exact .inl rfl | exact .inr rfl) (hs : swapsWith e (some (.Name x pos')) pos.line X.env = pure false := by rfl)
    (hf : X.fn x = true ∨ X.env.scope.names.lookup x = some .local := by first | exact .inl rfl | exact .inr rfl | assumption) : CS X C E (.Assign [.Name x pos'] e pos) (sOwn i f) :=
  PS.imp (ps_set hN hi hx he hs hf) fun De σ H ⟨g0, H0, gs, g, S, t, st, gr, w, s, o, p⟩ => tS.exF st gr w s p fun d t1 g1 H1 v st1 st01 gr1 w1 s1 r q => by
    obtain ⟨a, vs, ds, rfl, rfl, e0, e1, ra, e2⟩ := r
    refine q g1 H1 st01 w1 _ gr1 (s1.setO e1 ra e2 fun j dj h1 hx h2 => s.noOne e0 i j dj h1 hx h2) (o.setO (st.backN e0))
theorem cs_par (i j : Nat) {x y : Str} {a b : Expr} {fa fb : Ex} {px py pt : Pos} {kt k2 pt2} {pos : Pos} (hN : X.N.Nodup) (ha : CE X C E a fa) (hb : CE X C E b fb) (hc : X.calm = true := by rfl) (hi : X.N[i]? = some x := by rfl) (hj : X.N[j]? = some y := by rfl) (hij : i ≠ j := by decide)
    (hx : X.env.scope.names.lookup x = some .local := by rfl) (hy : X.env.scope.names.lookup y = some .local := by rfl)
    (hw : swappedStores [.Tuple [.Name x px, .Name y py] kt pt] (.Tuple [a, b] k2 pt2) X.env = pure (some [x, y]) := by rfl) (hs : swapsWithSole [.Tuple [.Name x px, .Name y py] kt pt] (.Tuple [a, b] k2 pt2) pos.line X.env = pure false := by rfl)
    (s1 : starEach [a, b] X.env = (false, eval a X.env) :: starEach [b] X.env := by rfl) (s2 : starEach [b] X.env = (false, eval b X.env) :: starEach [] X.env := by rfl) :
    CS X C E (.Assign [.Tuple [.Name x px, .Name y py] kt pt] (.Tuple [a, b] k2 pt2) pos) (sPar i j fa fb) :=
  PS.imp (ps_par hc hN hi hj hij hx hy (pa_cons ha (pa_cons hb pa_nil s2) s1) hw hs) fun De σ H ⟨g0, H0, gs, g, S, t, st, gr, w, s, o, p⟩ => tS.ex st gr w s p fun d t1 g1 H1 v st1 st01 gr1 w1 s1 r q =>
    tS.ex st01 gr1 w1 s1 q fun d2 t2 g2 H2 v2 st2 st02 gr2 w2 s2 r2 q2 => ⟨v, v2, rfl, q2 g2 H2 st02 w2 _ gr2 ((s2.set (r.stp st2)).set r2) o.set.set⟩
theorem cs_parO (i j : Nat) {x y : Str} {a b : Expr} {fa fb : Ex} {px py pt : Pos} {kt k2 pt2} {pos : Pos} (hN : X.N.Nodup) (ha : CE X C E a fa) (hb : CF X C E b fb) (hc : X.calm = true := by rfl) (hi : X.N[i]? = some x := by rfl) (hj : X.N[j]? = some y := by rfl) (hij : i ≠ j := by decide)
    (hx : X.env.scope.names.lookup x = some .local := by rfl) (hy : X.env.scope.names.lookup y = some .local := by rfl)
    (hw : swappedStores [.Tuple [.Name x px, .Name y py] kt pt] (.Tuple [a, b] k2 pt2) X.env = pure (some [x, y]) := by rfl) (hs : swapsWithSole [.Tuple [.Name x px, .Name y py] kt pt] (.Tuple [a, b] k2 pt2) pos.line X.env = pure false := by rfl)
    (s1 : starEach [a, b] X.env = (false, eval a X.env) :: starEach [b] X.env := by rfl) (s2 : starEach [b] X.env = (false, eval b X.env) :: starEach [] X.env := by rfl) :
    CS X C E (.Assign [.Tuple [.Name x px, .Name y py] kt pt] (.Tuple [a, b] k2 pt2) pos) (sParO i j fa fb) :=
  PS.imp (ps_par hc hN hi hj hij hx hy (pa_cons ha (pa_cons hb pa_nil s2) s1) hw hs) fun De σ H ⟨g0, H0, gs, g, S, t, st, gr, w, s, o, p⟩ => tS.ex st gr w s p fun d t1 g1 H1 v st1 st01 gr1 w1 s1 r q =>
    tS.exF st01 gr1 w1 s1 q fun d2 t2 g2 H2 v2 st2 st02 gr2 w2 s2 r2 q2 => by
      obtain ⟨a, vs, ds, rfl, rfl, e0, e1, ra, e2⟩ := r2
      refine ⟨v, .ref a, rfl, q2 g2 H2 st02 w2 _ gr2 ((s2.set (r.stp st2)).setO e1 ra e2 fun m dm h1 hx h2 => ?_) (o.set.setO (st01.backN e0))⟩
      have n := set_ow h1 hx
      rw [List.getElem?_set_ne n] at h1 h2
      exact s1.noOne e0 j m dm h1 hx h2
theorem cs_expr {e : Expr} {f : Ex} {pos : Pos} (he : CE X C E e f) (hs : swapsWith e none pos.line X.env = pure false := by rfl) : CS X C E (.Expr e pos) (sExpr f) :=
  PS.imp (ps_expr he hs) fun De σ H ⟨g0, H0, gs, g, S, t, st, gr, w, s, o, p⟩ => tS.ex st gr w s p fun d t1 g1 H1 v st1 st01 gr1 w1 s1 r q => q g1 H1 st01 w1 _ gr1 s1 o
theorem cs_ret {e : Expr} {f : Ex} {pos : Pos} (he : CE X C E e f) : CS X C E (.Return (some e) pos) (sRet f) :=
  PS.imp (ps_ret he) fun De σ H ⟨g0, H0, gs, g, S, t, st, gr, w, s, o, p⟩ => tS.ex st gr w s p fun d t1 g1 H1 v st1 st01 gr1 w1 s1 r q => q g1 H1 st01 w1 v gr1 r
theorem cs_if {c : Expr} {a b : List Stmt} {fc : Ex} {fa fb : Stm} {pos : Pos} (hc : CT X C E c fc) (ha : CSs X C E a fa) (hb : CSs X C E b fb) : CS X C E (.If c a b pos) (sIf fc fa fb) :=
  PS.imp (ps_if hc ha hb) fun De σ H ⟨g0, H0, gs, g, S, t, st, gr, w, s, o, p⟩ => tS.tst (k := fun d => match d with | .bl true => fa S | .bl false => fb S | _ => stuck) st gr w s p (fun d t h => by cases d <;> first | rfl | exact absurd rfl (h _)) fun b t1 g1 H1 st1 st01 gr1 w1 s1 q => by
    cases b with
    | true => exact iteT ⟨g0, H0, gs, g1, S, t1, st01, gr1, w1, s1, o, q⟩
    | false => exact iteF ⟨g0, H0, gs, g1, S, t1, st01, gr1, w1, s1, o, q⟩
/-- a list of one's own is changed -/
theorem SL.updO {K : PySem.W.Frag} {g : G} {H : Hp} {σ : L2.St} {S : Sl} {i : Nat} {a : Addr} {vs : List V} {ds0 ds : List D} (s : SL K g H σ S) (e : S[i]? = some (.own ds0)) (h1 : σ[i]? = some (some (.ref a))) (ra : RpA K g vs ds) : SL K g (upd H a (.lst vs)) σ (S.set i (.own ds)) := by
  obtain ⟨b, us, k1, k2, k3, k4⟩ := s.own i ds0 e
  rw [h1] at k1
  cases k1
  exact s.updX e rfl h1 rfl ⟨a, vs, rfl, upd_same, ra, k4⟩
theorem OwnF.updX {H0 : Hp} {σ : L2.St} {S : Sl} {i : Nat} {x y : SV} (o : OwnF H0 σ S) (e : S[i]? = some x) (ox : isOw x = true) : OwnF H0 σ (S.set i y) := fun j dj p e1 oy e2 => by
  by_cases hj : i = j
  · subst hj; exact o i x p e ox e2
  · rw [List.getElem?_set_ne hj] at e1
    exact o j dj p e1 oy e2
theorem OwnF.updO {H0 : Hp} {σ : L2.St} {S : Sl} {i : Nat} {ds0 ds : List D} (o : OwnF H0 σ S) (e : S[i]? = some (.own ds0)) : OwnF H0 σ (S.set i (.own ds)) := o.updX e rfl
theorem Stp.updO {g0 g : G} {H0 H : Hp} {a : Addr} {ob : HO} (st : Stp g0 H0 g H) (h0 : ¬ Nt H0 a) : Stp g0 H0 g (upd H a ob) := ⟨st.fz, st.tw, st.twn, fun b o e1 e2 e3 => by rw [upd_ne (fun z => h0 ⟨o, by rw [← z]; exact e1, e3⟩)]; exact st.frm b o e1 e2 e3, fun b e1 => by
  obtain ⟨o', e', n'⟩ := st.thr b e1
  exact ⟨o', by rw [upd_ne (fun z => h0 (by rw [← z]; exact e1))]; exact e', n'⟩, st.new⟩
theorem cs_app (i : Nat) {x : Str} {e : Expr} {f : Ex} {p1 apos cpos pos : Pos} (he : CE X C E e f) (hN : X.N[i]? = some x := by rfl) (hv : Vis X.env.scope x := by first | exact Or.inl rfl | exact Or.inr (Or.inl rfl) | exact Or.inr (Or.inr rfl)) (hd : (x == ("__debug__" : Str)) = false := by decide)
    (hcd : (x == ("__classdict__" : Str)) = false := by decide) (hbase : attributeBase (.Name x p1) "append" X.env (eval (.Name x p1) X.env) = eval (.Name x p1) X.env := by rfl)
    (hfew : ((backTo cpos (starEach [e] X.env)).all (fun x => !x.1) && (backToKw cpos (keywordEach [] X.env)).all (fun x => x.1.isSome) && decide ([e].length + ([] : List Keyword).length + (if ([] : List Keyword).isEmpty then 0 else 1) < 30)) = true := by rfl)
    (hline : (apos.endLine == cpos.line) = true := by rfl) (hs : starEach [e] X.env = (false, eval e X.env) :: starEach [] X.env := by rfl) (hplain : (backTo cpos (starEach [] X.env)).any (·.1) = false := by rfl) (hsw : swapsWith (.Call (.Attribute (.Name x p1) "append" apos) [e] [] cpos) none pos.line X.env = pure false := by rfl) :
    CS X C E (.Expr (.Call (.Attribute (.Name x p1) "append" apos) [e] [] cpos) pos) (sApp i f) :=
  PS.imp (ps_expr (pe_bm PySem.F.plainAttrs_list PySem.F.slot_list_append PySem.F.type_list_append mt_append (pe_var hN hv hd hcd) (pa_cons he pa_nil hs) hbase hfew hline hs hplain) hsw) fun De σ H ⟨g0, H0, gs, g, S, t, st, gr, w, s, o, p⟩ => by
    unfold sApp at p
    cases e : S[i]? with
    | none => rw [e] at p; exact p.elim
    | some sv =>
      rw [e] at p
      cases sv with
      | un => exact p.elim
      | val d => exact p.elim
      | dic d => exact p.elim
      | raw d => exact p.elim
      | exn d => exact p.elim
      | own ds =>
        obtain ⟨a, vs, h1, h2, h3, h4⟩ := s.own i ds e
        refine ⟨_, h1, .inl ⟨rfl, vs, .of h2⟩, tS.ex st gr w s p fun d t1 g1 H1 v st1 st01 gr1 w1 s1 r q => ?_⟩
        have q : Post C E g0 H0 (Rs X.K H0 gs De) ((if ds.length < sizeLine then ret (Fl.nx (S.set i (.own (ds ++ [d])))) else stuck) t1) := q
        split at q
        · rename_i hz
          obtain ⟨a', vs', k1, k2, k3, k4⟩ := s1.own i ds e
          rw [h1] at k1
          cases k1
          refine ⟨a, vs', v, rfl, rfl, k2, by rw [k3.length]; exact hz, ?_⟩
          exact q g1 _ (st01.updO (o i _ a e rfl h1)) (w1.updL k2 k4) _ gr1 (s1.updO e h1 (k3.app (.one r))) (o.updO e)
        · exact q.elim
theorem PS.nox {st : Stmt} {t : TS} (h : PS X.nox st t) : PS X st t := ⟨fun pins s σ H D I hw =>
  wpAny_mono (h.run pins s σ H D (I.wish _) hw) (fun _ _ q => q.unwish) fun _ _ z => False.elim z⟩
theorem cs_for {tg iter : Expr} {body : List Stmt} {fi : Sl → M (List D)} {is : List Nat} {ft : Tg} {fb : Stm} {pos : Pos} (hc : X.calm = true) (hi : CI X.nox C E0 tg iter fi) (hg : CG X.nox C is tg ft) (hb : CSs X.nox C E0 body fb)
    (hs : ∀ x, foldedSetIterable iter X.env x = pure x := by intro _; rfl) : CS X C E (.For tg iter body [] pos) (sFor fi ft fb) := by
  refine PS.imp (PS.nox (ps_for (X := X.nox) PassesOwn.never hc hi hg hb hs)) fun De σ H ⟨g0, H0, gs, g, S, t, st, gr, w, s, o, p⟩ => ?_
  refine ⟨g, S, t, w, s, (Post.calm p.bnd0 E0 |>.stp st).imp fun ds t1 g1 H1 st1 w1 q J wk => ?_⟩
  have gr1 := gr.trans st1.gw
  refine ⟨fun i m σk Hk => m = ds.length - i ∧ i ≤ ds.length ∧ ∃ gk Sk tk, Stp g0 H0 gk Hk ∧ Gw g1 gk ∧ Wf C gk Hk tk ∧ SL X.K gk Hk σk Sk ∧ OwnF H0 σk Sk ∧ Post C E g0 H0 (Rs X.K H0 gs De) (forL ft fb (ds.drop i) Sk tk),
    ⟨ds.length, by simp, Nat.zero_le _, g1, S, t1, st.trans st1, .refl _, w1, s.stp w st1, o, by rw [List.drop_zero]; exact q⟩, ?_⟩
  rintro i m σk Hk ⟨rfl, hi', gk, Sk, tk, stk, gwk, wk', sk, ok, pk⟩
  obtain ⟨wgo, wstop⟩ := wk i Hk (gwk.fz.trans wk'.fz)
  by_cases hlt : i < ds.length
  · have ed : ds[i]? = some ds[i] := List.getElem?_eq_getElem hlt
    obtain ⟨go, yl⟩ := wgo _ ed
    have edr : ds.drop i = ds[i] :: ds.drop (i + 1) := List.drop_eq_getElem_cons hlt
    rw [edr] at pk
    refine .inr ⟨go, fun σn Hn => ∃ gn Sn tn, Stp g0 H0 gn Hn ∧ Gw g1 gn ∧ Wf C gn Hn tn ∧ SL X.K gn Hn σn Sn ∧ OwnF H0 σn Sn ∧ Post C E g0 H0 (Rs X.K H0 gs De) (forL ft fb (ds.drop (i + 1)) Sn tn), fun σ' H' hn => ⟨_, Nat.sub_lt_sub_left hlt (Nat.lt_succ_self i), rfl, hlt, hn⟩, fun x H' hy => ?_⟩
    obtain ⟨g3, st3, w3, r3, kp3⟩ := (yl x H' hy).stp gwk.fz gwk.tw wk'
    have sl3 := sk.stp wk' st3
    have pk : Post C E g0 H0 (Rs X.K H0 gs De) ((match ft ds[i] Sk with
      | none => stuck
      | some S' => bnd (calm (fb S')) fun fl => match fl with
        | .nx S'' => forL ft fb (ds.drop (i + 1)) S''
        | .ret v => ret (.ret v)) tk) := pk
    cases eft : ft ds[i] Sk with
    | none => rw [eft] at pk; exact pk.elim
    | some S' =>
      rw [eft] at pk
      refine ⟨g3, Sk, tk, _, S', w3, sl3, r3, eft, fun σ2 sl2 _ _ k2 => ?_⟩
      have pb := Post.calm pk.bnd0 E0
      refine ⟨g0, H0, g1, g3, S', tk, stk.trans st3, gwk.trans st3.gw, w3, sl2, ok.keep k2, pb.imp fun fl t4 g4 H4 st4 w4 q4 => ?_⟩
      cases fl with
      | nx S'' => exact fun σ' gw' s' o' => ⟨g4, S'', t4, st4, gw', w4, s', o', q4⟩
      | ret d => exact fun v gw' r => q4 g4 H4 st4 w4 v (gr1.trans gw') r
  · have e : i = ds.length := by omega
    subst e
    rw [List.drop_length] at pk
    exact .inl ⟨wstop (Nat.le_refl _), pk gk Hk stk wk' σk (gr1.trans gwk) sk ok⟩
theorem cs_while {c : Expr} {body : List Stmt} {n : Nat} {fc : Ex} {fb : Stm} {pos : Pos} (hc : CT X.nox C E0 c fc) (hb : CSs X.nox C E0 body fb) : CS X C E (.While c body [] pos) (sWhile n fc fb) := by
  refine PS.imp (PS.nox (ps_while (X := X.nox) PassesOwn.never hc hb)) fun De σ H ⟨g0, H0, gs, g, S, t, st, gr, w, s, o, p⟩ => ?_
  refine ⟨fun m σk Hk => ∃ gk Sk tk, Stp g0 H0 gk Hk ∧ Gw gs gk ∧ Wf C gk Hk tk ∧ SL X.K gk Hk σk Sk ∧ OwnF H0 σk Sk ∧ Post C E g0 H0 (Rs X.K H0 gs De) (whileL fc fb m Sk tk), ⟨n, g, S, t, st, gr, w, s, o, p⟩, ?_⟩
  rintro m σk Hk ⟨gk, Sk, tk, stk, gwk, wk, sk, ok, pk⟩
  cases m with
  | zero => exact pk.elim
  | succ m =>
    have pk : Post C E g0 H0 (Rs X.K H0 gs De) (bnd (calm (fc Sk)) (fun d => match d with
      | .bl true => bnd (calm (fb Sk)) fun fl => match fl with
        | .nx S'' => whileL fc fb m S''
        | .ret v => ret (.ret v)
      | .bl false => ret (.nx Sk)
      | _ => stuck) tk) := pk
    refine ⟨gk, Sk, tk, wk, sk, (Post.calm pk.bnd0 E0 |>.stp stk).imp fun d t1 g1 H1 st1 w1 q => ?_⟩
    cases d with
    | bl b =>
      refine ⟨b, rfl, ?_⟩
      cases b with
      | true =>
        refine iteT ⟨fun σn Hn => ∃ gn Sn tn, Stp g0 H0 gn Hn ∧ Gw gs gn ∧ Wf C gn Hn tn ∧ SL X.K gn Hn σn Sn ∧ OwnF H0 σn Sn ∧ Post C E g0 H0 (Rs X.K H0 gs De) (whileL fc fb m Sn tn), fun σ' H' hn => ⟨m, Nat.lt_succ_self m, hn⟩, ?_⟩
        have pb := Post.calm q.bnd0 E0
        refine ⟨g0, H0, gs, g1, Sk, t1, stk.trans st1, gwk.trans st1.gw, w1, sk.stp wk st1, ok, pb.imp fun fl t4 g4 H4 st4 w4 q4 => ?_⟩
        cases fl with
        | nx S'' => exact fun σ' gw' s' o' => ⟨g4, S'', t4, st4, gw', w4, s', o', q4⟩
        | ret d => exact fun v gw' r => q4 g4 H4 st4 w4 v gw' r
      | false => exact iteF (q g1 H1 (stk.trans st1) w1 σk (gwk.trans st1.gw) (sk.stp wk st1) ok)
    | _ => exact q.elim
end
def slots0 (n : Nat) (ds : List D) : Sl := ds.map SV.val ++ List.replicate (n - ds.length) .un
def fnOf (n : Nat) (body : Stm) : Fn := fun ds => bnd (body (slots0 n ds)) fun fl => match fl with
  | .nx _ => ret .non
  | .ret d => ret d
theorem SL.start {K : PySem.W.Frag} {g : G} {H : Hp} {N : List Str} {vs : List V} {ds : List D} (r : RpA K g vs ds) : SL K g H (L2.start N vs) (slots0 N.length ds) := by
  have hl := r.length
  have un : ∀ {i : Nat} {x : SV}, (slots0 N.length ds)[i]? = some x → x ≠ .un → i < ds.length ∧ ∃ d, ds[i]? = some d ∧ x = .val d := fun {i x} e hx => by
    unfold slots0 at e
    by_cases h : i < ds.length
    · rw [List.getElem?_append_left (by rw [List.length_map]; exact h), List.getElem?_map] at e
      cases z : ds[i]? with
      | none => rw [z] at e; cases e
      | some d =>
        rw [z] at e
        cases e
        exact ⟨h, d, rfl, rfl⟩
    · rw [List.getElem?_append_right (by rw [List.length_map]; omega), List.getElem?_replicate] at e
      split at e
      · cases e; exact absurd rfl hx
      · cases e
  refine ⟨by unfold L2.start slots0; rw [List.length_append, List.length_append, List.length_map, List.length_map, List.length_replicate, List.length_replicate, hl], fun i x e => ?_, fun i j p x y e1 _ ox => ?_⟩
  · by_cases hx : x = .un
    · subst hx; trivial
    · obtain ⟨h, d', e1, e2⟩ := un e hx
      subst e2
      obtain ⟨v, e3, r3⟩ := r.get e1
      refine ⟨v, ?_, r3⟩
      unfold L2.start
      rw [List.getElem?_append_left (by rw [List.length_map]; omega), List.getElem?_map, e3]; rfl
  · obtain ⟨h, d', _, e2⟩ := un e1 (fun z => by subst z; cases ox)
    subst e2
    cases ox
theorem OwnF.start {H0 : Hp} {σ : L2.St} {n : Nat} {ds : List D} : OwnF H0 σ (slots0 n ds) := fun j x p e ox _ => by
  unfold slots0 at e
  by_cases h : j < ds.length
  · rw [List.getElem?_append_left (by rw [List.length_map]; exact h), List.getElem?_map] at e
    cases z : ds[j]? with
    | none => rw [z] at e; cases e
    | some d => rw [z] at e; cases e; cases ox
  · rw [List.getElem?_append_right (by rw [List.length_map]; omega), List.getElem?_replicate] at e
    split at e
    · cases e; cases ox
    · cases e
/-- THE RULE: a def of the text, its body as read -/
theorem fn_ok {P : Program} {w : World} {K : PySem.W.Frag} {mg : Str → Option Value} {base : Heap} {C : Cn} {x qual : Str} {st : Stmt} {f : Addr} {fd : FuncData} {N ps : List Str} {k : Nat} {body : Stm} (F : Fun K x qual st f fd) (S : FnScope N ps (defScope st))
    (hb : ∀ (cdv : Value) (A : Around) (outer : List Env) (s : Shared) (H : Hp) (E : XK), Room k (A.deeper (envOfC qual (defScope st) s.heap.objs.size f cdv)) →
      CSs (cxOf (L2.CX P w) P w K mg base N qual (defScope st) f cdv A outer s H E) C E (defBody st) body) : FnOk P w K mg base (L2.CX P w) (k + 1) f fd ps (spF K C ps.length (fnOf N.length body)) := by
  refine F.okX S (fun vs H Q E ⟨g, ds, t, r, w, hl, p⟩ => hl) fun cdv A outer s H vs Q E hr ⟨g, ds, t, r, w, hl, p⟩ => ⟨_, hb cdv A outer s H E hr, ?_⟩
  refine ⟨g, H, g, g, _, t, .refl _ _, .refl _, w, SL.start r, OwnF.start, p.bnd0.imp fun fl t1 g1 H1 st1 w1 q => ?_⟩
  cases fl with
  | nx S' => exact fun _ _ _ _ => q g1 H1 st1 w1 _ .non
  | ret d => exact fun v _ r => q g1 H1 st1 w1 v r
end BG
set_option Elab.async false
set_option linter.all false
set_option maxRecDepth 100000
set_option maxHeartbeats 4000000
namespace BG
open PySem PySem.Spec PyProof.Rows L2
def pPow : D → D → M D
  | .int i, .int j => if 0 ≤ j ∧ j ≤ 1000000 ∧ i.natAbs < 2 ^ 64 then ret (.int (i ^ j.toNat)) else stuck
  | _, _ => stuck
section
variable {X : Cx} {C : Cn} {E : XK}
theorem bin_pow : BinOk X C E (binaryOp .Pow) pPow := OpR.imp op_pow fun x y H Q ⟨g, t, p, q, w, rx, ry, h⟩ => by
  cases p <;> cases q <;> first | exact h.elim | skip
  rename_i i j
  have h : PostQ X.K C E g H Q ((if 0 ≤ j ∧ j ≤ 1000000 ∧ i.natAbs < 2 ^ 64 then ret (.int (i ^ j.toNat)) else stuck) t) := h
  split at h
  · exact ⟨_, _, rx.int, ry.int, by assumption, pRetV h w (.int _)⟩
  · exact h.elim
def isTown (S : Sl) (i : Nat) : Bool := match S[i]? with
  | some (.val .town) => true
  | _ => false
theorem isTown_eq {S : Sl} {i : Nat} (h : isTown S i = true) : S[i]? = some (.val .town) := by
  unfold isTown at h
  cases e : S[i]? with
  | none => rw [e] at h; cases h
  | some sv =>
    rw [e] at h
    cases sv with
    | val d => cases d <;> first | rfl | cases h
    | un => cases h
    | dic ds => cases h
    | raw ds => cases h
    | exn ds => cases h
    | own ds => cases h
def scrAt (S : Sl) (i : Nat) : Option (List Int) := match S[i]? with
  | some (.val (.scr ns)) => some ns
  | _ => none
theorem scrAt_eq {S : Sl} {i : Nat} {ns : List Int} (h : scrAt S i = some ns) : S[i]? = some (.val (.scr ns)) := by
  unfold scrAt at h
  cases e : S[i]? with
  | none => rw [e] at h; cases h
  | some sv =>
    rw [e] at h
    cases sv with
    | val d => cases d <;> first | (cases h; rfl) | cases h
    | un => cases h
    | dic ds => cases h
    | raw ds => cases h
    | exn ds => cases h
    | own ds => cases h
def oTC : M D := fun t => match t with
  | some (c, rs) => some (.ok (.int c) (some (c, rs)))
  | none => none
def eTC (i : Nat) : Ex := fun S => if isTown S i = true then oTC else stuck
theorem val_count {a b : V} : valV [((.inr "count" : Key), a), (.inr "rests", b)] (.inr "count") = some a := valV_pos rfl
theorem val_rests {a b : V} : valV [((.inr "count" : Key), a), (.inr "rests", b)] (.inr "rests") = some b := by
  rw [valV_neg (show ¬ ((Sum.inr "count" : Key) = .inr "rests") by decide +kernel)]
  exact valV_pos rfl
theorem town_at {K : PySem.W.Frag} {g : G} {H : Hp} {σ : L2.St} {S : Sl} {i : Nat} {c : Int} {rs : List (Int × Int)} (w : Wf C g H (some (c, rs))) (s : SL K g H σ S) (e : S[i]? = some (.val .town)) :
    ∃ a b, g.tw = some (a, b) ∧ a ≠ b ∧ σ[i]? = some (some (.ref a)) ∧ H a = some (.dK [(.inr "count", .int c), (.inr "rests", .ref b)]) ∧ H b = some (.dK (rs.map fun p => (Sum.inl p.1, V.int p.2))) := by
  obtain ⟨a, b, e1, e2, e3, e4⟩ := w.tw
  obtain ⟨v, h1, h2⟩ := s.val i _ e
  cases h2 with
  | town e5 =>
    rw [e1] at e5
    cases e5
    exact ⟨a, b, e1, e2, h1, e3, e4⟩
theorem ce_tc (i : Nat) {x : Str} {j : Nat} {p1 p2 pos : Pos} (hu : X.A.units + 1 < cLine) (hN : X.N[i]? = some x := by rfl) (hv : Vis X.env.scope x := by first | exact Or.inl rfl | exact Or.inr (Or.inl rfl) | exact Or.inr (Or.inr rfl)) (hd : (x == ("__debug__" : Str)) = false := by decide)
    (hcd : (x == ("__classdict__" : Str)) = false := by decide) (hs : NoSl (.Constant (.str "count") j p2) := by exact fun _ _ => rfl) : CE X C E (.Subscript (.Name x p1) (.Constant (.str "count") j p2) pos) (eTC i) :=
  PE.imp (pe_dget hu (pe_var hN hv hd hcd) pe_str hs) fun σ H Q ⟨g, S, t, w, s, p⟩ => by
    unfold eTC at p
    by_cases hT : isTown S i = true
    · rw [if_pos hT] at p
      have e := isTown_eq hT
      cases t with
      | none => exact p.elim
      | some cr =>
        obtain ⟨c, rs⟩ := cr
        have p : PostQ X.K C E g H Q (some (.ok (.int c) (some (c, rs)))) := p
        obtain ⟨a, b, e1, e2, e3, e4, e5⟩ := town_at w s e
        refine ⟨_, e3, a, .int c, rfl, ?_, p g H (.refl _ _) w _ (.int c)⟩
        have := DGet.k (k := .inr "count") e4
        rw [val_count] at this
        exact this
    · rw [if_neg hT] at p; exact p.elim
/-- a step that changes a draws' dict -/
theorem Stp.tww {g0 g : G} {H0 H : Hp} {a : Addr} {o : HO} (st : Stp g0 H0 g H) (h : g.isTw a) (ho : ∀ ps, o ≠ .tbl ps := by intro _ z; cases z) : Stp g0 H0 g (upd H a o) := ⟨st.fz, st.tw, st.twn, fun b o' e1 e2 e3 => by
  have nb : b ≠ a := fun z => by
    subst z
    obtain ⟨p, hp, q⟩ := h
    cases z : g0.tw with
    | some p' =>
      have := st.tw p' z
      rw [hp] at this
      cases this
      exact e2 ⟨p, z, q⟩
    | none =>
      obtain ⟨z1, z2⟩ := st.twn z p.1 p.2 hp
      rcases q with q | q
      · exact z1 ⟨o', by rw [← q]; exact e1, e3⟩
      · exact z2 ⟨o', by rw [← q]; exact e1, e3⟩
  rw [upd_ne nb]
  exact st.frm b o' e1 e2 e3, fun b e1 => by
  by_cases hb : b = a
  · exact ⟨o, by rw [hb]; exact upd_same, ho⟩
  · obtain ⟨o', e', n'⟩ := st.thr b e1
    exact ⟨o', by rw [upd_ne hb]; exact e', n'⟩, st.new⟩
theorem SL.tww {K : PySem.W.Frag} {g : G} {H : Hp} {σ : L2.St} {S : Sl} {a : Addr} {o : HO} {kvs : List (Key × V)} (s : SL K g H σ S) (h : H a = some (.dK kvs)) (ht : g.isTw a) : SL K g (upd H a o) σ S := ⟨s.len, fun i x e => by
  have q := s.ok i x e
  cases x with
  | un => trivial
  | raw v => exact q
  | exn c =>
    obtain ⟨p, h1, h2⟩ := q
    exact ⟨p, h1, by rw [upd_ne (fun z => by rw [z, h] at h2; unfold ExK at h2; cases h2)]; exact h2⟩
  | val d => exact q
  | own ds =>
    obtain ⟨p, vs, h1, h2, h3, h4⟩ := q
    exact ⟨p, vs, h1, by rw [upd_ne (ne_of h2 h (fun z => nomatch z))]; exact h2, h3, h4⟩
  | dic ks =>
    obtain ⟨p, vs, h1, h2, h3, h4, h5⟩ := q
    exact ⟨p, vs, h1, by rw [upd_ne (fun z => h5 (by rw [z]; exact ht))]; exact h2, h3, h4, h5⟩, s.dis⟩
theorem Wf.tww {g : G} {H : Hp} {t t' : Tn} {a : Addr} {kvs kvs' : List (Key × V)} (w : Wf C g H t) (h : H a = some (.dK kvs)) (ht : g.isTw a) (n : TownOk g (upd H a (.dK kvs')) t') : Wf C g (upd H a (.dK kvs')) t' := ⟨fun b o e => by
  have nb : b ≠ a := fun z => by rw [z, w.ntw a ht] at e; cases e
  rw [upd_ne nb]; exact w.fz b o e, n, w.ntw, fun q hq => by
  obtain ⟨ps, h1, h2, h3⟩ := w.tab q hq
  refine ⟨ps, by rw [upd_ne (ne_of h1 h (fun z => nomatch z))]; exact h1, h2, fun pos cv e => ?_⟩
  obtain ⟨c, e1, e2⟩ := h3 pos cv e
  exact ⟨c, e1, by rw [upd_ne (ne_of e2 h (fun z => by unfold LamX.CodeO at z; cases z))]; exact e2⟩, w.nft⟩
def sTC (i : Nat) (e : Ex) : Stm := fun S => if isTown S i = true then bnd (e S) fun d t => match d, t with
    | .int n, some (_, rs) => some (.ok (.nx S) (some (n, rs)))
    | _, _ => none
  else stuck
theorem put_count {a b v : V} : putK [((.inr "count" : Key), a), (.inr "rests", b)] (.inr "count") v = [(.inr "count", v), (.inr "rests", b)] := by
  have h : ([((.inr "count" : Key), a), (.inr "rests", b)].any fun kv => decide (kv.1 = .inr "count")) = true := by
    show (decide ((Sum.inr "count" : Key) = .inr "count") || (decide ((Sum.inr "rests" : Key) = .inr "count") || false)) = true
    decide +kernel
  unfold putK
  rw [if_pos h]
  show [if (Sum.inr "count" : Key) = .inr "count" then ((.inr "count" : Key), v) else (.inr "count", a), if (Sum.inr "rests" : Key) = .inr "count" then (.inr "rests", v) else (.inr "rests", b)] = _
  rw [if_pos rfl, if_neg (by decide +kernel)]
theorem cs_tc (i : Nat) {x : Str} {j : Nat} {e : Expr} {f : Ex} {p1 p2 pos' pos : Pos} (hu : X.A.units + 1 < cLine) (he : CE X C E e f) (hN : X.N[i]? = some x := by rfl) (hv : Vis X.env.scope x := by first | exact Or.inl rfl | exact Or.inr (Or.inl rfl) | exact Or.inr (Or.inr rfl)) (hd : (x == ("__debug__" : Str)) = false := by decide)
    (hcd : (x == ("__classdict__" : Str)) = false := by decide) (hs : swapsWith e (some (.Subscript (.Name x p1) (.Constant (.str "count") j p2) pos')) pos.line X.env = pure false := by rfl) : CS X C E (.Assign [.Subscript (.Name x p1) (.Constant (.str "count") j p2) pos'] e pos) (sTC i f) :=
  PS.imp (ps_dput hu (pe_var hN hv hd hcd) pe_str he hs) fun De σ H ⟨g0, H0, gs, g, S, t, st, gr, w, s, o, p⟩ => by
    unfold sTC at p
    by_cases hT : isTown S i = true
    case neg => rw [if_neg hT] at p; exact p.elim
    · rw [if_pos hT] at p
      have e := isTown_eq hT
      refine tS.ex st gr w s p fun d t1 g1 H1 v st1 st01 gr1 w1 s1 r q => ?_
      cases d with
      | int n =>
        cases t1 with
        | none => exact q.elim
        | some cr =>
          obtain ⟨c, rs⟩ := cr
          cases r
          obtain ⟨a, b, e1, e2, e3, e4, e5⟩ := town_at w1 s1 e
          have q : Post C E g0 H0 (Rs X.K H0 gs De) (some (.ok (.nx S) (some (n, rs)))) := q
          have ht : g1.isTw a := ⟨_, e1, .inl rfl⟩
          refine ⟨_, e3, a, _, rfl, DPut.k (k := .inr "count") e4 (show 2 < sizeLine by decide), ?_⟩
          rw [put_count]
          exact q g1 _ (st01.tww ht) (w1.tww e4 ht ⟨a, b, e1, e2, upd_same, by rw [upd_ne (Ne.symm e2)]; exact e5⟩) _ gr1 (s1.tww e4 ht) o
      | _ => exact q.elim
def rLook (rs : List (Int × Int)) (k : Int) : Option Int := (rs.find? fun p => decide (p.1 = k)).map (·.2)
def rPut (rs : List (Int × Int)) (k v : Int) : List (Int × Int) := if (rs.any fun p => decide (p.1 = k)) = true then rs.map fun p => if p.1 = k then (p.1, v) else p else rs ++ [(k, v)]
theorem rLook_val (k : Int) : ∀ rs : List (Int × Int), valV (rs.map fun p => ((Sum.inl p.1 : Key), V.int p.2)) (.inl k) = (rLook rs k).map V.int
  | [] => rfl
  | (a, b) :: r => by
    have ih := rLook_val k r
    by_cases h : a = k
    · subst h
      show valV (((Sum.inl a : Key), V.int b) :: _) (.inl a) = _
      rw [valV_pos rfl]
      unfold rLook
      rw [List.find?_cons]
      simp
    · show valV (((Sum.inl a : Key), V.int b) :: _) (.inl k) = _
      rw [valV_neg (fun z => h (Sum.inl.inj z)), ih]
      unfold rLook
      rw [List.find?_cons]
      simp [h]
theorem rPut_put (rs : List (Int × Int)) (k v : Int) : putK (rs.map fun p => ((Sum.inl p.1 : Key), V.int p.2)) (.inl k) (.int v) = (rPut rs k v).map fun p => ((Sum.inl p.1 : Key), V.int p.2) := by
  unfold putK rPut
  have e : ((rs.map fun p => ((Sum.inl p.1 : Key), V.int p.2)).any fun kv => decide (kv.1 = .inl k)) = rs.any fun p => decide (p.1 = k) := by
    rw [List.any_map]
    congr 1
    funext p
    show decide ((Sum.inl p.1 : Key) = .inl k) = decide (p.1 = k)
    exact decide_eq_decide.mpr ⟨fun z => Sum.inl.inj z, fun z => by rw [z]⟩
  rw [e]
  split
  · rw [List.map_map, List.map_map]
    congr 1
    funext p
    show (if (Sum.inl p.1 : Key) = .inl k then _ else _) = _
    by_cases h : p.1 = k
    · rw [if_pos (by rw [h]), Function.comp, if_pos h]
    · rw [if_neg (fun z => h (Sum.inl.inj z)), Function.comp, if_neg h]
  · rw [List.map_append]; rfl
/-- town['rests'].get(k, d) -/
def eTR (i : Nat) (k d : Ex) : Ex := fun S => if isTown S i = true then bnd (k S) fun a => bnd (d S) fun b t => match a, t with
    | .int n, some (c, rs) => some (.ok (match rLook rs n with | some v => .int v | none => b) (some (c, rs)))
    | _, _ => none
  else stuck
theorem ce_tr (i : Nat) {x : Str} {j : Nat} {k d : Expr} {fk fd : Ex} {p1 p2 p3 apos cpos : Pos} (hu : X.A.units + 1 < cLine) (hk : CE X C E k fk) (hdf : CE X C E d fd) (hN : X.N[i]? = some x := by rfl) (hv : Vis X.env.scope x := by first | exact Or.inl rfl | exact Or.inr (Or.inl rfl) | exact Or.inr (Or.inr rfl)) (hd : (x == ("__debug__" : Str)) = false := by decide)
    (hcd : (x == ("__classdict__" : Str)) = false := by decide) (hs : NoSl (.Constant (.str "rests") j p2) := by exact fun _ _ => rfl) (m : M2 X (.Subscript (.Name x p1) (.Constant (.str "rests") j p2) p3) "get" apos k d cpos := by exact ⟨rfl, rfl, rfl, rfl⟩) :
    CE X C E (.Call (.Attribute (.Subscript (.Name x p1) (.Constant (.str "rests") j p2) p3) "get" apos) [k, d] [] cpos) (eTR i fk fd) :=
  PE.imp (pe_dget2 hu (pe_dget hu (pe_var hN hv hd hcd) pe_str hs) hk hdf m) fun σ H Q ⟨g, S, t, w, s, p⟩ => by
    unfold eTR at p
    by_cases hT : isTown S i = true
    case neg => rw [if_neg hT] at p; exact p.elim
    · rw [if_pos hT] at p
      have e := isTown_eq hT
      cases t with
      | none =>
        obtain ⟨v, h1, h2⟩ := s.val i _ e
        cases h2 with
        | town e5 => rw [show g.tw = none from w.tw] at e5; cases e5
      | some cr =>
        obtain ⟨c, rs⟩ := cr
        obtain ⟨a, b, e1, e2, e3, e4, e5⟩ := town_at w s e
        refine ⟨_, e3, a, .ref b, rfl, ?_, b, rfl, .inl ⟨_, .inl e5⟩, ?_⟩
        · have := DGet.k (k := .inr "rests") e4
          rw [val_rests] at this
          exact this
        · refine ⟨g, S, _, w, s, p.bnd.imp fun n t1 g1 H1 st1 w1 q v r => ?_⟩
          refine ⟨g1, S, t1, w1, s.stp w st1, q.bnd.imp fun d2 t2 g2 H2 st2 w2 q2 v2 r2 => ?_⟩
          cases n with
          | int n =>
            cases r
            cases t2 with
            | none => exact q2.elim
            | some cr2 =>
              obtain ⟨c2, rs2⟩ := cr2
              obtain ⟨a', b', f1, f2, f3, f4, f5⟩ := town_at w2 ((s.stp w st1).stp w1 st2) e
              have ea := st2.tw _ (st1.tw _ e1)
              rw [f1] at ea
              cases ea
              have q2 : PostQ X.K C E g2 H2 Q (some (.ok (match rLook rs2 n with | some v => .int v | none => d2) (some (c2, rs2)))) := q2
              refine ⟨_, DGet.k (k := .inl n) f5, ?_⟩
              rw [rLook_val]
              cases z : rLook rs2 n with
              | none => rw [z] at q2; exact q2 g2 H2 (.refl _ _) w2 _ r2
              | some m => rw [z] at q2; exact q2 g2 H2 (.refl _ _) w2 _ (Rp.int m)
          | _ => exact q2.elim
/-- town['rests'][k] = e -/
def sTR (i : Nat) (k e : Ex) : Stm := fun S => if isTown S i = true then bnd (e S) fun d => bnd (k S) fun a t => match d, a, t with
    | .int v, .int n, some (c, rs) => if rs.length < 1000000 then some (.ok (.nx S) (some (c, rPut rs n v))) else none
    | _, _, _ => none
  else stuck
theorem cs_tr (i : Nat) {x : Str} {j : Nat} {k e : Expr} {fk f : Ex} {p1 p2 p3 pos' pos : Pos} (hu : X.A.units + 1 < cLine) (he : CE X C E e f) (hk : CE X C E k fk) (hN : X.N[i]? = some x := by rfl) (hv : Vis X.env.scope x := by first | exact Or.inl rfl | exact Or.inr (Or.inl rfl) | exact Or.inr (Or.inr rfl)) (hd : (x == ("__debug__" : Str)) = false := by decide)
    (hcd : (x == ("__classdict__" : Str)) = false := by decide) (hns : NoSl (.Constant (.str "rests") j p2) := by exact fun _ _ => rfl) (hs : swapsWith e (some (.Subscript (.Subscript (.Name x p1) (.Constant (.str "rests") j p2) p3) k pos')) pos.line X.env = pure false := by rfl) :
    CS X C E (.Assign [.Subscript (.Subscript (.Name x p1) (.Constant (.str "rests") j p2) p3) k pos'] e pos) (sTR i fk f) :=
  PS.imp (ps_dput hu (pe_dget hu (pe_var hN hv hd hcd) pe_str hns) hk he hs) fun De σ H ⟨g0, H0, gs, g, S, t, st, gr, w, s, o, p⟩ => by
    unfold sTR at p
    by_cases hT : isTown S i = true
    case neg => rw [if_neg hT] at p; exact p.elim
    · rw [if_pos hT] at p
      have e := isTown_eq hT
      refine tS.ex st gr w s p fun d t1 g1 H1 v st1 st01 gr1 w1 s1 r q => ?_
      cases t1 with
      | none =>
        obtain ⟨v, h1, h2⟩ := s1.val i _ e
        cases h2 with
        | town e5 => rw [show g1.tw = none from w1.tw] at e5; cases e5
      | some cr =>
        obtain ⟨c, rs⟩ := cr
        obtain ⟨a, b, e1, e2, e3, e4, e5⟩ := town_at w1 s1 e
        refine ⟨_, e3, a, .ref b, rfl, ?_, tS.ex st01 gr1 w1 s1 q fun n t2 g2 H2 v2 st2 st02 gr2 w2 s2 r2 q2 => ?_⟩
        · have := DGet.k (k := .inr "rests") e4
          rw [val_rests] at this
          exact this
        · cases d with
          | int vv =>
            cases n with
            | int n =>
              cases t2 with
              | none => exact q2.elim
              | some cr2 =>
                obtain ⟨c2, rs2⟩ := cr2
                have q2 : Post C E g0 H0 (Rs X.K H0 gs De) (if rs2.length < 1000000 then some (.ok (.nx S) (some (c2, rPut rs2 n vv))) else none) := q2
                split at q2
                · rename_i hz
                  cases r
                  cases r2
                  obtain ⟨a', b', f1, f2, f3, f4, f5⟩ := town_at w2 s2 e
                  have ea := st2.tw _ e1
                  rw [f1] at ea
                  cases ea
                  have ht : g2.isTw b := ⟨_, f1, .inr rfl⟩
                  refine ⟨b, _, rfl, DPut.k (k := .inl n) f5 (by rw [List.length_map, sizeLine_eq]; omega), ?_⟩
                  rw [rPut_put]
                  exact q2 g2 _ (st02.tww ht) (w2.tww f5 ht ⟨a, b, f1, e2, by rw [upd_ne e2]; exact f4, upd_same⟩) _ gr2 (s2.tww f5 ht) o
                · exact q2.elim
            | _ => exact q2.elim
          | _ => cases n <;> exact q2.elim
/-- the script's truth -/
def eScr (i : Nat) : Ex := fun S => match scrAt S i with
  | some ns => ret (.bl (!ns.isEmpty))
  | none => stuck
theorem ct_scr (i : Nat) {x : Str} {pos : Pos} (hN : X.N[i]? = some x := by rfl) (hv : Vis X.env.scope x := by first | exact Or.inl rfl | exact Or.inr (Or.inl rfl) | exact Or.inr (Or.inr rfl)) (hd : (x == ("__debug__" : Str)) = false := by decide)
    (hcd : (x == ("__classdict__" : Str)) = false := by decide) : CT X C E (.Name x pos) (eScr i) := PT.imp (pt_truth (pe_var hN hv hd hcd) (by intro _; rfl)) fun σ H Q ⟨g, S, t, w, s, p⟩ => by
  unfold eScr at p
  cases e : scrAt S i with
  | none => rw [e] at p; exact p.elim
  | some ns =>
    rw [e] at p
    obtain ⟨v, h1, h2⟩ := s.val i _ (scrAt_eq e)
    cases h2 with
    | scr sq =>
      obtain ⟨b, eb, q⟩ := postRet p w
      cases eb
      exact ⟨_, h1, _, .inl ⟨_, Same.seq w.fz sq, by cases ns <;> rfl⟩, q⟩
/-- {'count': 0, 'rests': {}} -/
def eBegun : Ex := fun _ t => match t with
  | none => some (.ok .town (some (0, [])))
  | some _ => none
theorem ce_begun {j1 j2 j3 : Nat} {p1 p2 p3 p4 pos : Pos} : CE X C E (.Dict [some (.Constant (.str "count") j1 p1), some (.Constant (.str "rests") j2 p2)] [.Constant (.int 0) j3 p3, .Dict [] [] p4] pos) eBegun :=
  PE.imp (pe_disp (pps_cons pe_str pe_int (pps_cons pe_str pe_dnewK pps_nil)) rfl rfl (fun z => by cases z) (show 2 ≤ 15 by decide)) fun σ H Q ⟨g, S, t, w, s, p⟩ => by
    cases t with
    | some cr => exact p.elim
    | none =>
      have p : PostQ X.K C E g H Q (some (.ok .town (some (0, [])))) := p
      intro a ha b hb
      have nba : b ≠ a := fun z => by rw [z, upd_same] at hb; cases hb
      have hb0 : H b = none := by rw [upd_ne nba] at hb; exact hb
      have g0 : g.tw = none := w.tw
      refine ⟨by rw [upd_ne (Ne.symm nba), upd_same], [(.inr "count", .int 0), (.inr "rests", .ref b)], rfl, (show 2 ≤ 15 by decide), ?_⟩
      have em : mergeK [] [((.inr "count" : Key), V.int 0), (.inr "rests", .ref b)] = [((.inr "count" : Key), V.int 0), (.inr "rests", .ref b)] := by
        show putK (putK [] (Sum.inr "count" : Key) (V.int 0)) (Sum.inr "rests") (V.ref b) = _
        have e1 : putK ([] : List (Key × V)) (.inr "count") (.int 0) = [((.inr "count" : Key), V.int 0)] := rfl
        rw [e1]
        have h : ¬ ([((.inr "count" : Key), V.int 0)].any fun kv => decide (kv.1 = .inr "rests")) = true := by
          show ¬ (decide ((Sum.inr "count" : Key) = .inr "rests") || false) = true
          decide +kernel
        unfold putK
        rw [if_neg h]; rfl
      rw [em]
      have at_ : ∀ c, c ≠ a → c ≠ b → upd (upd (upd H a (.dK [])) b (.dK [])) a (.dK [(.inr "count", .int 0), (.inr "rests", .ref b)]) c = H c := fun c h1 h2 => by rw [upd_ne h1, upd_ne h2, upd_ne h1]
      have sm : ∀ c o, H c = some o → upd (upd (upd H a (.dK [])) b (.dK [])) a (.dK [(.inr "count", .int 0), (.inr "rests", .ref b)]) c = some o := fun c o e => by
        rw [at_ c (ne_of_none e ha) (ne_of_none e hb0)]; exact e
      refine p ⟨g.Fz, some (a, b)⟩ _ ⟨fun _ _ h => h, fun p e => (by rw [g0] at e; cases e), fun _ x y e => (by cases e; exact ⟨Nt.no ha, Nt.no hb0⟩), fun c o e _ _ => sm c o e, fun c e => ?_, fun _ _ => rfl⟩ ⟨fun c o e => sm c o (w.fz c o e), ⟨a, b, rfl, Ne.symm nba, upd_same, by rw [upd_ne nba, upd_same]; rfl⟩, fun c ⟨p, hp, q⟩ => ?_, w.tab.ext sm, w.nft⟩ _ (.town rfl)
      · obtain ⟨o', e', n'⟩ := e
        exact ⟨o', sm c o' e', n'⟩
      · cases hp
        rcases q with q | q
        · rw [q]; exact w.fzN ha
        · rw [q]; exact w.fzN hb0
structure FdK (P : Program) (w : World) (K : PySem.W.Frag) (mg : Str → Option Value) (base : Heap) (C : Cn) (k : Nat) (x : Str) (n : Nat) (ks : List Str) (F : Fn) : Prop where
  ex : ∃ f fd ps, FnOk P w K mg base (L2.CX P w) k f fd ps (spF K C (n + ks.length) F) ∧ mg x = some (.ref f) ∧ PySem.W.keepIn K (.ref f) = true ∧
    ∀ (s : Shared) (us ws : List Value), K.In s.heap → us.length = n → ws.length = ks.length → BindsTo s fd ⟨us, ks.zip ws⟩ (ps.zip (us ++ ws))
theorem PK.imp {e : List Keyword} {t t' : TA} (h : PK X e t) (f : ∀ σ H Q, t' σ H Q → t σ H Q) : PK X e t' := ⟨fun pos pins s σ H Q I q => h.run pos pins s σ H Q I (f σ H Q q)⟩
/-- raise x('..') of the class number c -/
theorem cs_raise (c : Nat) {x m : Str} {j : Nat} {p p2 pos pos' : Pos} {B newId initId bmB} {W : WX} (F : ExcBaseFacts B newId initId bmB) (q : PySem.W.excIn X.K (C.ex c) bmB newId = true) (gC : X.mg x = some (.ref (C.ex c))) (kC : PySem.W.keepIn X.K (.ref (C.ex c)) = true) (r : Raises X (.ref (C.ex c)))
    (tk : Takes X (fun cls d _ H => E cls d H)) (hc : X.calm = true := by rfl) (hg : Gl X x := by rfl) (hdb : (x == ("__debug__" : Str)) = false := by decide) : CS X C E (.Raise (some (.Call (.Name x p) [.Constant (.str m) j p2] [] pos)) none pos') (sRaise c) :=
  PS.imp (ps_raise hc tk (pmk_own F q gC kC r hg hdb)) fun De σ H ⟨g0, H0, gs, g, S, t, st, gr, w, s, o, p⟩ => p g H st w
def pRng : D → M D
  | .int j => if 0 ≤ j ∧ j ≤ 1000000 then ret (.lst ((List.range j.toNat).map fun (i : Nat) => .int (i : Int))) else stuck
  | _ => stuck
theorem rg_RpA {K : PySem.W.Frag} {g : G} (n : Nat) : RpA K g (rgV 0 (n : Int)) ((List.range n).map fun (i : Nat) => D.int (i : Int)) := by
  unfold rgV
  rw [show ((n : Int) - 0).toNat = n by omega]
  have : ∀ l : List Nat, RpA K g (l.map fun (i : Nat) => V.int (0 + (i : Int))) (l.map fun (i : Nat) => D.int (i : Int)) := fun l => by
    induction l with
    | nil => exact .nil
    | cons a r ih =>
      refine .cons ?_ ih
      show Rp K g (V.int (0 + (a : Int))) (D.int (a : Int))
      rw [Int.zero_add]
      exact .int _
  exact this _
theorem ce_listRg {a : Expr} {f : Ex} {p1 p2 pos pos2 : Pos} (hc : X.calm = true) (hm : X.mg "list" = none) (hm2 : X.mg "range" = none) (ha : CE X C E a f) (hg : Gl X "list" := by rfl) (hg2 : Gl X "range" := by rfl) (na : starEach [a] X.env = (false, eval a X.env) :: starEach [] X.env := by rfl)
    (nb : starEach [.Call (.Name "range" p2) [a] [] pos2] X.env = (false, eval (.Call (.Name "range" p2) [a] [] pos2) X.env) :: starEach [] X.env := by rfl) : CE X C E (.Call (.Name "list" p1) [.Call (.Name "range" p2) [a] [] pos2] [] pos) (eUn pRng f) :=
  PE.imp (pe_listRg hc hg hm (prg_1 hg2 hm2 ha na) nb) fun σ H Q h => by
    refine tE.seq h fun g S t x d H1 w s rx p1 => ?_
    cases d with
    | int j =>
      cases rx
      have p1 : PostQ X.K C E g H1 Q ((if 0 ≤ j ∧ j ≤ 1000000 then ret (.lst ((List.range j.toNat).map fun (i : Nat) => D.int (i : Int))) else stuck) t) := p1
      split at p1
      · rename_i hc
        refine ⟨j, rfl, .of_le (by omega) (by omega) (by omega) hc.1, fun q hq => ?_⟩
        obtain ⟨n, rfl⟩ : ∃ n : Nat, j = (n : Int) := ⟨j.toNat, by omega⟩
        exact pRetL p1 w (by rw [Int.toNat_natCast]; exact rg_RpA n) q hq
      · exact p1.elim
    | _ => exact p1.elim
end
end BG
set_option Elab.async false
set_option linter.all false
set_option maxRecDepth 100000
set_option maxHeartbeats 4000000
namespace BG
open PySem PySem.Spec PyProof.Rows L2
def leD (a b : D) : Bool := PySem.W.dataLe false D.py a b
section
variable {α : Type} (le : α → α → Bool)
def insr (x : α) : List α → List α
  | [] => [x]
  | y :: r => if le x y = true then x :: y :: r else y :: insr x r
def isrt : List α → List α
  | [] => []
  | x :: r => insr le x (isrt r)
theorem insr_mem {x z : α} : ∀ {l : List α}, z ∈ insr le x l ↔ z = x ∨ z ∈ l
  | [] => by simp [insr]
  | y :: r => by
    unfold insr
    split
    · simp
    · rw [List.mem_cons, insr_mem, List.mem_cons]
      constructor
      · rintro (h | h | h)
        · exact .inr (.inl h)
        · exact .inl h
        · exact .inr (.inr h)
      · rintro (h | h | h)
        · exact .inr (.inl h)
        · exact .inl h
        · exact .inr (.inr h)
theorem insr_pair (h : PySem.W.TotalLe le) {x : α} : ∀ {l : List α}, l.Pairwise (fun a b => le a b = true) → (insr le x l).Pairwise (fun a b => le a b = true)
  | [], _ => by simp [insr]
  | y :: r, hp => by
    obtain ⟨h1, h2⟩ := List.pairwise_cons.mp hp
    unfold insr
    split
    · rename_i hxy
      refine List.pairwise_cons.mpr ⟨fun z hz => ?_, hp⟩
      rcases List.mem_cons.mp hz with rfl | hz
      · exact hxy
      · exact h.trans _ _ _ hxy (h1 z hz)
    · rename_i hxy
      refine List.pairwise_cons.mpr ⟨fun z hz => ?_, insr_pair h h2⟩
      rcases (insr_mem le).mp hz with rfl | hz
      · exact (h.total z y).resolve_left hxy
      · exact h1 z hz
theorem insr_filter (h : PySem.W.TotalLe le) {x c : α} : ∀ {l : List α}, l.Pairwise (fun a b => le a b = true) → (insr le x l).filter (PySem.W.sameRank le c) = (x :: l).filter (PySem.W.sameRank le c)
  | [], _ => rfl
  | y :: r, hp => by
    obtain ⟨h1, h2⟩ := List.pairwise_cons.mp hp
    unfold insr
    split
    · rfl
    · rename_i hxy
      have ih := insr_filter h (x := x) (c := c) h2
      rw [List.filter_cons, ih, List.filter_cons, List.filter_cons, List.filter_cons]
      by_cases a : PySem.W.sameRank le c x = true
      · by_cases b : PySem.W.sameRank le c y = true
        · exfalso
          unfold PySem.W.sameRank at a b
          rw [Bool.and_eq_true] at a b
          exact hxy (h.trans _ _ _ a.2 b.1)
        · rw [if_neg b, if_pos a, if_pos a, if_neg b]
      · rw [if_neg a, if_neg a]
theorem isrt_pair (h : PySem.W.TotalLe le) : ∀ l : List α, (isrt le l).Pairwise (fun a b => le a b = true)
  | [] => List.Pairwise.nil
  | x :: r => insr_pair le h (isrt_pair h r)
theorem isrt_filter (h : PySem.W.TotalLe le) (c : α) : ∀ l : List α, (isrt le l).filter (PySem.W.sameRank le c) = l.filter (PySem.W.sameRank le c)
  | [] => rfl
  | x :: r => by
    show (insr le x (isrt le r)).filter _ = _
    rw [insr_filter le h (isrt_pair le h r), List.filter_cons, List.filter_cons, isrt_filter h c r]
theorem isrt_merge (h : PySem.W.TotalLe le) (l : List α) : isrt le l = l.mergeSort le := PySem.W.sort_unique h (isrt_pair le h l) fun c => isrt_filter le h c l
theorem isrt_length : ∀ l : List α, (isrt le l).length = l.length
  | [] => rfl
  | x :: r => by
    have hi : ∀ m : List α, (insr le x m).length = m.length + 1 := fun m => by
      induction m with
      | nil => rfl
      | cons y m ih =>
        unfold insr
        split
        · rfl
        · rw [List.length_cons, ih, List.length_cons]
    show (insr le x (isrt le r)).length = _
    rw [hi, isrt_length r]; rfl
end
/-- may be sorted: data of one make -/
def isTupC : D → Bool
  | .tup (_ :: _) => true
  | _ => false
def isFlatC : D → Bool
  | .tup _ => false
  | .non => false
  | .town => false
  | .scr _ => false
  | .dct _ _ => false
  | _ => true
def srtOk (ds : List D) : Bool := okA ds 60 && (ds.all fun a => ds.all fun b => PySem.W.alike a.py b.py) && (ds.all isTupC || ds.all isFlatC)
theorem leD_total : PySem.W.TotalLe leD := PySem.W.sortLe_total (listOrd itemOrd) false fun b => PySem.W.keyToks (D.py b)
theorem eachIs_of {K : PySem.W.Frag} {g : G} : ∀ {ds : List D} {vs : List V} {us : List Value}, RpA K g vs ds → Vals vs us → PySem.W.EachIs (fun u d => ∃ v, RelV v u ∧ Rp K g v d) us ds
  | [], _, _, h, r => by cases h; cases r; exact .nil
  | d :: ds, _, _, h, r => by
    cases h with
    | cons a b =>
      cases r with
      | cons r1 r2 => exact .cons ⟨_, r1, a⟩ (eachIs_of b r2)
theorem of_eachIs {K : PySem.W.Frag} {g : G} : ∀ {ds : List D} {us : List Value}, PySem.W.EachIs (fun u d => ∃ v, RelV v u ∧ Rp K g v d) us ds → ∃ vs, RpA K g vs ds ∧ Vals vs us
  | [], _, h => by cases h; exact ⟨[], .nil, .nil⟩
  | d :: ds, _, h => by
    cases h with
    | cons a b =>
      obtain ⟨v, r1, r2⟩ := a
      obtain ⟨vs, q1, q2⟩ := of_eachIs b
      exact ⟨v :: vs, .cons r2 q1, .cons r1 q2⟩
section
variable {X : Cx} {C : Cn} {E : XK}
/-- sorted(xs), xs a list of data -/
def rSrt (K : PySem.W.Frag) (C : Cn) : List V → Hp → VK → Prop := fun xs H Q => ∃ p g t vs ds, xs = [.ref p] ∧ Wf C g H t ∧ H p = some (.lst vs) ∧ RpA K g vs ds ∧ srtOk ds = true ∧ ds.length ≤ 1000000 ∧ ∀ ws, RpA K g ws (isrt leD ds) → ∀ l, H l = none → Q (.ref l) (upd H l (.lst ws))
theorem cr_sorted0 (hu : X.A.units + 64 < cLine) : CallR X (.builtin "sorted") (rSrt X.K C) := by
  intro pins s σ H xs us Q I r h
  obtain ⟨p, g, t, vs, ds, rfl, w, hp, ra, ok, hz, q⟩ := h
  obtain ⟨u, rfl, ru⟩ := vals1 r
  cases ru
  obtain ⟨its, rv, pl, hzz⟩ := I.list (.of hp)
  unfold srtOk at ok
  rw [Bool.and_eq_true, Bool.and_eq_true] at ok
  obtain ⟨⟨ok1, ok2⟩, ok3⟩ := ok
  have e := eachIs_of ra rv
  have er : PySem.W.EachIs (fun u d => ∃ as, Reads s.heap u (D.py d) as) its ds := by
    have all : ∀ {ds : List D} {vs : List V} {us : List Value}, RpA X.K g vs ds → Vals vs us → okA ds 60 = true → PySem.W.EachIs (fun u d => ∃ as, Reads s.heap u (D.py d) as) us ds := by
      intro ds
      induction ds with
      | nil => intro vs us h r _; cases h; cases r; exact .nil
      | cons d ds ih =>
        intro vs us h r o
        have o : (okD d 60 && okA ds 60) = true := o
        rw [Bool.and_eq_true] at o
        cases h with
        | cons a b =>
          cases r with
          | cons r1 r2 => exact .cons (Dp.reads I _ _ _ (Rp.dp w a o.1) r1) (ih b r2 o.2)
    exact all ra rv ok1
  refine PySem.W.sorted_data (enc := D.py) pl.isList e er (fun d hd d' hd' => ?_) ?_ (by rw [sizeLine_eq]; omega) (fun d hd => ?_) fun out hlen eo => ?_
  · obtain ⟨a, ha, rfl⟩ := List.mem_map.mp hd
    obtain ⟨b, hb, rfl⟩ := List.mem_map.mp hd'
    exact List.all_eq_true.mp (List.all_eq_true.mp ok2 a ha) b hb
  · rw [Bool.or_eq_true] at ok3
    rcases ok3 with ok3 | ok3
    · refine .inl fun d hd => ?_
      obtain ⟨a, ha, rfl⟩ := List.mem_map.mp hd
      have := List.all_eq_true.mp ok3 a ha
      cases a with
      | tup xs =>
        cases xs with
        | nil => cases this
        | cons x r => exact ⟨x.py, pyA r, by rw [D.py, pyA]⟩
      | _ => cases this
    · refine .inr fun d hd => ?_
      obtain ⟨a, ha, rfl⟩ := List.mem_map.mp hd
      have := List.all_eq_true.mp ok3 a ha
      cases a <;> first | (cases this; done) | (rw [D.py]; exact ⟨(fun z => by cases z), (fun _ z => by cases z)⟩)
  · have hd2 : okD d 60 = true := by
      rw [okA_all] at ok1
      exact List.all_eq_true.mp ok1 d hd
    have := (okD_lay d 60 hd2).2
    omega
  · obtain ⟨c, hc⟩ := sortedAll_at s.heap its out.toArray
    have em : ds.mergeSort (PySem.W.dataLe false D.py) = isrt leD ds := (isrt_merge leD leD_total ds).symm
    rw [em] at eo
    obtain ⟨ws, q1, q2⟩ := of_eachIs eo
    refine ⟨.ref (s.heap.objs.size + 1), _, I.laid (t' := s.toks) (fun b o e => sortedAll_old e) (Nat.le_succ _) (show ObjOk X.prog X.w _ _ _ (.lst ws) from ⟨?_, out, c, q2, hc⟩), rfl, q ws q1 _ (I.hok.fresh (Nat.le_succ _))⟩
    rw [q1.length, isrt_length, sizeLine_eq]
    omega
def ddp : List Int → List Int
  | [] => []
  | x :: r => if r.contains x = true then ddp r else x :: ddp r
theorem ddp_mem {z : Int} : ∀ {l : List Int}, z ∈ ddp l ↔ z ∈ l
  | [] => Iff.rfl
  | x :: r => by
    unfold ddp
    split
    · rename_i h
      have hx : x ∈ r := List.contains_iff_mem.mp h
      rw [ddp_mem, List.mem_cons]
      exact ⟨.inr, fun h => h.elim (fun e => by rw [e]; exact hx) id⟩
    · rw [List.mem_cons, ddp_mem, List.mem_cons]
theorem ddp_nodup : ∀ l : List Int, (ddp l).Nodup
  | [] => List.nodup_nil
  | x :: r => by
    unfold ddp
    split
    · exact ddp_nodup r
    · rename_i h
      exact List.nodup_cons.mpr ⟨fun z => h (List.contains_iff_mem.mpr (ddp_mem.mp z)), ddp_nodup r⟩
theorem nd_le : ∀ {a b : List Int}, a.Nodup → (∀ x ∈ a, x ∈ b) → a.length ≤ b.length
  | [], _, _, _ => Nat.zero_le _
  | x :: r, b, h, hs => by
    obtain ⟨h1, h2⟩ := List.nodup_cons.mp h
    have hx : x ∈ b := hs x (List.mem_cons_self ..)
    have := nd_le (a := r) (b := b.erase x) h2 fun y hy => by
      have hne : y ≠ x := fun e => h1 (by rw [← e]; exact hy)
      exact (List.mem_erase_of_ne hne).mpr (hs y (List.mem_cons_of_mem _ hy))
    rw [List.length_erase_of_mem hx] at this
    have hp : 0 < b.length := List.length_pos_of_mem hx
    rw [List.length_cons]
    omega
def pLenSet : D → M D
  | .tup ds => match intsD ds with
    | some ns => if ns.length < 1000 then ret (.int (ddp ns).length) else stuck
    | none => stuck
  | _ => stuck
theorem ce_lenSet {a : Expr} {fa : Ex} {p p2 q pos : Pos} (hc : X.calm = true) (hm : X.mg "len" = none) (hm2 : X.mg "set" = none) (ha : CW X C E a fa) (hg : Gl X "len" := by rfl) (hg2 : Gl X "set" := by rfl) (na : starEach [a] X.env = (false, eval a X.env) :: starEach [] X.env := by rfl) :
    CE X C E (.Call (.Name "len" p) [.Call (.Name "set" p2) [a] [] q] [] pos) (eUn pLenSet fa) := by
  refine ⟨fun pins s σ H Q I h => ?_⟩
  have h := tW.seq (Q1 := fun x H1 => ∃ g t d, Wf C g H1 t ∧ RpW X.K g H1 x d ∧ PostQ X.K C E g H1 Q (pLenSet d t)) h fun g S t x d H1 w s rx p1 => ⟨g, t, d, w, rx, p1⟩
  refine Call_ (ld_blt I hg hm boot_len ?_)
  refine PyProof.Rows.callWith_builtin1 (PyProof.Rows.args_cons ?_ rfl) rfl rfl
  refine Call_ (ld_blt I hg2 hm2 boot_set ?_)
  refine PyProof.Rows.callWith_type1 (PyProof.Rows.args_cons (thn (ha.run pins s σ H _ I h) fun v s1 ⟨x, H1, I1, r1, q1⟩ => PyProof.Rows.args_nil ?_) na) na rfl
  obtain ⟨g, t, d, w, rx, q1⟩ := q1
  cases d with
  | tup ds =>
    have q1 : PostQ X.K C E g H1 Q ((match intsD ds with | some ns => if ns.length < 1000 then ret (D.int (ddp ns).length) else stuck | none => stuck) t) := q1
    cases z : intsD ds with
    | none => rw [z] at q1; exact q1.elim
    | some ns =>
      rw [z] at q1
      dsimp only at q1
      split at q1
      case isFalse => exact q1.elim
      rename_i hz
      obtain ⟨l, vs, rfl, e1, ra⟩ := rx.tup w
      have ev := ra.intsD z
      subst ev
      cases r1
      obtain ⟨its, r, pl, hzz⟩ := I1.tuple e1
      refine call_set_tupI ns (I1.ok.hd hc) (show s1.heap.IsTuple l its.toArray from pl) (by simpa using intsAre_of r) (by unfold scanBound; omega) fun h' tk c hS hcl hk => ?_
      refine PyProof.Rows.args_nil ?_
      obtain ⟨o, es, ep, t', ho, hex, hd, hgood, hnd, hmem, hsb, hf, hn, _, _⟩ := hS
      have I2 : Inv X pins σ H1 { s1 with heap := h', toks := tk } := I1.kept fun b o e => hk b o e
      have ec : es.size = (ddp ns).length := by
        have h1 : (es.toList.map keyOf).length ≤ (ddp ns).length := nd_le hnd fun x hx => ddp_mem.mpr (of_decide_eq_true ((hmem x).mpr hx))
        have h2 : (ddp ns).length ≤ (es.toList.map keyOf).length := nd_le (ddp_nodup ns) fun x hx => (hmem x).mp (decide_eq_true (ddp_mem.mp hx))
        have e3 : (es.toList.map keyOf).length = es.size := by rw [List.length_map, Array.length_toList]
        omega
      exact call_len_set ho hex hd hf (by unfold scanBound at hsb; omega) ⟨.int (ddp ns).length, H1, I2.tok _, ⟨_, by rw [ec]⟩, pRetV q1 w (Rp.int _)⟩
  | _ => exact q1.elim
end
end BG
set_option Elab.async false
set_option linter.all false
set_option maxRecDepth 100000
set_option maxHeartbeats 4000000
namespace BG
open PySem PySem.Spec PyProof.Rows L2
theorem bt_len : bootBuiltins "len" = some (.builtin "len") := by decide +kernel
theorem bt_all : bootBuiltins "all" = some (.builtin "all") := by decide +kernel
theorem bt_sorted : bootBuiltins "sorted" = some (.builtin "sorted") := by decide +kernel
theorem bt_max : bootBuiltins "max" = some (.builtin "max") := by decide +kernel
theorem bt_tuple : bootBuiltins "tuple" = some (.type "tuple") := by decide +kernel
theorem bt_list : bootBuiltins "list" = some (.type "list") := by decide +kernel
theorem bt_int : bootBuiltins "int" = some (.type "int") := by decide +kernel
theorem bt_bool : bootBuiltins "bool" = some (.type "bool") := by decide +kernel
/-- the built-in names are not shadowed -/
structure Bt (mg : Str → Option Value) : Prop where
  len : mg "len" = none
  all : mg "all" = none
  any : mg "any" = none
  sum : mg "sum" = none
  sorted : mg "sorted" = none
  min : mg "min" = none
  max : mg "max" = none
  isinstance : mg "isinstance" = none
  tuple : mg "tuple" = none
  list : mg "list" = none
  int : mg "int" = none
  bool : mg "bool" = none
  str : mg "str" = none
  range : mg "range" = none
  set : mg "set" = none
  enumerate : mg "enumerate" = none
  zip : mg "zip" = none
  dict : mg "dict" = none
  abs : mg "abs" = none
theorem _root_.L2.Room.u65 {k : Nat} {A : Around} (r : Room k A) : A.units + 65 < cLine := by have := r.un; omega
theorem _root_.L2.Room.u1 {k : Nat} {A : Around} (r : Room k A) : A.units + 1 < cLine := by have := r.un; omega
theorem passC {P : Program} {w : World} {K : PySem.W.Frag} {mg : Str → Option Value} {base : Heap} {N : List Str} {qual : Str} {scope : Scope} {f : Addr} {cd : Value} {A : Around} {outer : List Env} {s : Shared} {H : Hp} {E : XK} :
    Passes (L2.CX P w) (cxOf (L2.CX P w) P w K mg base N qual scope f cd A outer s H E) E := passes_call (W := fun cls d _ H => E cls d H) (takes_of rfl rfl rfl rfl) fun _ _ _ _ h => h
theorem Fd.of {P : Program} {w : World} {K : PySem.W.Frag} {mg : Str → Option Value} {base : Heap} {C : Cn} {k : Nat} {x : Str} {F : Fn} {f : Addr} {fd : FuncData} {ps : List Str} (h : FnOk P w K mg base (L2.CX P w) k f fd ps (spF K C ps.length F)) (hm : mg x = some (.ref f)) (hk : PySem.W.keepIn K (.ref f) = true) (hb : Binds K fd ps []) :
    Fd P w K mg base C k x ps.length F := ⟨f, fd, ps, h, hm, hk, hb⟩
theorem FdK.of {P : Program} {w : World} {K : PySem.W.Frag} {mg : Str → Option Value} {base : Heap} {C : Cn} {k n : Nat} {x : Str} {F : Fn} {f : Addr} {fd : FuncData} {ps ks : List Str} (h : FnOk P w K mg base (L2.CX P w) k f fd ps (spF K C ps.length F)) (hm : mg x = some (.ref f)) (hk : PySem.W.keepIn K (.ref f) = true) (hl : ps.length = n + ks.length)
    (hb : ∀ (s : Shared) (us ws : List Value), K.In s.heap → us.length = n → ws.length = ks.length → BindsTo s fd ⟨us, ks.zip ws⟩ (ps.zip (us ++ ws))) : FdK P w K mg base C k x n ks F := ⟨f, fd, ps, by rw [← hl]; exact h, hm, hk, hb⟩
def spLaw (K : PySem.W.Frag) : Sp := fun vs H Q _ => ∃ (a : Addr) (ns : List Int), vs = [.ref a] ∧ SqL K H a (ns.map V.int) ∧ ns.length ≤ 63 ∧ ∀ H', Q (.bl true) H'
/-- the heap without the tables of code objects -/
def untb (H : Hp) : Hp := fun b => match H b with
  | some (.tbl _) => none
  | o => o
theorem untb_same (H : Hp) : Same (untb H) H := fun b o e => by
  unfold untb at e
  split at e
  · cases e
  · exact e
theorem untb_of {H : Hp} {b : Addr} {o : HO} (e : H b = some o) (n : ∀ ps, o ≠ .tbl ps) : untb H b = some o := by
  unfold untb
  split
  · rename_i ps h; rw [e] at h; exact absurd (Option.some.inj h) (n ps)
  · exact e
theorem untb_nft (H : Hp) : ∀ b ps, untb H b ≠ some (.tbl ps) := fun b ps e => by
  unfold untb at e
  split at e
  · cases e
  · rename_i h; exact h ps e
theorem untb_seq {K : PySem.W.Frag} {H : Hp} {a : Addr} {xs : List V} (h : SqL K H a xs) : SqL K (untb H) a xs := by
  rcases h with (h | ⟨o, h⟩) | h
  · exact .inl (.inl (untb_of h (fun _ z => by cases z)))
  · exact .inl (.inr ⟨o, untb_of h (fun _ z => by cases z)⟩)
  · exact .inr h
theorem law_start {K : PySem.W.Frag} {C : Cn} {F : Fn} {a : Addr} {ns : List Int} {H : Hp} {Q : VK} {E : XK} (hT : LamX.Tabs C.T H) (sq : SqL K H a (ns.map V.int)) (h : ∃ t', F [.scr ns] none = some (.ok (.bl true) t')) (q : ∀ H', Q (.bl true) H') : spF K C 1 F [.ref a] H Q E := by
  obtain ⟨t', e⟩ := h
  refine ⟨⟨untb H, none⟩, [.scr ns], none, .cons (.scr (untb_seq sq)) .nil, ⟨untb_same H, rfl, fun b ⟨p, hp, _⟩ => (by cases hp), hT, untb_nft H⟩, rfl, ?_⟩
  rw [e]
  intro g' H' _ _ v r
  cases r
  exact q H'
theorem law_imp {K : PySem.W.Frag} {C : Cn} {F : Fn} (hT : C.T = []) (h : ∀ ns : List Int, ns.length ≤ 63 → ∃ t', F [.scr ns] none = some (.ok (.bl true) t')) (vs : List V) (H : Hp) (Q : VK) (E : XK) (q : spLaw K vs H Q E) : spF K C 1 F vs H Q E := by
  obtain ⟨a, ns, rfl, sq, hl, q⟩ := q
  exact law_start (by rw [hT]; exact fun p hp => nomatch hp) sq (h ns hl) q
theorem cx_no {P : Program} {w : World} {l : List Env} {H : Hp} {s : Shared} {e : Value} {s' : Shared} (h : L2.CX P w l H s (fun _ _ _ => False) e s') : False := by
  obtain ⟨_, _, _, _, _, _, _, _, _, _, _, _, z⟩ := h
  exact z
end BG
set_option Elab.async false
set_option linter.all false
set_option maxRecDepth 100000
set_option maxHeartbeats 4000000
namespace BG
open PySem PySem.Spec PyProof.Rows L2
end BG
set_option Elab.async false
set_option linter.all false
set_option maxRecDepth 100000
set_option maxHeartbeats 4000000
namespace BG
open PySem PySem.Spec PyProof.Rows L2
section
variable {X : Cx} {C : Cn} {E : XK}
/-- what the data promise to the sort -/
theorem reads_all {g : G} {t : Tn} {H : Hp} {s : Shared} {pins : List (Addr × Obj)} {σ : L2.St} (I : L2.Inv X pins σ H s) (w : Wf C g H t) : ∀ {ds : List D} {vs : List V} {us : List Value}, RpA X.K g vs ds → Vals vs us → okA ds 60 = true → PySem.W.EachIs (fun u d => ∃ as, Reads s.heap u (D.py d) as) us ds
  | [], _, _, h, r, _ => by cases h; cases r; exact .nil
  | d :: ds, _, _, h, r, o => by
    have o : (okD d 60 && okA ds 60) = true := o
    rw [Bool.and_eq_true] at o
    cases h with
    | cons a b =>
      cases r with
      | cons r1 r2 => exact .cons (Dp.reads I _ _ _ (Rp.dp w a o.1) r1) (reads_all I w b r2 o.2)
theorem srt_alike {ds : List D} (ok : srtOk ds = true) : PySem.W.AllAlike (ds.map D.py) ∧ PySem.W.Sortable (ds.map D.py) ∧ okA ds 60 = true := by
  unfold srtOk at ok
  rw [Bool.and_eq_true, Bool.and_eq_true] at ok
  obtain ⟨⟨ok1, ok2⟩, ok3⟩ := ok
  refine ⟨fun d hd d' hd' => ?_, ?_, ok1⟩
  · obtain ⟨a, ha, rfl⟩ := List.mem_map.mp hd
    obtain ⟨b, hb, rfl⟩ := List.mem_map.mp hd'
    exact List.all_eq_true.mp (List.all_eq_true.mp ok2 a ha) b hb
  · rw [Bool.or_eq_true] at ok3
    rcases ok3 with ok3 | ok3
    · refine .inl fun d hd => ?_
      obtain ⟨a, ha, rfl⟩ := List.mem_map.mp hd
      have := List.all_eq_true.mp ok3 a ha
      cases a with
      | tup xs =>
        cases xs with
        | nil => cases this
        | cons x r => exact ⟨x.py, pyA r, by rw [D.py, pyA]⟩
      | _ => cases this
    · refine .inr fun d hd => ?_
      obtain ⟨a, ha, rfl⟩ := List.mem_map.mp hd
      have := List.all_eq_true.mp ok3 a ha
      cases a <;> first | (cases this; done) | (rw [D.py]; exact ⟨(fun z => by cases z), (fun _ z => by cases z)⟩)
def rSrtT (K : PySem.W.Frag) (C : Cn) : List V → Hp → VK → Prop := fun xs H Q => ∃ p g t vs ds, xs = [.ref p] ∧ Wf C g H t ∧ SqT K H p vs ∧ RpA K g vs ds ∧ srtOk ds = true ∧ ds.length ≤ 1000000 ∧ ∀ ws, RpA K g ws (isrt leD ds) → ∀ l, H l = none → Q (.ref l) (upd H l (.lst ws))
theorem cr_sortedT (hu : X.A.units + 64 < cLine) : CallR X (.builtin "sorted") (rSrtT X.K C) := by
  intro pins s σ H xs us Q I r h
  obtain ⟨p, g, t, vs, ds, rfl, w, hp, ra, ok, hz, q⟩ := h
  obtain ⟨u, rfl, ru⟩ := vals1 r
  cases ru
  obtain ⟨its, rv, pl, hzz⟩ := I.tuple hp
  have hlen : its.length = ds.length := by rw [← rv.length, ra.length]
  obtain ⟨hal, hso, ok1⟩ := srt_alike ok
  have e := eachIs_of ra rv
  obtain ⟨o1, g1, c1, n1, d1⟩ := pl
  refine Calls.call_function_entry PyProof.Rows.kind_sorted PyProof.Rows.plain_sorted PyProof.Rows.entry_sorted (PyProof.Rows.args_sorted1 _) ?_
  unfold Builtin.«sorted»
  refine wpAny_bind (m := checkCount "sorted" 1 1 _) (wpAny_pure ?_)
  refine wpAny_bind (wpAny_collect_seq p (.inr rfl) g1 c1 d1 (fun h' hk => ?_) (by rw [List.size_toArray, hlen, sizeLine_eq]; omega))
  have I1 : L2.Inv X pins σ H { s with heap := h' } := I.kept (t' := s.toks) hk
  rw [List.toList_toArray]
  refine wpAny_bind (wpAny_newList ?_ (by rw [hlen, sizeLine_eq]; omega))
  have hoL : (h'.push (seqObj "list" its.toArray 0)).get? h'.objs.size = some (seqObj "list" its.toArray 0) := Heap.get?_push_size _ rfl
  show wpAny _ _ _ _ _ { s with heap := h'.push (seqObj "list" its.toArray 0) }
  have er : PySem.W.EachIs (fun u d => ∃ as, Reads (PySem.W.sortingHeap (h'.push (seqObj "list" its.toArray 0)) h'.objs.size its) u (D.py d) as) its ds := (reads_all I w ra rv ok1).mono fun _ _ ⟨as, r⟩ => ⟨as, PyProof.Rows.Reads.keeps (fun b o q => PySem.W.sortingHeap_old (Nat.ne_of_lt (Heap.lt_size (hk b o q))) (Heap.get?_push_of_some _ (hk b o q))) r⟩
  have hdep : ∀ d, d ∈ ds.map D.py → X.A.in1.in1.units + d.depth < cLine := fun d hd => by
    obtain ⟨d', hd', rfl⟩ := List.mem_map.mp hd
    have h2 : okD d' 60 = true := by
      rw [okA_all] at ok1
      exact List.all_eq_true.mp ok1 d' hd'
    have h3 := (okD_lay d' 60 h2).2
    show X.A.units + 1 + 1 + _ < _
    omega
  have em : ds.mergeSort (PySem.W.dataLe false D.py) = isrt leD ds := (isrt_merge leD leD_total ds).symm
  have eo := PySem.W.sortVals_data (h' := PySem.W.sortingHeap (h'.push (seqObj "list" its.toArray 0)) h'.objs.size its) (enc := D.py) false e er hal
  rw [em] at eo
  have lo : (PySem.W.sortVals (PySem.W.dataKind (PySem.W.sortingHeap (h'.push (seqObj "list" its.toArray 0)) h'.objs.size its) (ds.map D.py)) false its its).length = its.length := PySem.W.sortVals_length false rfl
  generalize hO : PySem.W.sortVals (PySem.W.dataKind (PySem.W.sortingHeap (h'.push (seqObj "list" its.toArray 0)) h'.objs.size its) (ds.map D.py)) false its its = out at eo lo
  refine wpAny_bind (wpAny_holding (wpAny_call_entry PyProof.Rows.slot_list_sort ⟨_, hoL, rfl⟩ PyProof.Rows.entry_list_sort ?_ (PyProof.Rows.args_list_sort _)))
  refine PySem.W.list_sort_vals (s := { s with heap := h'.push (seqObj "list" its.toArray 0) }) hoL (PySem.W.SortsAt.data (s := { s with heap := PySem.W.sortingHeap (h'.push (seqObj "list" its.toArray 0)) h'.objs.size its }) (PySem.W.each_map (R := fun v d => ∃ as, Reads (PySem.W.sortingHeap (h'.push (seqObj "list" its.toArray 0)) h'.objs.size its) v d as) D.py er) hal hso hdep) (by rw [hlen, sizeLine_eq]; omega) ⟨_, rfl, ?_⟩
  rw [hO]
  obtain ⟨e', he'⟩ := PyProof.Rows.sortedHeap_at (vs := its) (out := out.toArray) hoL
  obtain ⟨ws, q1, q2⟩ := of_eachIs eo
  refine wpAny_pure ⟨_, rfl, .ref h'.objs.size, upd H h'.objs.size (.lst ws), I1.laid (t' := s.toks) (fun b u e => ?_) (Nat.le_refl _) (show ObjOk X.prog X.w _ _ _ (.lst ws) from ⟨by rw [q1.length, isrt_length, sizeLine_eq]; omega, out, e', q2, he'⟩), rfl, q ws q1 _ (I1.hok.fresh (Nat.le_refl _))⟩
  have hb : b < h'.objs.size := Heap.lt_size e
  rw [PyProof.Rows.sortedHeap_old (Nat.ne_of_lt hb) (by rw [size_push']; exact Nat.lt_succ_of_lt hb)]
  exact Heap.get?_push_of_some _ e
/-- sorted of a list or of a tuple -/
def bSortedA : D → M D
  | .lst ds => if srtOk ds = true ∧ ds.length ≤ 1000000 then ret (.lst (isrt leD ds)) else stuck
  | .tup ds => if srtOk ds = true ∧ ds.length ≤ 1000000 then ret (.lst (isrt leD ds)) else stuck
  | _ => stuck
theorem cr_sortedA (hu : X.A.units + 64 < cLine) : CallR X (.builtin "sorted") (c1D X.K C E bSortedA) := CallR.imp (CallR.or (cr_sorted0 (C := C) hu) (cr_sortedT (C := C) hu)) fun xs H Q ⟨x, g, t, d, ex, w, a, h⟩ => by
  subst ex
  cases d with
  | lst ds =>
    have h : PostQ X.K C E g H Q ((if srtOk ds = true ∧ ds.length ≤ 1000000 then ret (.lst (isrt leD ds)) else stuck) t) := h
    split at h
    · rename_i hc
      obtain ⟨p, vs, rfl, e1, r1⟩ := a.lst w
      exact .inl ⟨p, g, t, vs, ds, rfl, w, e1, r1, hc.1, hc.2, fun ws rw' l hl => pRetL h w rw' l hl⟩
    · exact h.elim
  | tup ds =>
    have h : PostQ X.K C E g H Q ((if srtOk ds = true ∧ ds.length ≤ 1000000 then ret (.lst (isrt leD ds)) else stuck) t) := h
    split at h
    · rename_i hc
      obtain ⟨p, vs, rfl, e1, r1⟩ := a.tup w
      exact .inr ⟨p, g, t, vs, ds, rfl, w, e1, r1, hc.1, hc.2, fun ws rw' l hl => pRetL h w rw' l hl⟩
    · exact h.elim
  | _ => exact h.elim
end
end BG
set_option Elab.async false
set_option linter.all false
set_option maxRecDepth 100000
set_option maxHeartbeats 4000000
namespace BG
open PySem PySem.Spec PyProof.Rows L2
def dPut (ks : List (Key × D)) (k : Key) (d : D) : List (Key × D) := if (ks.any fun p => decide (p.1 = k)) = true then ks.map (fun p => if p.1 = k then (p.1, d) else p) else ks ++ [(k, d)]
section
variable {K : PySem.W.Frag} {g : G}
theorem RpK.nil : RpK K g [] [] := ⟨rfl, .nil⟩
theorem RpK.cons {k : Key} {v : V} {d : D} {vs : List (Key × V)} {ks : List (Key × D)} (h : Rp K g v d) (r : RpK K g vs ks) : RpK K g ((k, v) :: vs) ((k, d) :: ks) := ⟨by rw [List.map_cons, List.map_cons, r.1], .cons h r.2⟩
theorem RpK.inv {vs : List (Key × V)} {k : Key} {d : D} {ks : List (Key × D)} (r : RpK K g vs ((k, d) :: ks)) : ∃ v ws, vs = (k, v) :: ws ∧ Rp K g v d ∧ RpK K g ws ks := by
  obtain ⟨h1, h2⟩ := r
  cases vs with
  | nil => cases h1
  | cons p ws =>
    obtain ⟨k', v⟩ := p
    injection h1 with e1 e2
    simp only at e1
    subst e1
    cases h2 with
    | cons a b => exact ⟨v, ws, rfl, a, e2, b⟩
theorem RpK.length {vs : List (Key × V)} {ks : List (Key × D)} (r : RpK K g vs ks) : vs.length = ks.length := by have := congrArg List.length r.1; rw [List.length_map, List.length_map] at this; exact this
theorem RpK.map {k : Key} {v : V} {d : D} (h : Rp K g v d) : ∀ {ks : List (Key × D)} {vs : List (Key × V)}, RpK K g vs ks → RpK K g (vs.map fun p => if p.1 = k then (p.1, v) else p) (ks.map fun p => if p.1 = k then (p.1, d) else p)
  | [], vs, r => by
    have : vs = [] := List.eq_nil_of_length_eq_zero r.length
    subst this; exact .nil
  | (k', d') :: ks, vs, r => by
    obtain ⟨v', ws, rfl, rv, rr⟩ := r.inv
    rw [List.map_cons, List.map_cons]
    by_cases hk : k' = k
    · rw [if_pos hk, if_pos hk]; exact .cons h (RpK.map h rr)
    · rw [if_neg hk, if_neg hk]; exact .cons rv (RpK.map h rr)
theorem RpK.app : ∀ {ks : List (Key × D)} {vs : List (Key × V)} {ks2 : List (Key × D)} {vs2 : List (Key × V)}, RpK K g vs ks → RpK K g vs2 ks2 → RpK K g (vs ++ vs2) (ks ++ ks2) := fun r q => ⟨by rw [List.map_append, List.map_append, r.1, q.1], by rw [List.map_append, List.map_append]; exact r.2.app q.2⟩
theorem RpK.any {ks : List (Key × D)} {vs : List (Key × V)} (k : Key) (r : RpK K g vs ks) : (vs.any fun p => decide (p.1 = k)) = ks.any fun p => decide (p.1 = k) := by
  have e1 : ∀ l : List (Key × V), (l.any fun p => decide (p.1 = k)) = (l.map (·.1)).any fun x => decide (x = k) := fun l => by rw [List.any_map]; rfl
  have e2 : ∀ l : List (Key × D), (l.any fun p => decide (p.1 = k)) = (l.map (·.1)).any fun x => decide (x = k) := fun l => by rw [List.any_map]; rfl
  rw [e1, e2, r.1]
theorem RpK.put {ks : List (Key × D)} {vs : List (Key × V)} {k : Key} {v : V} {d : D} (r : RpK K g vs ks) (h : Rp K g v d) : RpK K g (putK vs k v) (dPut ks k d) := by
  unfold putK dPut
  rw [r.any k]
  split
  · exact RpK.map h r
  · exact r.app (.cons h .nil)
end
theorem Post.all {α : Type} {C : Cn} {E : XK} {g g1 : G} {H H1 : Hp} {Rok Rok' : α → Tn → G → Hp → Prop} {r : Option (Out α)} (h : Post C E g H Rok r) (s : Stp g H g1 H1) (f : ∀ a t' g' H', r = some (.ok a t') → Stp g1 H1 g' H' → Wf C g' H' t' → (∀ g2 H2, Stp g H g2 H2 → Wf C g2 H2 t' → Rok a t' g2 H2) → Rok' a t' g' H') : Post C E g1 H1 Rok' r := by
  cases r with
  | none => exact h
  | some o =>
    cases o with
    | ok a t' => exact fun g' H' s' w => f a t' g' H' rfl s' w h
    | exc c t' => exact fun g' H' s' w => h g' H' (s.trans s') w
end BG
set_option Elab.async false
set_option linter.all false
set_option maxRecDepth 100000
set_option maxHeartbeats 4000000
namespace BG
open PySem PySem.Spec PyProof.Rows L2
end BG
set_option Elab.async false
set_option linter.all false
set_option maxRecDepth 100000
set_option maxHeartbeats 4000000
namespace BG
open PySem PySem.Spec PyProof.Rows L2
end BG
set_option Elab.async false
set_option linter.all false
set_option maxRecDepth 100000
set_option maxHeartbeats 4000000
namespace BG
open PySem PySem.Spec PyProof.Rows L2
section
variable {X : Cx} {C : Cn} {E : XK}
/-- as _law_result tells it -/
def eResM (nm : Nat → Str) (al : Nat → Bool) (m : M D) : M D := fun t => match m t with
  | some (.ok d t') => some (.ok (.tup [.str "returns", d]) t')
  | some (.exc c t') => if al c = true then some (.ok (.tup [.str (nm c)]) t') else none
  | none => none
def eRes (nm : Nat → Str) (al : Nat → Bool) (f : Ex) : Ex := fun S => eResM nm al (f S)
end
end BG
set_option Elab.async false
set_option linter.all false
set_option maxRecDepth 100000
set_option maxHeartbeats 4000000
namespace BG
open PySem PySem.Spec PyProof.Rows L2
end BG
set_option Elab.async false
set_option linter.all false
set_option maxRecDepth 100000
set_option maxHeartbeats 1000000
namespace BG
open PySem L2
end BG
set_option Elab.async false
set_option linter.all false
set_option maxRecDepth 100000
set_option maxHeartbeats 4000000
namespace BG
open PySem PySem.Spec PyProof.Rows L2
end BG
set_option Elab.async false
set_option linter.all false
set_option maxRecDepth 100000
set_option maxHeartbeats 4000000
namespace BG
open PySem PySem.Spec PyProof.Rows L2
theorem PGs.imp {X : Cx} {e : List Expr} {t t' : TGs} (h : PGs X e t) (f : ∀ v σ H Q, t' v σ H Q → t v σ H Q) : PGs X e t' := ⟨fun pins s σ H v u Q I r q => h.run pins s σ H v u Q I r (f v σ H Q q)⟩
end BG
set_option Elab.async false
set_option linter.all false
set_option maxRecDepth 100000
set_option maxHeartbeats 4000000
namespace BG
open PySem PySem.Spec PyProof.Rows L2
open AutoSeq1 (wpAny_loadPart')
theorem meets_enumerate_newT (l : Addr) (items : Array Value) (n : Nat) (dct : Option Addr) (sl : Array (Option Value)) :
    Meets (Builtin.«enumerate.__new__» ⟨[.type "enumerate", .ref l], []⟩) (fun _ R s => s.heap.get? l = some { cls := .type "tuple", dict := dct, data := .seq items n, slots := sl } ∧
      R (.ok (.ret (.ref (s.heap.push { cls := .type "tuple_iterator", data := .fields #[.ref l, .int 0 0] }).objs.size)))
        { s with heap := (s.heap.push { cls := .type "tuple_iterator", data := .fields #[.ref l, .int 0 0] }).push { cls := .type "enumerate", data := .fields #[.none, .bool false, .ref s.heap.objs.size, rawInt 0, .none, .none] } }) :=
  .of_wp fun prog w A R s h => by
    obtain ⟨hp, g, d, tk, os⟩ := s
    obtain ⟨hl, h⟩ := h
    have hsub := sub_enumerate
    have hL : Heap.IsTuple (Shared.heap ⟨hp, g, d, tk, os⟩) l items := ⟨_, hl, rfl, n, rfl⟩
    wp_walk using wpAny_loadPart' hl
    refine wpAny_stack_any fun st => wpAny_pure ?_
    split
    · rename_i c _ _ _ _ _
      cases (c == Value.type "enumerate")
      · wp_walk using wpAny_loadPart' hl, wpAny_pyIter_tuple hL
        exact ⟨_, rfl, h⟩
      · wp_walk using wpAny_loadPart' hl, wpAny_pyIter_tuple hL
        exact ⟨_, rfl, h⟩
    · wp_walk using wpAny_loadPart' hl, wpAny_pyIter_tuple hL
      exact ⟨_, rfl, h⟩
section
variable {prog : Program} {w : World} {A : Around} {E : Value → Shared → Prop} {s : Shared}
theorem call_enumerate_tup {l : Addr} {items : Array Value} {Q : Value → Shared → Prop} (hL : s.heap.IsTuple l items)
    (h : ∀ h', IsEnum h' (s.heap.objs.size + 1) s.heap.objs.size 0 .none → h'.IsTupleIter s.heap.objs.size l 0 → h'.objs.size = s.heap.objs.size + 2 →
      (∀ b o, s.heap.get? b = some o → h'.get? b = some o) → Q (.ref (s.heap.objs.size + 1)) { s with heap := h' }) :
    wpAny (model prog w) A (call (.type "enumerate") [.ref l]) Q E s := by
  obtain ⟨⟨c, dct, dt, sl⟩, hl, hc, n, hd⟩ := hL
  replace hc : c = .type "tuple" := hc
  replace hd : dt = .seq items n := hd
  subst hc hd
  refine callType_new F.called_enumerate (by decide) (F.typeCall_enumerate_1 _) (F.newCall_enumerate_1 _) (fun obj => F.args_object_init_2 obj _) F.entry_enumerate_new
    (meets_enumerate_newT l items n dct sl) ⟨hl, ?_⟩
  have hz : (s.heap.push { cls := .type "tuple_iterator", data := .fields #[.ref l, .int 0 0] }).objs.size = s.heap.objs.size + 1 := Heap.size_push ..
  show _ ∧ _
  rw [hz]
  have he : IsEnum ((s.heap.push { cls := .type "tuple_iterator", data := .fields #[.ref l, .int 0 0] }).push
      { cls := .type "enumerate", data := .fields #[.none, .bool false, .ref s.heap.objs.size, rawInt 0, .none, .none] }) (s.heap.objs.size + 1) s.heap.objs.size 0 .none := by
    have := Heap.get?_push_size (s.heap.push { cls := .type "tuple_iterator", data := .fields #[.ref l, .int 0 0] })
      (o := { cls := .type "enumerate", data := .fields #[.none, .bool false, .ref s.heap.objs.size, rawInt 0, .none, .none] }) rfl
    rw [hz] at this; exact this
  refine ⟨⟨_, he, rfl⟩, h _ he ⟨_, Heap.get?_push_of_some _ (Heap.get?_push_size _ rfl), rfl, rfl⟩ (by rw [Heap.size_push, hz]) fun b o x => Heap.get?_push_of_some _ (Heap.get?_push_of_some _ x)⟩
end
/-- the tuple at a, each item in a new pair -/
def IteT (K : PySem.W.Frag) (a : Addr) : It :=
  ⟨fun i H => ∃ (xs : List V) (x : V), SqT K H a xs ∧ xs[i]? = some x, fun i H v H' => ∃ T x, v = .ref T ∧ H T = none ∧ (∃ ob, H' = upd H T (.frz ob (.tup [.int (i : Nat), x])) ∧ Obj.dict ob = none ∧ Obj.cls ob = .type "tuple") ∧ ∀ xs, SqT K H a xs → xs[i]? = some x, fun i H => ∃ xs : List V, SqT K H a xs ∧ xs.length ≤ i⟩
theorem turn_enumT {P : Program} {w : World} {K : PySem.W.Frag} {elts : List Expr} {kk : Nat} {tpos : Pos} (a e it : Addr) (hai : a ≠ it) (hea : e ≠ a) :
    Turn P w K (.Tuple elts kk tpos) (IteT K a) [e, it] e (fun i h => (∃ old, IsEnum h e it ((i : Nat) : Int) old) ∧ h.IsTupleIter it a i ∧ e ≠ it) where
  mem := by simp
  obj := fun i h st b hb => by
    obtain ⟨⟨old, he⟩, ⟨o, ho, hc, hd⟩, _⟩ := st
    have e' : b = e ∨ b = it := by simpa using hb
    rcases e' with z | z
    · rw [z]; exact ⟨_, he, fun v q => nomatch q⟩
    · rw [z]; exact ⟨o, ho, fun v q => by rw [hd] at q; cases q⟩
  keep := fun i h h' st k => let ⟨⟨old, he⟩, hi, hne⟩ := st; ⟨⟨old, k e (by simp) _ he⟩, hi.at fun o q => k it (by simp) o q, hne⟩
  item := by
    intro X hP hw hK hc i pins s σ H E I hf st hg
    subst hP hw hK
    obtain ⟨⟨old, he⟩, hit, hne⟩ := st
    obtain ⟨xs, x, hq, hx⟩ := hg
    obtain ⟨its, rv, p, hz⟩ := I.tuple hq
    obtain ⟨u, hu, ru⟩ := rv.get hx
    have hel : e < s.heap.objs.size := Heap.lt_size he
    have hil : it < s.heap.objs.size := by obtain ⟨_, q, _⟩ := hit; exact Heap.lt_size q
    have hlt : i < its.toArray.size := by
      have := (List.getElem?_eq_some_iff.mp hu).1
      simpa using this
    refine wpAny_pyNext_enum_itemD (Draws.tuple (A := X.A.in1) (show X.A.in1.handled = none from I.ok.hd hc) it a hai its.toArray) he ⟨hit, p⟩ hlt hne (by simp [hne, hea]) fun x' h' tk hx' ho hst' hT hsz hk => ?_
    have exu : x' = u := by
      have hx' : its.toArray[i]? = some x' := hx'
      rw [List.getElem?_toArray, hu] at hx'
      exact (Option.some.inj hx').symm
    subst exu
    refine ⟨_, rfl, wpAny_letOwnedTupleGo_enum (s := { s with heap := h', toks := tk + 1 }) ho fun h'' he' sb => ?_⟩
    have hT2 : h''.get? s.heap.objs.size = some { cls := .type "tuple", data := .seq #[.int i tk, x'] } := (sb.2 _ (Nat.ne_of_gt hel)).trans hT
    have new : ObjOk X.prog X.w (upd H s.heap.objs.size (.frz { cls := .type "tuple", data := .seq #[.int i tk, x'] } (.tup [.int (i : Nat), x]))) h'' s.heap.objs.size (.frz { cls := .type "tuple", data := .seq #[.int i tk, x'] } (.tup [.int (i : Nat), x])) :=
      ⟨hT2, by show 2 ≤ sizeLine; decide, [.int i tk, x'], .cons ⟨_, rfl⟩ (.cons ru .nil), ⟨_, hT2, rfl, _, rfl⟩⟩
    have I1 : Inv X pins σ (upd H s.heap.objs.size (.frz { cls := .type "tuple", data := .seq #[.int i tk, x'] } (.tup [.int (i : Nat), x]))) { s with heap := h'', toks := tk + 1 } :=
      I.turnedNew (ch := [e, it]) (fun b ob hb q => (sb.2 b (fun z => hb (by simp [z]))).trans (hk b ob (fun z => hb (by simp [z])) (fun z => hb (by simp [z])) q)) hf (Nat.le_refl _) new
    refine ⟨.ref s.heap.objs.size, _, I1, rfl, ⟨_, x, rfl, I.hok.fresh (Nat.le_refl _), ⟨_, rfl, rfl, rfl⟩, fun ys hy => by rw [I.tuple_inj hy hq]; exact hx⟩, ⟨⟨x', ?_⟩, hst'.1.at fun o q => (sb.2 it (Ne.symm hne)).trans q, hne⟩, fun b hb => ?_⟩
    · have e1 : ((i + 1 : Nat) : Int) = (i : Int) + 1 := by omega
      rw [e1]; exact he'
    · have hb' : b < s.heap.objs.size := by
        have e' : b = e ∨ b = it := by simpa using hb
        rcases e' with z | z
        · rw [z]; exact hel
        · rw [z]; exact hil
      rw [upd_ne (Nat.ne_of_lt hb')]
      exact (hf b hb).1
  done := by
    intro X hP hw hK hc i pins s σ H E I hf st hg
    subst hP hw hK
    obtain ⟨⟨old, he⟩, hit, hne⟩ := st
    obtain ⟨xs, hq, hx⟩ := hg
    obtain ⟨its, rv, p, hz⟩ := I.tuple hq
    obtain ⟨f0, f1, f2, f3, f4, f5⟩ := hf it (by simp)
    have hl := rv.length
    have hT : s.TypeIs (.ref e) "enumerate" := ⟨_, he, rfl⟩
    unfold pyNext
    refine wpAny_bind (wpAny_attempt (wpAny_callSpecial?_slot (name := Str.ofString "__next__") hT F.slot_enumerate_next
      (wpAny_call_entry F.slot_enumerate_next hT F.entry_enumerate_next ?_ (F.args_enumerate_next_1 _))))
    show wpAny _ _ (field (.ref e) 2 >>= _) _ _ _
    refine wpAny_bind (wpAny_field he rfl (x := .ref it) rfl ?_)
    refine wpAny_bind (wpAny_nextOf_tuple_end (I.ok.hd hc) hit p (by simp; omega) fun h' x he' hx' => ?_)
    obtain ⟨o, ho, hc⟩ := hx'
    refine wpAny_bind (wpAny_isInstance (T := "StopIteration") (b := true) ⟨o, ho, hc⟩ isSubtype_stop ?_)
    exact wpAny_pure ⟨rfl, I.turned (t' := s.toks) (fun b o hb q => he' b o hb q) f0 f1 f3 f4 f5⟩
  self := fun A i s Q E st h => let ⟨⟨_, he⟩, _⟩ := st; wpAny_pyIter_enum he h
def iEnumT (K : PySem.W.Frag) (ta : TA) : TI := fun σ H R => ta σ H fun vs H1 => ∃ a xs, vs = [.ref a] ∧ SqT K H1 a xs ∧ R (IteT K a) H1
theorem pi_enumT {X : Cx} {e : Expr} {ta : TA} {p pos tpos : Pos} {elts : List Expr} {kk : Nat} (hg : Gl X "enumerate") (hm : X.mg "enumerate" = none) (ha : PA X [e] ta) (hs : starEach [e] X.env = [(false, eval e X.env)] := by rfl) :
    PI X (.Tuple elts kk tpos) (.Call (.Name "enumerate" p) [e] [] pos) (iEnumT X.K ta) := by
  refine ⟨fun pins s σ H R I h => ?_⟩
  refine Call_ (ld_blt I hg hm boot_enumerate (PyProof.Rows.callWith_type1 (thn (ha.run pos pins s σ H _ I h) fun us s1 ⟨vs, H1, I1, r1, q1⟩ => ?_) hs rfl))
  obtain ⟨a, xs, ex, hq, q⟩ := q1
  subst ex
  cases r1 with
  | cons r rr =>
    cases rr
    cases r
    obtain ⟨its, rv, p', hz⟩ := I1.tuple hq
    refine call_enumerate_tup p' fun h' he hit hsz hk => wpAny_pyIter_enum he ?_
    have I2 : Inv X pins σ H1 { s1 with heap := h' } := I1.kept (t' := s1.toks) hk
    have hlt : a < s1.heap.objs.size := by obtain ⟨o, ho, _⟩ := p'; exact Heap.lt_size ho
    refine ⟨s1.heap.objs.size + 1, [s1.heap.objs.size + 1, s1.heap.objs.size], _, _, H1, rfl, I2, turn_enumT a (s1.heap.objs.size + 1) s1.heap.objs.size (Nat.ne_of_lt hlt) (Nat.ne_of_gt (Nat.lt_succ_of_lt hlt)), ⟨⟨.none, he⟩, hit, Nat.succ_ne_self _⟩, fun b hb => ?_, q⟩
    have e' : b = s1.heap.objs.size + 1 ∨ b = s1.heap.objs.size := by simpa using hb
    have hle : s1.heap.objs.size ≤ b := by
      rcases e' with z | z
      · rw [z]; exact Nat.le_add_right _ _
      · rw [z]; exact Nat.le_refl _
    exact I1.fpOk hle (I1.hok.fresh hle)
/-- the items of a tuple with their places -/
def enumD (ds : List D) : List D := ds.zipIdx.map fun p => D.tup [.int (p.2 : Int), p.1]
def itEnum (f : Ex) : Sl → M (List D) := fun S => bnd (f S) fun d => match d with
  | .tup ds => ret (enumD ds)
  | _ => stuck
theorem enumD_get {ds : List D} {i : Nat} {d : D} (h : (enumD ds)[i]? = some d) : ∃ x, ds[i]? = some x ∧ d = .tup [.int (i : Int), x] := by
  unfold enumD at h
  rw [List.getElem?_map, List.getElem?_zipIdx] at h
  cases e : ds[i]? with
  | none => rw [e] at h; cases h
  | some x =>
    rw [e] at h
    refine ⟨x, rfl, ?_⟩
    have h := Option.some.inj h
    rw [← h]
    show D.tup [.int ((0 + i : Nat) : Int), x] = _
    rw [Nat.zero_add]
theorem enumD_len (ds : List D) : (enumD ds).length = ds.length := by unfold enumD; rw [List.length_map, List.length_zipIdx]
theorem walkE {K : PySem.W.Frag} {g : G} {B : Hp} {a : Addr} {vs : List V} {ds : List D} (h : SqT K B a vs) (r : RpA K g vs ds) : WalkD K B (IteT K a) (enumD ds) g := fun i H sm => by
  refine ⟨fun d hd => ?_, fun hl => ?_⟩
  · obtain ⟨x, hx, rfl⟩ := enumD_get hd
    obtain ⟨v, hv, rv⟩ := r.get hx
    refine ⟨⟨vs, v, Same.tseq sm h, hv⟩, fun y H' ⟨T, z, e1, e2, e3, e4⟩ => .inr ⟨T, [.int (i : Nat), z], [.int (i : Int), x], e1, e2, e3, rfl, .cons (.int _) (.cons ?_ .nil)⟩⟩
    have := e4 vs (Same.tseq sm h)
    rw [hv] at this
    cases this
    exact rv
  · rw [enumD_len] at hl
    exact ⟨vs, Same.tseq sm h, by rw [r.length]; exact hl⟩
section
variable {X : Cx} {C : Cn} {E : XK}
theorem ci_enum {e : Expr} {f : Ex} {p pos tpos : Pos} {elts : List Expr} {kk : Nat} (hm : X.mg "enumerate" = none) (he : CE X C E e f) (hg : Gl X "enumerate" := by rfl) (hs : starEach [e] X.env = (false, eval e X.env) :: starEach [] X.env := by rfl) (hs2 : starEach [e] X.env = [(false, eval e X.env)] := by rfl) :
    CI X C E (.Tuple elts kk tpos) (.Call (.Name "enumerate" p) [e] [] pos) (itEnum f) :=
  PI.imp (pi_enumT hg hm (pa_cons he pa_nil hs) hs2) fun σ H R ⟨g, S, t, w, s, q⟩ => ⟨g, S, t, w, s, q.bnd.imp fun d t1 g1 H1 st1 w1 q v r => by
    cases d with
    | tup ds =>
      cases r with
      | tup sq ra => exact ⟨_, _, rfl, Same.tseq w1.fz sq.t, postRet q w1 _ (walkE sq.t ra)⟩
    | _ => exact q.elim⟩
end
end BG
set_option Elab.async false
set_option linter.all false
set_option maxRecDepth 100000
set_option maxHeartbeats 4000000
namespace BG
open PySem PySem.Spec PyProof.Rows L2
section
variable {X : Cx} {C : Cn} {E : XK}
theorem SqN.ty {pins : List (Addr × Obj)} {σ : L2.St} {H : Hp} {s : Shared} {a : Addr} {xs : List V} (I : Inv X pins σ H s) (h : SqN X.K H a xs) : s.TypeIs (.ref a) "tuple" ∧ ∃ ob, s.heap.get? a = some ob ∧ ob.dict = none := by
  rcases h with ⟨o, h, hd, hc⟩ | ⟨o, its, n, hk, hc, _, _, _, hd⟩
  · obtain ⟨g1, _⟩ := I.hok a _ h
    exact ⟨⟨o, g1, hc⟩, o, g1, hd⟩
  · have g1 := I.kIn a o hk
    exact ⟨⟨o, g1, hc⟩, o, g1, hd⟩
/-- t.m(e, ..), t a tuple -/
theorem pe_bmN {o e : Expr} {es : List Expr} {to : TE} {t : TA} {name : Str} {apos cpos : Pos} {id : String} {r : V → List V → Hp → VK → Prop} (slot : Slot "tuple" name id) (hty : typeOf (.builtin id) = pure (.type "method_descriptor")) (hm : MtR X id r) (ho : PE X o to) (ha : PA X (e :: es) t)
    (hbase : attributeBase o name X.env (eval o X.env) = eval o X.env := by rfl)
    (hfew : ((backTo cpos (starEach (e :: es) X.env)).all (fun x => !x.1) && (backToKw cpos (keywordEach [] X.env)).all (fun x => x.1.isSome) && decide ((e :: es).length + ([] : List Keyword).length + (if ([] : List Keyword).isEmpty then 0 else 1) < 30)) = true := by rfl)
    (hline : (apos.endLine == cpos.line) = true := by rfl) (hs : starEach (e :: es) X.env = (false, eval e X.env) :: starEach es X.env := by rfl) (hplain : (backTo cpos (starEach es X.env)).any (·.1) = false := by rfl) :
    PE X (.Call (.Attribute o name apos) (e :: es) [] cpos) (fun σ H Q => to σ H fun x H1 => (∃ a xs, x = .ref a ∧ SqN X.K H1 a xs) ∧ t σ H1 fun vs H2 => r x vs H2 Q) := ⟨fun pins s σ H Q I h => by
  refine wpAny_Call_method_late hbase hfew hline rfl (thn (ho.run pins s σ H _ I h) fun v s1 ⟨x, H1, I1, r1, ⟨a, xs, ex, sq⟩, q1⟩ => ?_)
  subst ex
  cases r1
  obtain ⟨k1, ob, k2, k3⟩ := sq.ty I1
  refine ⟨"tuple", id, PySem.F.plainAttrs_tuple, slot, hty, k1, fun b eb => by cases eb; exact ⟨ob, k2, k3⟩, ?_⟩
  have hA := ha.run cpos pins s1 σ H1 _ I1 q1
  rw [hs] at hA ⊢
  exact Calls.callWith_builtin (by show (false || (backTo cpos (starEach es X.env)).any (·.1)) = false; rw [hplain] <;> rfl) (Calls.evalArgs_plain (thn hA fun us s2 ⟨vs, H2, I2, r2, q2⟩ => hm pins s2 σ H2 (.ref a) vs (.ref a) us Q I2 rfl r2 q2))⟩
/-- data that are read -/
theorem RpW.reads {pins : List (Addr × Obj)} {σ : L2.St} {H : Hp} {s : Shared} {g : G} {t : Tn} {v : V} {u : Value} {d : D} (I : Inv X pins σ H s) (w : Wf C g H t) (r : RpW X.K g H v d) (o : okD d 60 = true) (rv : RelV v u) : ∃ as, Reads s.heap u d.py as := Dp.reads I _ _ _ (RpW.dp w r o) rv
def cntD (ds : List D) (d : D) : Nat := ds.countP fun e => PyData.eqv e.py d.py
theorem countP_py (d : D) : ∀ ds : List D, (pyA ds).countP (fun y => PyData.eqv y d.py) = cntD ds d
  | [] => rfl
  | e :: ds => by
    unfold cntD
    rw [pyA, List.countP_cons, List.countP_cons, countP_py d ds]; rfl
def rCnt (K : PySem.W.Frag) (C : Cn) : V → List V → Hp → VK → Prop := fun x xs H Q => ∃ y g t ds d, xs = [y] ∧ Wf C g H t ∧ RpW K g H x (.tup ds) ∧ RpW K g H y d ∧ okD (.tup ds) 60 = true ∧ okD d 60 = true ∧ Q (.int (cntD ds d : Nat)) H
theorem okD_plain {d : D} (h : okD d 60 = true) : d.py.plain = true ∧ d.py.depth ≤ 60 := ⟨PyData.plain_of_canLay0 _ (okD_lay d 60 h).1, (okD_lay d 60 h).2⟩
theorem mt_tcnt (hu : X.A.units + 65 < cLine) : MtR X "tuple.count" (rCnt X.K C) := fun pins s σ H x xs v us Q I rx rs h => by
  obtain ⟨y, g, t, ds, d, rfl, w, r1, r2, o1, o2, q⟩ := h
  obtain ⟨u, rfl, ru⟩ := vals1 rs
  obtain ⟨as, R1⟩ := r1.reads I w o1 rx
  obtain ⟨bs, R2⟩ := r2.reads I w o2 ru
  obtain ⟨p1, p2⟩ := okD_plain o1
  obtain ⟨p3, p4⟩ := okD_plain o2
  rw [D.py] at R1 p1
  cases R1 with
  | @tuple a o vs n _ _ ho hc hd hall =>
    refine PySem.SeqAt.count_tuple_data ⟨o, ho, hc, n, hd⟩ hall R2 p1 p3 (by have := Nat.min_le_right (PyData.depthAll (pyA ds)) d.py.depth; omega) ?_
    rw [countP_py]
    exact ⟨.int (cntD ds d : Nat), H, I.tok _, ⟨_, rfl⟩, q⟩
/-- t.m(y), t a tuple -/
def eTM (op : List D → D → M D) (a b : Ex) : Ex := fun S => bnd (a S) fun x => match x with
  | .tup ds => bnd (b S) fun y => op ds y
  | _ => stuck
def pCnt (ds : List D) (d : D) : M D := if okA ds 59 = true ∧ okD d 60 = true then ret (.int (cntD ds d : Nat)) else stuck
theorem Rp.nice {K : PySem.W.Frag} {C : Cn} {g : G} {H : Hp} {t : Tn} {v : V} {ds : List D} (w : Wf C g H t) (h : Rp K g v (.tup ds)) : ∃ a xs, v = .ref a ∧ SqN K H a xs := by
  cases h with
  | tup s _ => exact ⟨_, _, rfl, s.mono w.fz⟩
theorem tE.tm {K : PySem.W.Frag} {op : List D → D → M D} {r : V → List V → Hp → VK → Prop} {fo fe : Ex} {σ : L2.St} {H : Hp} {Q : VK} (h : tE K C E (eTM op fo fe) σ H Q)
    (hr : ∀ x y g t ds d H1, Wf C g H1 t → Rp K g x (.tup ds) → Rp K g y d → PostQ K C E g H1 Q (op ds d t) → r x [y] H1 Q) :
    tE K C E fo σ H fun x H1 => (∃ a xs, x = .ref a ∧ SqN K H1 a xs) ∧ tCons (tE K C E fe) tNil σ H1 fun vs H2 => r x vs H2 Q := by
  refine tE.seq h fun g S t x d H1 w s rx p => ?_
  cases d with
  | tup ds => exact ⟨rx.nice w, g, S, t, w, s, Post.bnd p |>.imp fun d2 t2 g2 H2 st w2 q v r2 => hr x v g2 t2 ds d2 H2 w2 (rx.stp st) r2 q⟩
  | _ => exact p.elim
theorem ce_tm {op : List D → D → M D} {r : V → List V → Hp → VK → Prop} {o e : Expr} {fo fe : Ex} {name : Str} {id : String} {apos cpos : Pos} (slot : Slot "tuple" name id) (hty : typeOf (.builtin id) = pure (.type "method_descriptor")) (hm : MtR X id r)
    (hr : ∀ x y g t ds d H1 Q, Wf C g H1 t → Rp X.K g x (.tup ds) → Rp X.K g y d → PostQ X.K C E g H1 Q (op ds d t) → r x [y] H1 Q) (ho : CE X C E o fo) (he : CE X C E e fe) (hbase : attributeBase o name X.env (eval o X.env) = eval o X.env := by rfl)
    (hfew : ((backTo cpos (starEach [e] X.env)).all (fun x => !x.1) && (backToKw cpos (keywordEach [] X.env)).all (fun x => x.1.isSome) && decide ([e].length + ([] : List Keyword).length + (if ([] : List Keyword).isEmpty then 0 else 1) < 30)) = true := by rfl)
    (hline : (apos.endLine == cpos.line) = true := by rfl) (hs : starEach [e] X.env = (false, eval e X.env) :: starEach [] X.env := by rfl) (hplain : (backTo cpos (starEach [] X.env)).any (·.1) = false := by rfl) :
    CE X C E (.Call (.Attribute o name apos) [e] [] cpos) (eTM op fo fe) :=
  PE.imp (pe_bmN slot hty hm ho (pa_cons he pa_nil hs) hbase hfew hline hs hplain) fun σ H Q h => tE.tm h fun x y g t ds d H1 w r1 r2 p => hr x y g t ds d H1 Q w r1 r2 p
theorem hr_cnt {x y : V} {g : G} {t : Tn} {ds : List D} {d : D} {H1 : Hp} {Q : VK} (w : Wf C g H1 t) (r1 : Rp X.K g x (.tup ds)) (r2 : Rp X.K g y d) (p : PostQ X.K C E g H1 Q (pCnt ds d t)) : rCnt X.K C x [y] H1 Q := by
  unfold pCnt at p
  split at p
  · rename_i hc
    exact ⟨y, g, t, ds, d, rfl, w, .inl r1, .inl r2, hc.1, hc.2, pRetV p w (.int _)⟩
  · exact p.elim
/-- t.count(y) -/
theorem ce_tcnt {o e : Expr} {fo fe : Ex} {apos cpos : Pos} (hu : X.A.units + 65 < cLine) (ho : CE X C E o fo) (he : CE X C E e fe) (hbase : attributeBase o "count" X.env (eval o X.env) = eval o X.env := by rfl)
    (hfew : ((backTo cpos (starEach [e] X.env)).all (fun x => !x.1) && (backToKw cpos (keywordEach [] X.env)).all (fun x => x.1.isSome) && decide ([e].length + ([] : List Keyword).length + (if ([] : List Keyword).isEmpty then 0 else 1) < 30)) = true := by rfl)
    (hline : (apos.endLine == cpos.line) = true := by rfl) (hs : starEach [e] X.env = (false, eval e X.env) :: starEach [] X.env := by rfl) (hplain : (backTo cpos (starEach [] X.env)).any (·.1) = false := by rfl) :
    CE X C E (.Call (.Attribute o "count" apos) [e] [] cpos) (eTM pCnt fo fe) := ce_tm PySem.F.slot_tuple_count PySem.F.type_tuple_count (mt_tcnt (C := C) hu) (fun _ _ _ _ _ _ _ _ w r1 r2 p => hr_cnt w r1 r2 p) ho he hbase hfew hline hs hplain
theorem ints_vals : ∀ {ns : List Int} {us : List Value}, Vals (ns.map V.int) us → IntsAre us ns
  | [], _, h => by cases h; exact .nil
  | n :: ns, _, h => by
    cases h with
    | cons r rs =>
      obtain ⟨t, rfl⟩ := r
      exact .cons _ _ (ints_vals rs)
end
end BG
set_option Elab.async false
set_option linter.all false
set_option maxRecDepth 100000
set_option maxHeartbeats 4000000
namespace BG
open PySem PySem.Spec PyProof.Rows L2
def maxI : Int → List Int → Int
  | m, [] => m
  | m, n :: r => maxI (if m < n then n else m) r
theorem maxI_spec : ∀ (r : List Int) (m : Int), maxI m r ∈ m :: r ∧ ∀ y ∈ m :: r, y ≤ maxI m r
  | [], m => ⟨List.mem_cons_self .., fun y hy => by rw [List.mem_singleton.mp hy]; exact Int.le_refl _⟩
  | n :: r, m => by
    obtain ⟨h1, h2⟩ := maxI_spec r (if m < n then n else m)
    show maxI (if m < n then n else m) r ∈ _ ∧ ∀ y ∈ _, y ≤ maxI (if m < n then n else m) r
    have h0 := h2 _ (List.mem_cons_self ..)
    refine ⟨?_, fun y hy => ?_⟩
    · rcases List.mem_cons.mp h1 with h | h
      · rw [h]; split <;> simp
      · exact List.mem_cons_of_mem _ (List.mem_cons_of_mem _ h)
    · rcases List.mem_cons.mp hy with rfl | hy
      · split at h0 <;> split <;> omega
      · rcases List.mem_cons.mp hy with rfl | hy
        · split at h0 <;> split <;> omega
        · exact h2 y (List.mem_cons_of_mem _ hy)
def bMax : D → M D
  | .lst ds => match intsD ds with
    | some (n :: r) => ret (.int (maxI n r))
    | _ => stuck
  | _ => stuck
section
variable {X : Cx} {C : Cn} {E : XK}
theorem cr_maxD (hc : X.calm = true) : CallR X (.builtin "max") (c1D X.K C E bMax) := CallR.imp (cr_max hc) fun xs H Q ⟨x, g, t, d, ex, w, a, h⟩ => by
  subst ex
  cases d with
  | lst ds =>
    obtain ⟨p, vs, rfl, e1, r1⟩ := a.lst w
    have h : PostQ X.K C E g H Q ((match intsD ds with | some (n :: r) => ret (D.int (maxI n r)) | _ => stuck) t) := h
    cases z : intsD ds with
    | none => rw [z] at h; exact h.elim
    | some ns =>
      rw [z] at h
      cases ns with
      | nil => exact h.elim
      | cons n r =>
        refine ⟨p, n :: r, rfl, .of (by rw [e1, r1.intsD z]), by rw [List.length_cons]; omega, fun m hm hle => ?_⟩
        obtain ⟨k1, k2⟩ := maxI_spec r n
        rw [show m = maxI n r from Int.le_antisymm (k2 m hm) (hle _ k1)]
        exact pRetV h w (Rp.int _)
  | _ => exact h.elim
def sPar3 (i j l : Nat) (a b c : Ex) : Stm := fun S => bnd (a S) fun x => bnd (b S) fun y => bnd (c S) fun z => ret (.nx (((S.set i (.val x)).set j (.val y)).set l (.val z)))
theorem cs_par3 (i j l : Nat) {x y z : Str} {a b c : Expr} {fa fb fc : Ex} {px py pz pt : Pos} {kt k2 pt2} {pos : Pos} (hN : X.N.Nodup) (ha : CE X C E a fa) (hb : CE X C E b fb) (hcc : CE X C E c fc) (hc : X.calm = true := by rfl) (hi : X.N[i]? = some x := by rfl) (hj : X.N[j]? = some y := by rfl) (hl : X.N[l]? = some z := by rfl)
    (hij : i ≠ j := by decide) (hil : i ≠ l := by decide) (hjl : j ≠ l := by decide) (hx : X.env.scope.names.lookup x = some .local := by rfl) (hy : X.env.scope.names.lookup y = some .local := by rfl) (hz : X.env.scope.names.lookup z = some .local := by rfl)
    (hw : swappedStores [.Tuple [.Name x px, .Name y py, .Name z pz] kt pt] (.Tuple [a, b, c] k2 pt2) X.env = pure (some [x, y, z]) := by rfl) (hs : swapsWithSole [.Tuple [.Name x px, .Name y py, .Name z pz] kt pt] (.Tuple [a, b, c] k2 pt2) pos.line X.env = pure false := by rfl)
    (s1 : starEach [a, b, c] X.env = (false, eval a X.env) :: starEach [b, c] X.env := by rfl) (s2 : starEach [b, c] X.env = (false, eval b X.env) :: starEach [c] X.env := by rfl) (s3 : starEach [c] X.env = (false, eval c X.env) :: starEach [] X.env := by rfl) :
    CS X C E (.Assign [.Tuple [.Name x px, .Name y py, .Name z pz] kt pt] (.Tuple [a, b, c] k2 pt2) pos) (sPar3 i j l fa fb fc) :=
  PS.imp (ps_par3 hc hN hi hj hl hij hil hjl hx hy hz (pa_cons ha (pa_cons hb (pa_cons hcc pa_nil s3) s2) s1) hw hs) fun De σ H ⟨g0, H0, gs, g, S, t, st, gr, w, s, o, p⟩ => tS.ex st gr w s p fun d t1 g1 H1 v st1 st01 gr1 w1 s1 r q =>
    tS.ex st01 gr1 w1 s1 q fun d2 t2 g2 H2 v2 st2 st02 gr2 w2 s2 r2 q2 => tS.ex st02 gr2 w2 s2 q2 fun d3 t3 g3 H3 v3 st3 st03 gr3 w3 s3 r3 q3 => ⟨v, v2, v3, rfl, q3 g3 H3 st03 w3 _ gr3 (((s3.set ((r.stp st2).stp st3)).set (r2.stp st3)).set r3) o.set.set.set⟩
def insI (x : Int) : List Int → List Int
  | [] => [x]
  | y :: r => if x < y then x :: y :: r else if x = y then y :: r else y :: insI x r
def dsort : List Int → List Int
  | [] => []
  | x :: r => insI x (dsort r)
theorem insI_mem {x z : Int} : ∀ {l : List Int}, z ∈ insI x l ↔ z = x ∨ z ∈ l
  | [] => by simp [insI]
  | y :: r => by
    unfold insI
    split
    · simp
    · split
      · rename_i h; subst h; simp
      · rw [List.mem_cons, insI_mem, List.mem_cons]
        exact ⟨fun h => h.elim (fun h => .inr (.inl h)) fun h => h.elim .inl fun h => .inr (.inr h), fun h => h.elim (fun h => .inr (.inl h)) fun h => h.elim .inl fun h => .inr (.inr h)⟩
theorem insI_pair {x : Int} : ∀ {l : List Int}, l.Pairwise (· < ·) → (insI x l).Pairwise (· < ·)
  | [], _ => by simp [insI]
  | y :: r, h => by
    obtain ⟨h1, h2⟩ := List.pairwise_cons.mp h
    unfold insI
    split
    · rename_i hxy
      refine List.pairwise_cons.mpr ⟨fun z hz => ?_, h⟩
      rcases List.mem_cons.mp hz with rfl | hz
      · exact hxy
      · have := h1 z hz; omega
    · split
      · exact h
      · refine List.pairwise_cons.mpr ⟨fun z hz => ?_, insI_pair h2⟩
        rcases insI_mem.mp hz with rfl | hz
        · omega
        · exact h1 z hz
theorem dsort_mem {z : Int} : ∀ {l : List Int}, z ∈ dsort l ↔ z ∈ l
  | [] => Iff.rfl
  | x :: r => by unfold dsort; rw [insI_mem, dsort_mem, List.mem_cons]
theorem dsort_pair : ∀ l : List Int, (dsort l).Pairwise (· < ·)
  | [] => List.Pairwise.nil
  | x :: r => insI_pair (dsort_pair r)
theorem pair_unique : ∀ {a b : List Int}, a.Pairwise (· < ·) → b.Pairwise (· < ·) → (∀ z, z ∈ a ↔ z ∈ b) → a = b
  | [], [], _, _, _ => rfl
  | [], y :: b, _, _, h => by have := (h y).mpr (List.mem_cons_self ..); cases this
  | x :: a, [], _, _, h => by have := (h x).mp (List.mem_cons_self ..); cases this
  | x :: a, y :: b, ha, hb, h => by
    obtain ⟨a1, a2⟩ := List.pairwise_cons.mp ha
    obtain ⟨b1, b2⟩ := List.pairwise_cons.mp hb
    have e : x = y := by
      rcases List.mem_cons.mp ((h x).mp (List.mem_cons_self ..)) with e | e
      · exact e
      · rcases List.mem_cons.mp ((h y).mpr (List.mem_cons_self ..)) with e' | e'
        · exact e'.symm
        · have := b1 x e; have := a1 y e'; omega
    subst e
    rw [pair_unique a2 b2 fun z => ⟨fun hz => ?_, fun hz => ?_⟩]
    · rcases List.mem_cons.mp ((h z).mp (List.mem_cons_of_mem _ hz)) with e | e
      · subst e; have := a1 z hz; omega
      · exact e
    · rcases List.mem_cons.mp ((h z).mpr (List.mem_cons_of_mem _ hz)) with e | e
      · subst e; have := b1 z hz; omega
      · exact e
def rSetTI (K : PySem.W.Frag) (w : World) : List V → Hp → VK → Prop := fun xs H Q => ∃ (l : Addr) (ns : List Int), xs = [.ref l] ∧ SqT K H l (ns.map V.int) ∧ ns.length < 1000 ∧ ∀ p c, H p = none → c ≤ ns.length → Q (.ref p) (upd H p (SetO w p (fun j => decide (j ∈ ns)) c))
theorem cr_setTI (hc : X.calm = true) : CallR X (.type "set") (rSetTI X.K X.w) := fun pins s σ H xs us Q I r h => by
  obtain ⟨l, ns, rfl, sq, hz, q⟩ := h
  obtain ⟨u, rfl, ru⟩ := vals1 r
  cases ru
  obtain ⟨ws, rv, p, _⟩ := I.tuple sq
  refine call_set_tupI ns (I.ok.hd hc) p (by simpa using ints_vals rv) (by unfold scanBound; omega) fun h' tk c hS hcl hk => ?_
  exact ⟨.ref s.heap.objs.size, _, I.laid (a := s.heap.objs.size) (t' := tk) hk (Nat.le_refl _) (setO_new hS), rfl, q _ c (I.hok.fresh (Nat.le_refl _)) hcl⟩
def pSrtSet : D → M D
  | .tup ds => match intsD ds with
    | some ns => if ns.length < 64 then ret (.lst ((dsort ns).map D.int)) else stuck
    | none => stuck
  | _ => stuck
theorem RpA.ofInts {K : PySem.W.Frag} {g : G} : ∀ ns : List Int, RpA K g (ns.map V.int) (ns.map D.int)
  | [] => .nil
  | n :: ns => .cons (.int n) (RpA.ofInts ns)
theorem ce_srtSet {a : Expr} {fa : Ex} {p p2 q pos : Pos} (hc : X.calm = true) (hm : X.mg "sorted" = none) (hm2 : X.mg "set" = none) (ha : CW X C E a fa) (hg : Gl X "sorted" := by rfl) (hg2 : Gl X "set" := by rfl) (na : starEach [a] X.env = (false, eval a X.env) :: starEach [] X.env := by rfl)
    (nb : starEach [.Call (.Name "set" p2) [a] [] q] X.env = (false, eval (.Call (.Name "set" p2) [a] [] q) X.env) :: starEach [] X.env := by rfl) (hp : (backTo pos (starEach [] X.env)).any (·.1) = false := by rfl) (hp2 : (backTo q (starEach [] X.env)).any (·.1) = false := by rfl) :
    CE X C E (.Call (.Name "sorted" p) [.Call (.Name "set" p2) [a] [] q] [] pos) (eUn pSrtSet fa) :=
  PE.imp (pe_callB (cr_sortedSet hc) hg hm bt_sorted (pa_cons (pe_callTy (cr_setTI hc) hg2 hm2 (by decide +kernel) (pa_cons ha pa_nil na) (by decide) (by decide) na hp2) pa_nil nb) (by decide) (by decide) nb hp) fun σ H Q h => by
    refine tW.seq h fun g S t x d H1 w s rx p1 => ?_
    cases d with
    | tup ds =>
      have p1 : PostQ X.K C E g H1 Q ((match intsD ds with | some ns => if ns.length < 64 then ret (D.lst ((dsort ns).map D.int)) else stuck | none => stuck) t) := p1
      cases z : intsD ds with
      | none => rw [z] at p1; exact p1.elim
      | some ns =>
        rw [z] at p1
        have p1 : PostQ X.K C E g H1 Q ((if ns.length < 64 then ret (D.lst ((dsort ns).map D.int)) else stuck) t) := p1
        split at p1
        · rename_i hz
          obtain ⟨l, vs, rfl, e1, ra⟩ := rx.tup w
          rw [ra.intsD z] at e1
          refine ⟨l, ns, rfl, e1, by omega, fun a c hn hcl => ?_⟩
          refine ⟨a, _, c, rfl, upd_same, by omega, fun ms l2 k1 k2 k3 hl => ?_⟩
          have em : ms = dsort ns := pair_unique k1 (dsort_pair ns) fun y => by rw [k2 y, decide_eq_true_eq, dsort_mem]
          subst em
          have st1 : Stp g H1 g (upd H1 a (SetO X.w a (fun j => decide (j ∈ ns)) c)) := Stp.lay w hn
          have w1 : Wf C g (upd H1 a (SetO X.w a (fun j => decide (j ∈ ns)) c)) t := Wf.lay w hn
          exact pRetL (p1.stp st1) w1 (RpA.ofInts _) l2 hl
        · exact p1.elim
    | _ => exact p1.elim
end
end BG
set_option Elab.async false
set_option linter.all false
set_option maxRecDepth 100000
set_option maxHeartbeats 4000000
namespace BG
open PySem PySem.Spec PyProof.Rows L2
section
variable {P : Program} {w : World} {A : Around} {E : Value → Shared → Prop} {s : Shared}
/-- a new set -/
abbrev nwS (w : World) : Obj := { cls := .type "set", dict := none, data := .set #[] 0 (.fresh 0 0 (!w.params.followText "set-order")) }
set_option maxHeartbeats 3200000 in
/-- set(t), t a tuple of tuples of numbers -/
theorem call_set_tt {l : Addr} {items : Array Value} (ks : List (Addr × List Int)) {Q : Value → Shared → Prop} (hh : A.handled = none) (hl : s.heap.IsTuple l items) (hit : items.toList = ks.map fun p => Value.ref p.1)
    (hk : ∀ p ∈ ks, IsT P w s.heap p.2 p.1) (hfew : ks.length < 64) (hu : A.units + 3 < cLine)
    (h : ∀ (h' : Heap) (tk : Nat) L es ep t, SetTR P w h' s.heap.objs.size L es ep t → Got ks ks.length L → (∀ b o, s.heap.get? b = some o → h'.get? b = some o) → Q (.ref s.heap.objs.size) { s with heap := h', toks := tk }) :
    wpAny (model P w) A (call (.type "set") [.ref l]) Q E s := by
  have hisz : items.size = ks.length := by rw [← Array.length_toList, hit, List.length_map]
  obtain ⟨c, tl, hmro⟩ := F.called_set.mro
  have k1 := F.called_set.made
  have k2 := F.called_set.sub
  refine wpAny_call (codeAny_of_tree ?_)
  show wpAny _ _ (callAny (.type "set") _) _ _ _
  refine wpAny_pure ⟨Code.quiet_builtin _ (by decide +kernel), codeAny_builtin F.entry_type_call ?_⟩
  rw [Around.under_plain (weight_type_call_type "set" [.ref l] []) rfl]
  have k3 := F.called_set.notType
  have k4 := F.called_set.canCreate
  have k5 := F.typeCall_set_1 (.ref l)
  repeat (any_goals (first | assumption | wp_step))
  refine codeAny_mono (code_set_led1 (.ref l) (E := E) (Q₁ := fun obj s₁ => obj = .ref s.heap.objs.size ∧ s₁ = { s with heap := s.heap.push (nwS w) }) ⟨rfl, rfl⟩) fun r s₁ hr => ?_
  cases r with
  | error e => exact hr
  | ok fl =>
    cases fl with
    | ret obj =>
      obtain ⟨rfl, rfl⟩ := hr
      have hS : (s.heap.push (nwS w)).get? s.heap.objs.size = some (nwS w) := Heap.get?_push_size _ rfl
      have hT : Shared.TypeIs { s with heap := s.heap.push (nwS w) } (.ref s.heap.objs.size) "set" := ⟨_, hS, rfl⟩
      have k6 := F.called_set.init.lookup
      have k7 := F.called_set.init.bind (.ref s.heap.objs.size)
      repeat (any_goals (first | assumption | wp_step))
      refine codeAny_mono (codeAny_call_builtin (R := wants (fun r s₂ => r = .none ∧ ∃ h' tk L es ep t, s₂ = { s with heap := h', toks := tk } ∧ SetTR P w h' s.heap.objs.size L es ep t ∧ Got ks ks.length L ∧ (∀ b o, s.heap.get? b = some o → h'.get? b = some o)) E) F.called_set.init.plain F.entry_set_init (check_set_init_1 hT ?_)) fun r₂ s₂ hr₂ => ?_
      · obtain ⟨⟨ocls, odict, odata, oslots⟩, hol, hcl, nl, hdl⟩ := hl
        have hcl : ocls = .type "tuple" := hcl
        have hdl : odata = .seq items nl := hdl
        subst hcl hdl
        have hol' : (s.heap.push (nwS w)).get? l = some { cls := .type "tuple", dict := odict, data := .seq items nl, slots := oslots } := Heap.get?_push_of_some _ hol
        have k8 := F.sub_tuple_set
        have k9 := F.sub_tuple_frozenset
        have k10 : (Value.type "tuple" == Value.type "dict") = false := by decide
        have hl1 : (s.heap.push (nwS w)).IsTuple l items := ⟨_, hol', rfl, nl, rfl⟩
        unfold Builtin.«set.__init__» noKeywords Builtin.Frozenset.updateFrom
        generalize hPI : pyIter = PI
        wp_walk
        subst hPI
        refine wpAny_pyIter_tuple hl1 ?_
        refine wpAny_bind (wpAny_runValue ?_)
        have hlS : l < s.heap.objs.size := Heap.lt_size hol
        have zz : (s.heap.push (nwS w)).objs.size = s.heap.objs.size + 1 := Heap.size_push ..
        have hneI : l ≠ (s.heap.push (nwS w)).objs.size := by rw [zz]; exact Nat.ne_of_lt (Nat.lt_succ_of_lt hlS)
        have hSf : s.heap.objs.size ∉ [(s.heap.push (nwS w)).objs.size, l] := by
          rw [zz]
          intro hm
          rcases List.mem_cons.mp hm with e | e
          · exact absurd e (Nat.ne_of_lt (Nat.lt_succ_self _))
          · exact absurd (List.mem_singleton.mp e) (Nat.ne_of_gt hlS)
        have hval : ∀ (i : Nat) (v : Value), items[i]? = some v → ∃ p, ks[i]? = some p ∧ v = .ref p.1 := fun i v hv => by
          have q : (ks.map fun p => Value.ref p.1)[i]? = some v := by rw [← hit, Array.getElem?_toList]; exact hv
          rw [List.getElem?_map] at q
          obtain ⟨p, e1, e2⟩ := Option.map_eq_some_iff.mp q
          exact ⟨p, e1, e2.symm⟩
        have fresh : ∀ b, s.heap.objs.size ≤ b → s.heap.get? b = none := fun b hb => by
          cases q : s.heap.get? b with
          | none => rfl
          | some o => exact absurd (Nat.lt_of_lt_of_le (Heap.lt_size q) hb) (Nat.lt_irrefl _)
        refine set_update_tups ((Walks.tuple (A := A.in1.in1.in1) (by simp [hh]) _ l hneI items).toS) s.heap.objs.size hSf ks hisz hfew hval s.heap hk (fresh _ (Nat.le_refl _)) (fun b hb => fresh b (by rw [List.mem_singleton.mp hb, zz]; exact Nat.le_succ _)) hu (items.size - 0) 0 _ (by omega) (Nat.zero_le _)
          ⟨⟨_, Heap.get?_push_size _ rfl, rfl, rfl⟩, (hl1.push _)⟩ (fun b o e => Heap.get?_push_of_some _ (Heap.get?_push_of_some _ e)) ?hS0 ?hR
        case hS0 => exact ⟨[], #[], 0, _, setTR_fresh (Heap.get?_push_of_some _ hS), Got.zero ks⟩
        case hR =>
          intro s' L es ep t hm hS' g' hkp
          obtain ⟨h', g2, d', tk', os'⟩ := s'
          have eg : g2 = s.gens := hm.gens
          have ed : d' = s.drawn := hm.drawn
          have eo : os' = s.os := hm.os
          subst eg ed eo
          refine wpAny_pure ?_
          show wpAny _ _ (PySem.ret Value.none) _ _ _
          rw [hisz] at g'
          exact wpAny_pure ⟨rfl, h', tk', L, es, ep, t, rfl, hS', g', hkp⟩
      · cases r₂ with
        | error e => exact hr₂
        | ok fl₂ =>
          cases fl₂ with
          | ret r =>
            obtain ⟨rfl, h', tk, L, es, ep, t, rfl, hS', g', hk'⟩ := hr₂
            repeat (any_goals (first | assumption | wp_step))
            exact h _ _ _ _ _ _ hS' g' hk'
          | _ => exact hr₂.elim
    | _ => exact hr.elim
end
/-- tuples of numbers -/
def intsT : List D → Option (List (List Int))
  | [] => some []
  | .tup xs :: r => match intsD xs, intsT r with
    | some n, some m => some (n :: m)
    | _, _ => none
  | _ => none
def ddL : List (List Int) → List (List Int)
  | [] => []
  | x :: r => if r.contains x = true then ddL r else x :: ddL r
theorem ddL_mem {z : List Int} : ∀ {l : List (List Int)}, z ∈ ddL l ↔ z ∈ l
  | [] => Iff.rfl
  | x :: r => by
    unfold ddL
    split
    · rename_i h
      have hx : x ∈ r := List.contains_iff_mem.mp h
      rw [ddL_mem, List.mem_cons]
      exact ⟨.inr, fun h => h.elim (fun e => by rw [e]; exact hx) id⟩
    · rw [List.mem_cons, ddL_mem, List.mem_cons]
theorem ddL_nodup : ∀ l : List (List Int), (ddL l).Nodup
  | [] => List.nodup_nil
  | x :: r => by
    unfold ddL
    split
    · exact ddL_nodup r
    · rename_i h
      exact List.nodup_cons.mpr ⟨fun z => h (List.contains_iff_mem.mpr (ddL_mem.mp z)), ddL_nodup r⟩
theorem ndL_le : ∀ {a b : List (List Int)}, a.Nodup → (∀ x ∈ a, x ∈ b) → a.length ≤ b.length
  | [], _, _, _ => Nat.zero_le _
  | x :: r, b, h, hs => by
    obtain ⟨h1, h2⟩ := List.nodup_cons.mp h
    have hx : x ∈ b := hs x (List.mem_cons_self ..)
    have := ndL_le (a := r) (b := b.erase x) h2 fun y hy => (List.mem_erase_of_ne (fun e : y = x => h1 (by rw [← e]; exact hy))).mpr (hs y (List.mem_cons_of_mem _ hy))
    rw [List.length_erase_of_mem hx] at this
    have hp : 0 < b.length := List.length_pos_of_mem hx
    rw [List.length_cons]
    omega
theorem tups_of {K : PySem.W.Frag} {C : Cn} {g : G} {H : Hp} {t : Tn} (w : Wf C g H t) : ∀ {ds : List D} {vs : List V} {ms : List (List Int)}, RpA K g vs ds → intsT ds = some ms → ∃ ks : List (Addr × List Int), vs = ks.map (fun p => V.ref p.1) ∧ ks.map (·.2) = ms ∧ ∀ p ∈ ks, SqT K H p.1 (p.2.map V.int)
  | [], _, _, h, e => by cases h; cases e; exact ⟨[], rfl, rfl, fun _ h => nomatch h⟩
  | d :: ds, _, ms, h, e => by
    cases h with
    | cons a b =>
      cases d with
      | tup xs =>
        unfold intsT at e
        cases e1 : intsD xs with
        | none => rw [e1] at e; cases e
        | some n =>
          cases e2 : intsT ds with
          | none => rw [e1, e2] at e; cases e
          | some m =>
            rw [e1, e2] at e
            cases e
            obtain ⟨ks, h1, h2, h3⟩ := tups_of w b e2
            cases a with
            | @tup ad _ _ sq ra =>
              have ev := ra.intsD e1
              subst ev
              exact ⟨(ad, n) :: ks, by rw [List.map_cons, ← h1], by rw [List.map_cons, h2], fun p hp => by
                rcases List.mem_cons.mp hp with rfl | hp
                · exact Same.tseq w.fz sq.t
                · exact h3 p hp⟩
      | _ => cases e
def pLenSetT : D → M D
  | .tup ds => match intsT ds with
    | some ms => if ms.length < 64 then ret (.int (ddL ms).length) else stuck
    | none => stuck
  | _ => stuck
section
variable {X : Cx} {C : Cn} {E : XK}
theorem refs_vals : ∀ {ks : List (Addr × List Int)} {us : List Value}, Vals (ks.map fun p => V.ref p.1) us → us = ks.map fun p => Value.ref p.1
  | [], _, h => by cases h; rfl
  | p :: ks, _, h => by
    cases h with
    | cons r rs =>
      cases r
      rw [List.map_cons, refs_vals rs]
theorem ce_lenSetT {a : Expr} {fa : Ex} {p p2 q pos : Pos} (hc : X.calm = true) (hu : X.A.units + 64 < cLine) (hm : X.mg "len" = none) (hm2 : X.mg "set" = none) (ha : CW X C E a fa) (hg : Gl X "len" := by rfl) (hg2 : Gl X "set" := by rfl) (na : starEach [a] X.env = (false, eval a X.env) :: starEach [] X.env := by rfl) :
    CE X C E (.Call (.Name "len" p) [.Call (.Name "set" p2) [a] [] q] [] pos) (eUn pLenSetT fa) := ⟨fun pins s σ H Q I h => by
  have h := tW.seq (Q1 := fun x H1 => ∃ g t d, Wf C g H1 t ∧ RpW X.K g H1 x d ∧ PostQ X.K C E g H1 Q (pLenSetT d t)) h fun g S t x d H1 w s rx p1 => ⟨g, t, d, w, rx, p1⟩
  refine Call_ (ld_blt I hg hm boot_len ?_)
  refine PyProof.Rows.callWith_builtin1 (PyProof.Rows.args_cons ?_ rfl) rfl rfl
  refine Call_ (ld_blt I hg2 hm2 boot_set ?_)
  refine PyProof.Rows.callWith_type1 (PyProof.Rows.args_cons (thn (ha.run pins s σ H _ I h) fun v s1 ⟨x, H1, I1, r1, q1⟩ => PyProof.Rows.args_nil ?_) na) na rfl
  obtain ⟨g, t, d, w, rx, q1⟩ := q1
  cases d with
  | tup ds =>
    have q1 : PostQ X.K C E g H1 Q ((match intsT ds with | some ms => if ms.length < 64 then ret (D.int (ddL ms).length) else stuck | none => stuck) t) := q1
    cases z : intsT ds with
    | none => rw [z] at q1; exact q1.elim
    | some ms =>
      rw [z] at q1
      dsimp only at q1
      split at q1
      case isFalse => exact q1.elim
      rename_i hz
      obtain ⟨l, vs, rfl, e1, ra⟩ := rx.tup w
      obtain ⟨ks, ev, em, hsq⟩ := tups_of w ra z
      subst ev em
      rw [List.length_map] at hz
      cases r1
      obtain ⟨its, r, pl, hzz⟩ := I1.tuple e1
      refine call_set_tt (P := X.prog) (w := X.w) ks (I1.ok.hd hc) pl (by simpa using refs_vals r) (fun p hp => I1.isT (hsq p hp)) hz (by show X.A.units + 3 < cLine; omega) fun h' tk L es ep tt R G k => ?_
      refine PyProof.Rows.args_nil ?_
      have I2 : Inv X pins σ H1 { s1 with heap := h', toks := tk } := I1.kept fun b o e => k b o e
      obtain ⟨o, ho, hex, hd⟩ := R.ob
      have esz : es.size = (ddL (ks.map (·.2))).length := by
        have e0 := SetTR.size (s := { s1 with heap := h', toks := tk }) R
        have h1 : (L.map (·.2)).length ≤ (ddL (ks.map (·.2))).length := ndL_le R.nd fun y hy => by
          obtain ⟨p, hp, rfl⟩ := List.mem_map.mp hy
          exact ddL_mem.mpr (List.mem_map.mpr ⟨p, List.mem_of_mem_take (G.sub p hp), rfl⟩)
        have h2 : (ddL (ks.map (·.2))).length ≤ (L.map (·.2)).length := ndL_le (ddL_nodup _) fun y hy => by
          obtain ⟨p, hp, rfl⟩ := List.mem_map.mp (ddL_mem.mp hy)
          exact G.all p (by rw [List.take_length]; exact hp)
        rw [List.length_map] at h1 h2
        omega
      have few := R.few
      have e0 := SetTR.size (s := { s1 with heap := h', toks := tk }) R
      exact call_len_set ho hex hd (SetTR.fits (s := { s1 with heap := h', toks := tk }) R) (by omega) ⟨.int (ddL (ks.map (·.2))).length, H1, I2.tok _, ⟨_, by rw [esz]⟩, pRetV q1 w (Rp.int _)⟩
  | _ => exact q1.elim⟩
end
end BG
set_option Elab.async false
set_option linter.all false
set_option maxRecDepth 100000
set_option maxHeartbeats 4000000
namespace BG
open PySem PySem.Spec PyProof.Rows L2
open AutoSeq1 in
theorem meets_ext_tup (l : Addr) (items : Array Value) (n : Nat) (b : Addr) (more : Array Value) (m : Nat) (dd : Option Addr) (sl : Array (Option Value)) (z0 : ¬(!items.isEmpty && Builtin.List.listTooLong (items.size + more.size)) = true) (z1 : items.size ≤ sizeLine) (z2 : items.size + more.size ≤ sizeLine + 1) :
    Meets (Builtin.«list.extend» ⟨[.ref l, .ref b], []⟩) (fun _ R s => s.heap.get? l = some { cls := .type "list", dict := none, data := .seq items n, slots := #[] } ∧ s.heap.get? b = some { cls := .type "tuple", dict := dd, data := .seq more m, slots := sl } ∧ R (.ok (.ret Value.none)) { s with heap := s.heap.update l (Obj.mapSeq fun x => x ++ more), toks := s.toks }) :=
  .of_wp fun prog w A R s h => by
    obtain ⟨hp, g, d, tk, os⟩ := s
    obtain ⟨hl, hb, h⟩ := h
    have g1 := idx_int
    have g2 := AutoSeq1.sub_tuple_tuple
    have g3 := AutoSeq1.sub_list_list
    have g4 := AutoSeq1.sub_tuple_list
    have g5 := AutoSeq1.sub_list_tuple
    have zz : (items ++ more).size ≤ sizeLine + 1 := by rw [Array.size_append]; exact z2
    wp_walk using (wpAny_updateSeq hl rfl (hz := z1) (_hz' := zz)), wpAny_loadPart' hl, wpAny_loadPart' hb
    exact ⟨_, rfl, h⟩
section
variable {X : Cx} {C : Cn} {E : XK}
def rExtT (K : PySem.W.Frag) : V → List V → Hp → VK → Prop := fun x vs H Q => ∃ l b xs zs, x = .ref l ∧ vs = [.ref b] ∧ H l = some (.lst xs) ∧ SqT K H b zs ∧ xs.length + zs.length ≤ sizeLine ∧ Q .non (upd H l (.lst (xs ++ zs)))
theorem mt_extT : MtM X "list.extend" (rExtT X.K) := fun pins s σ H x vs v us Q I rx rv h => by
  obtain ⟨l, b, xs, zs, rfl, rfl, hH, hB, hz, q⟩ := h
  cases rx
  obtain ⟨u, rfl, ru⟩ := rv.one
  cases ru
  obtain ⟨z, its, n, r, hl, e⟩ := I.lstM hH
  obtain ⟨ws, r2, ⟨⟨cl, dd, dt, slt⟩, ho, hcl, m, hdt⟩, _⟩ := I.tuple hB
  have ecl : cl = .type "tuple" := hcl
  have edt : dt = .seq ws.toArray m := hdt
  subst ecl edt
  have l1 := r.length
  have l2 := r2.length
  have hsz : its.toArray.size + ws.toArray.size ≤ sizeLine := by rw [List.size_toArray, List.size_toArray]; omega
  have hlong : ¬ (!its.toArray.isEmpty && Builtin.List.listTooLong (its.toArray.size + ws.toArray.size)) = true := by rw [notLongL hsz, Bool.and_false]; exact Bool.false_ne_true
  refine call_meets F.slot_list_extend ⟨_, e, rfl⟩ F.entry_list_extend (F.args_list_extend_2 _ _) (meets_ext_tup l its.toArray n b ws.toArray m dd slt hlong (by rw [List.size_toArray]; omega) (by omega)) ⟨e, ho, ?_⟩
  refine ⟨.non, _, I.lset (its' := its ++ ws) hH e (by simp) (r.append r2) ?_, rfl, q⟩
  rw [List.length_append]; omega
/-- x.extend(e), e a tuple -/
def sExtT (i : Nat) (e : Ex) : Stm := fun S => match S[i]? with
  | some (.own _) => bnd (e S) fun d => match S[i]?, d with
    | some (.own ds), .tup es => if ds.length + es.length ≤ sizeLine then ret (.nx (S.set i (.own (ds ++ es)))) else stuck
    | _, _ => stuck
  | _ => stuck
theorem cs_extT (i : Nat) {x : Str} {e : Expr} {f : Ex} {p1 apos cpos pos : Pos} (he : CW X C E e f) (hN : X.N[i]? = some x := by rfl) (hv : Vis X.env.scope x := by first | exact Or.inl rfl | exact Or.inr (Or.inl rfl) | exact Or.inr (Or.inr rfl)) (hd : (x == ("__debug__" : Str)) = false := by decide)
    (hcd : (x == ("__classdict__" : Str)) = false := by decide) (hbase : attributeBase (.Name x p1) "extend" X.env (eval (.Name x p1) X.env) = eval (.Name x p1) X.env := by rfl)
    (hfew : ((backTo cpos (starEach [e] X.env)).all (fun x => !x.1) && (backToKw cpos (keywordEach [] X.env)).all (fun x => x.1.isSome) && decide ([e].length + ([] : List Keyword).length + (if ([] : List Keyword).isEmpty then 0 else 1) < 30)) = true := by rfl)
    (hline : (apos.endLine == cpos.line) = true := by rfl) (hs : starEach [e] X.env = (false, eval e X.env) :: starEach [] X.env := by rfl) (hplain : (backTo cpos (starEach [] X.env)).any (·.1) = false := by rfl) (hsw : swapsWith (.Call (.Attribute (.Name x p1) "extend" apos) [e] [] cpos) none pos.line X.env = pure false := by rfl) :
    CS X C E (.Expr (.Call (.Attribute (.Name x p1) "extend" apos) [e] [] cpos) pos) (sExtT i f) :=
  PS.imp (ps_expr (pe_bm PySem.F.plainAttrs_list PySem.F.slot_list_extend PySem.F.type_list_extend mt_extT (pe_var hN hv hd hcd) (pa_cons he pa_nil hs) hbase hfew hline hs hplain) hsw) fun De σ H ⟨g0, H0, gs, g, S, t, st, gr, w, s, o, p⟩ => by
    unfold sExtT at p
    cases e : S[i]? with
    | none => rw [e] at p; exact p.elim
    | some sv =>
      rw [e] at p
      cases sv with
      | own ds =>
        obtain ⟨a, vs, h1, h2, h3, h4⟩ := s.own i ds e
        refine ⟨_, h1, .inl ⟨rfl, vs, .of h2⟩, tS.exW st gr w s p fun d t1 g1 H1 v st1 st01 gr1 w1 s1 r q => ?_⟩
        cases d with
        | tup es =>
          have q : Post C E g0 H0 (Rs X.K H0 gs De) ((if ds.length + es.length ≤ sizeLine then ret (Fl.nx (S.set i (.own (ds ++ es)))) else stuck) t1) := q
          split at q
          · rename_i hz
            obtain ⟨a', vs', k1, k2, k3, k4⟩ := s1.own i ds e
            rw [h1] at k1
            cases k1
            obtain ⟨b, us, rfl, m1, m2⟩ := r.tup w1
            refine ⟨a, b, vs', us, rfl, rfl, k2, m1, by rw [k3.length, m2.length]; exact hz, ?_⟩
            exact q g1 _ (st01.updO (o i _ a e rfl h1)) (w1.updL k2 k4) _ gr1 (s1.updO e h1 (k3.app m2)) (o.updO e)
          · exact q.elim
        | _ => exact q.elim
      | _ => exact p.elim
end
end BG
set_option Elab.async false
set_option linter.all false
set_option maxRecDepth 100000
set_option maxHeartbeats 4000000
namespace BL
open PySem PySem.Spec PyProof.Rows L2 BG
def c_SAME : D := (.tup [(.int 0), (.int 1), (.int 2), (.int 3), (.int 4), (.int 5), (.int 6), (.int 7)])
def b_is_between : Stm := (sRet (eAnd (eUn (pIsi .int) (eVar 0)) (eAnd (eUn oNot (eUn (pIsi .bool) (eVar 0))) (eChain pLe pLe (eVar 1) (eVar 0) (eVar 2)))))
def f_is_between : Fn := fnOf 3 b_is_between
def b_is_exchange : Stm := (sSeq (sIf (eOr (eUn oNot (eUn (pIsi .tuple) (eVar 0))) (eOr (eBin pNe (eUn bLen (eVar 0)) (eC (.int 8))) (eUn oNot (eUn bAll (eComp [1] (itSeq (eVar 0)) (gN 1) (eC (.bl true)) (eCall f_is_between [(eVar 1), (eC (.int 0)), (eC (.int 7))])))))) (sRet (eC (.bl false))) sNil)
    (sRet (eBin pEq (eUn pLenSet (eVar 0)) (eC (.int 8)))))
def f_is_exchange : Fn := fnOf 2 b_is_exchange
def b_law_draw : Stm := (sSeq (sTC 1 (eBin pAdd (eTC 1) (eC (.int 1))))
    (sSeq (sAsg 3 (eIf (eScr 0) (eBin pMod (eTC 1) (eUn bLen (eVar 0))) (eC (.int 0))))
    (sSeq (sAsg 4 (eTR 1 (eVar 3) (eIf (eScr 0) (eBin pIdx (eVar 0) (eVar 3)) (eC (.int 0)))))
    (sSeq (sIf (eBin pGe (eVar 4) (eBin pPow (eC (.int 10)) (eC (.int 18)))) (sSeq (sTR 1 (eVar 3) (eBin pDiv (eVar 4) (eVar 2)))
    (sRet (eBin pMod (eVar 4) (eVar 2)))) sNil)
    (sSeq (sAsg 5 (eBin pMod (eBin pAdd (eVar 4) (eBin pMul (eC (.int 104729)) (eTC 1))) (eC (.int 4294967291))))
    (sSeq (sAsg 5 (eBin pMod (eBin pPow (eVar 5) (eC (.int 5))) (eC (.int 4294967279))))
    (sRet (eBin pMod (eBin pDiv (eBin pMod (eBin pAdd (eBin pMul (eBin pDiv (eVar 5) (eC (.int 64))) (eC (.int 69621))) (eVar 5)) (eC (.int 4294967231))) (eC (.int 8))) (eVar 2)))))))))
def f_law_draw : Fn := fnOf 6 b_law_draw
def b_law_begun : Stm := (sRet eBegun)
def f_law_begun : Fn := fnOf 0 b_law_begun
def b_law_exchange : Stm := (sSeq (sParO 2 3 (eUn pRng (eC (.int 8))) (eLst []))
    (sSeq (sFor (itRange1 (eC (.int 8))) (gN 4)
    (sSeq (sAsg 5 (eCall f_law_draw [(eVar 0), (eVar 1), (eUn bLen (eVar 2))]))
    (sSeq (sApp 3 (eBin pIdx (eVar 2) (eVar 5)))
    (sAsg 2 (eBin pAdd (eSlice (eVar 2) none (some (eVar 5))) (eSlice (eVar 2) (some (eBin pAdd (eVar 5) (eC (.int 1)))) none))))))
    (sRet (eUn bTuple (ePeek 3)))))
def f_law_exchange : Fn := fnOf 6 b_law_exchange
def b_check_function : Stm := (sSeq (sIf (eOr (eUn oNot (eUn (pIsi .tuple) (eVar 0))) (eBin pNe (eUn bLen (eVar 0)) (eC (.int 8)))) (sRaise 6) sNil)
    (sIf (eUn oNot (eUn bAll (eComp [1] (itSeq (eVar 0)) (gN 1) (eC (.bl true)) (eCall f_is_between [(eVar 1), (eC (.int 0)), (eC (.int 7))])))) (sRaise 6) sNil))
def f_check_function : Fn := fnOf 2 b_check_function
def b_further_bits : Stm := (sSeq (sExpr (eCall f_check_function [(eVar 0)]))
    (sSeq (sPar3 1 2 3 (eUn bMax (eComp [4] (itSeq (eC c_SAME)) (gN 4) (eC (.bl true)) (eTM pCnt (eVar 0) (eVar 4)))) (eC (.int 0)) (eC (.int 1)))
    (sSeq (sWhile 1000000 (eBin pLt (eVar 3) (eVar 1))
    (sPar 2 3 (eBin pAdd (eVar 2) (eC (.int 1))) (eBin pMul (eC (.int 2)) (eVar 3))))
    (sRet (eVar 2)))))
def f_further_bits : Fn := fnOf 5 b_further_bits
def b_parts : Stm := (sSeq (sExpr (eCall f_check_function [(eVar 0)]))
    (sSeq (sOwn 1 (eLst []))
    (sSeq (sFor (itSeq (eUn pSrtSet (eVar 0))) (gN 2)
    (sApp 1 (eTup [(eVar 2), (eUn bTuple (eComp [3] (itSeq (eC c_SAME)) (gN 3) (eBin pEq (eBin pIdx (eVar 0) (eVar 3)) (eVar 2)) (eVar 3)))])))
    (sRet (eUn bTuple (ePeek 1))))))
def f_parts : Fn := fnOf 4 b_parts
def b_completed : Stm := (sSeq (sExpr (eCall f_check_function [(eVar 0)]))
    (sRet (eUn bTuple (eComp [1, 2] (itEnum (eVar 0)) (gP 1 2) (eC (.bl true)) (eTup [(eVar 2), (eTM pCnt (eSlice (eVar 0) none (some (eVar 1))) (eVar 2))])))))
def f_completed : Fn := fnOf 3 b_completed
def b_law_function : Stm := (sSeq (sAsg 2 (eCall f_law_draw [(eVar 0), (eVar 1), (eC (.int 4))]))
    (sSeq (sIf (eBin pEq (eVar 2) (eC (.int 0))) (sRet (eCall f_law_exchange [(eVar 0), (eVar 1)])) sNil)
    (sSeq (sAsg 3 (eBin pIdx (eTup [(eC (.int 8)), (eC (.int 4)), (eC (.int 2))]) (eBin pSub (eVar 2) (eC (.int 1)))))
    (sRet (eUn bTuple (eComp [4] (itRange1 (eC (.int 8))) (gN 4) (eC (.bl true)) (eCall f_law_draw [(eVar 0), (eVar 1), (eVar 3)])))))))
def f_law_function : Fn := fnOf 5 b_law_function
end BL
set_option Elab.async false
set_option linter.all false
set_option maxRecDepth 100000
set_option maxHeartbeats 4000000
namespace K18
open PySem PySem.Spec PyProof.Rows L2 BG BL
def b_law_parted : Stm := (sSeq (sOwn 2 (eLst []))
    (sSeq (sFor (itSeq (eCall f_parts [(eVar 0)])) (gP 3 4)
    (sSeq (sExtT 2 (eVar 4))
    (sSeq (sIf (eOr (eBin pNe (eComp [5] (itSeq (eVar 4)) (gN 5) (eBin pNe (eBin pIdx (eVar 0) (eVar 5)) (eVar 3)) (eVar 5)) (eLst [])) (eBin pNe (eUn bList (eVar 4)) (eUn pSrtSet (eVar 4)))) (sRet (eC (.bl false))) sNil)
    (sIf (eBin pNe (eUn bSortedA (eComp [5] (itSeq (eVar 4)) (gN 5) (eC (.bl true)) (eBin pIdx (eBin pIdx (eVar 1) (eVar 5)) (eC (.int 1))))) (eUn pRng (eUn bLen (eVar 4)))) (sRet (eC (.bl false))) sNil))))
    (sRet (eAnd (eBin pEq (eUn bSortedA (ePeek 2)) (eUn pRng (eC (.int 8)))) (eBin pEq (eComp [3, 4] (itSeq (eCall f_parts [(eVar 0)])) (gP 3 4) (eC (.bl true)) (eVar 3)) (eUn pSrtSet (eVar 0)))))))
def f_law_parted : Fn := fnOf 6 b_law_parted
def b_law : Stm := (sSeq (sAsg 1 (eCall f_law_begun []))
    (sSeq (sFor (itRange1 (eC (.int 5))) (gN 2)
    (sSeq (sAsg 3 (eCall f_law_function [(eVar 0), (eVar 1)]))
    (sSeq (sPar 4 5 (eCall f_further_bits [(eVar 3)]) (eCall f_completed [(eVar 3)]))
    (sSeq (sIf (eOr (eBin pNe (eUn pLenSetT (eVar 5)) (eC (.int 8))) (eBin pNe (eComp [11, 12] (itSeq (eVar 5)) (gP 11 12) (eC (.bl true)) (eVar 11)) (eUn bList (eVar 3)))) (sRet (eC (.bl false))) sNil)
    (sSeq (sAsg 6 (eBin pAdd (eUn bMax (eComp [11, 12] (itSeq (eVar 5)) (gP 11 12) (eC (.bl true)) (eVar 12))) (eC (.int 1))))
    (sSeq (sIf (eOr (eBin pGt (eVar 6) (eBin pIdx (eTup [(eC (.int 1)), (eC (.int 2)), (eC (.int 4)), (eC (.int 8))]) (eVar 4))) (eAnd (eBin pGt (eVar 4) (eC (.int 0))) (eBin pLe (eVar 6) (eBin pIdx (eTup [(eC (.int 1)), (eC (.int 2)), (eC (.int 4)), (eC (.int 8))]) (eBin pSub (eVar 4) (eC (.int 1))))))) (sRet (eC (.bl false))) sNil)
    (sSeq (sIf (eOr (eBin pNe (eBin pEq (eVar 4) (eC (.int 0))) (eCall f_is_exchange [(eVar 3)])) (eBin pNe (eVar 6) (eUn bMax (eComp [11, 13] (itSeq (eCall f_parts [(eVar 3)])) (gP 11 13) (eC (.bl true)) (eUn bLen (eVar 13)))))) (sRet (eC (.bl false))) sNil)
    (sSeq (sAsg 7 (eCall f_law_exchange [(eVar 0), (eVar 1)]))
    (sSeq (sAsg 8 (eUn bTuple (eComp [10] (itSeq (eVar 7)) (gN 10) (eC (.bl true)) (eBin pIdx (eVar 3) (eVar 10)))))
    (sSeq (sAsg 9 (eUn bTuple (eComp [10] (itSeq (eVar 3)) (gN 10) (eC (.bl true)) (eBin pIdx (eVar 7) (eVar 10)))))
    (sSeq (sIf (eOr (eBin pNe (eCall f_further_bits [(eVar 8)]) (eVar 4)) (eOr (eBin pNe (eCall f_further_bits [(eVar 9)]) (eVar 4)) (eBin pNe (eCall f_further_bits [(eVar 7)]) (eC (.int 0))))) (sRet (eC (.bl false))) sNil)
    (sIf (eOr (eUn oNot (eCall f_law_parted [(eVar 3), (eVar 5)])) (eBin pNe (eUn bLen (eCall f_parts [(eVar 9)])) (eUn bLen (eCall f_parts [(eVar 3)])))) (sRet (eC (.bl false))) sNil))))))))))))
    (sRet (eC (.bl true)))))
def f_law : Fn := fnOf 14 b_law
end K18
set_option Elab.async false
set_option linter.all false
set_option maxRecDepth 100000
set_option maxHeartbeats 4000000
namespace K18
open PySem PySem.Spec PyProof.Rows L2 BG BL
def topS (i : Nat) : Stmt := PySem.Challenge.pw_backgates_k18_whole_functions.main.body.getD i (.Pass ⟨0, 0, 0, 0⟩)
structure Mg (K : PySem.W.Frag) (mg : Str → Option Value) (C : Cn) : Prop extends Bt mg where
  cSAME : ∃ a, mg "SAME" = some (.ref a) ∧ ∀ g, Rp K g (.ref a) c_SAME
  eInvalidFunction : mg "InvalidFunction" = some (.ref (C.ex 6)) ∧ PySem.W.excIn K (C.ex 6) [.type "ValueError", .type "Exception", .type "BaseException", .type "object"] "ValueError.__new__" = true ∧ PySem.W.keepIn K (.ref (C.ex 6)) = true ∧ PySem.W.subIn K (.ref (C.ex 6)) (.type "BaseException") = true ∧ PySem.W.typeIn K (.ref (C.ex 6)) = some (.type "type")
theorem g_SAME {X : Cx} {C : Cn} {E : XK} {pos : Pos} (M : Mg X.K X.mg C) (hg : Gl X "SAME" := by rfl) : CE X C E (.Name "SAME" pos) (eC c_SAME) := by
  obtain ⟨a, h1, h2⟩ := M.cSAME
  exact ce_glob (v := .ref a) h1 rfl h2 hg
theorem x_InvalidFunction {X : Cx} {C : Cn} {E : XK} {m : Str} {j : Nat} {p p2 pos pos' : Pos} (M : Mg X.K X.mg C) (tk : Takes X (fun cls d _ H => E cls d H)) (hc : X.calm = true := by rfl) (hg : Gl X "InvalidFunction" := by rfl) : CS X C E (.Raise (some (.Call (.Name "InvalidFunction" p) [.Constant (.str m) j p2] [] pos)) none pos') (sRaise 6) := by
  obtain ⟨h1, h2, h3, h4, h5⟩ := M.eInvalidFunction
  exact cs_raise (W := fun cls d _ H => E cls d H) 6 PySem.F.excBase_ValueError h2 h1 h3 (raises_own h4 h5) tk hc hg
section
variable {P : Program} {w : World} {K : PySem.W.Frag} {mg : Str → Option Value} {base : Heap} {C : Cn}
abbrev s_is_between : Stmt := topS 5
theorem sc_is_between : FnScope ["value", "low", "high"] ["value", "low", "high"] (defScope s_is_between) := ⟨rfl, rfl, rfl, by decide +kernel, rfl, by decide +kernel, by decide +kernel⟩
theorem ok_is_between {f : Addr} {fd : FuncData} (M : Mg K mg C) (F : Fun K "is_between" "is_between" s_is_between f fd)  :
    FnOk P w K mg base (L2.CX P w) 1 f fd ["value", "low", "high"] (spF K C 3 f_is_between) :=
  fn_ok (N := ["value", "low", "high"]) F sc_is_between fun cdv A outer s H E hr =>
    (css_one (cs_ret (ce_and (ce_isi .int M.isinstance M.int bt_int (e2w (ce_var 0))) (ce_and (ce_not (ce_isi .bool M.isinstance M.bool bt_bool (e2w (ce_var 0)))) (ce_one (ce_chain bin_le bin_le (e2w (ce_var 1)) (e2w (ce_var 0)) (e2w (ce_var 2))))))))
abbrev s_is_exchange : Stmt := topS 6
theorem sc_is_exchange : FnScope ["value", "word"] ["value"] (defScope s_is_exchange) := ⟨rfl, rfl, rfl, by decide +kernel, rfl, by decide +kernel, by decide +kernel⟩
theorem ok_is_exchange {f : Addr} {fd : FuncData} (M : Mg K mg C) (F : Fun K "is_exchange" "is_exchange" s_is_exchange f fd) (fd_is_between : Fd P w K mg base C 1 "is_between" 3 f_is_between) :
    FnOk P w K mg base (L2.CX P w) 2 f fd ["value"] (spF K C 1 f_is_exchange) :=
  fn_ok (N := ["value", "word"]) F sc_is_exchange fun cdv A outer s H E hr =>
    (css_cons (cs_if (ct_w (cw_or (ct_not (ct_val (ce_isi .tuple M.isinstance M.tuple bt_tuple (e2w (ce_var 0))))) (cw_or (ct_cmp (bin_ne hr.units) (e2w (ce_callB1 cr_len M.len bt_len (e2w (ce_var 0)))) (e2w ce_int)) (pw_or1 (ct_not (ct_val (ce_callB1 (cr_allD rfl) M.all bt_all (f2w (cf_comp (own := [("word", 1)]) (is := [1]) rfl sc_is_exchange.nd (ciw_seq (e2w (ce_var 0))) (blkOk_by (N := ["value", "word"]) (sc := (defScope s_is_exchange)) (by decide +kernel)) (by decide) (fun _ _ _ _ _ => (cg_name 1 sc_is_exchange.nd)) (fun _ _ _ _ _ => cts_nil) (fun _ _ _ _ _ => (ce_call fd_is_between hr (by decide) passL (ca_cons (ce_var 1) (ca_cons ce_int (ca_cons ce_int ca_nil)))))))))))))) (css_one (cs_ret ce_bl)) css_nil)
    (css_one (cs_ret (ce_cmp (bin_eq hr.units) (e2w (ce_lenSet rfl M.len M.set (e2w (ce_var 0)))) (e2w ce_int)))))
abbrev s_check_function : Stmt := topS 8
theorem sc_check_function : FnScope ["function", "word"] ["function"] (defScope s_check_function) := ⟨rfl, rfl, rfl, by decide +kernel, rfl, by decide +kernel, by decide +kernel⟩
theorem ok_check_function {f : Addr} {fd : FuncData} (M : Mg K mg C) (F : Fun K "check_function" "check_function" s_check_function f fd) (fd_is_between : Fd P w K mg base C 1 "is_between" 3 f_is_between) :
    FnOk P w K mg base (L2.CX P w) 2 f fd ["function"] (spF K C 1 f_check_function) :=
  fn_ok (N := ["function", "word"]) F sc_check_function fun cdv A outer s H E hr =>
    (css_cons (cs_if (ct_w (cw_or (ct_not (ct_val (ce_isi .tuple M.isinstance M.tuple bt_tuple (e2w (ce_var 0))))) (pw_or1 (ct_cmp (bin_ne hr.units) (e2w (ce_callB1 cr_len M.len bt_len (e2w (ce_var 0)))) (e2w ce_int))))) (css_one (x_InvalidFunction M (takes_of rfl rfl rfl rfl))) css_nil)
    (css_one (cs_if (ct_not (ct_val (ce_callB1 (cr_allD rfl) M.all bt_all (f2w (cf_comp (own := [("word", 1)]) (is := [1]) rfl sc_check_function.nd (ciw_seq (e2w (ce_var 0))) (blkOk_by (N := ["function", "word"]) (sc := (defScope s_check_function)) (by decide +kernel)) (by decide) (fun _ _ _ _ _ => (cg_name 1 sc_check_function.nd)) (fun _ _ _ _ _ => cts_nil) (fun _ _ _ _ _ => (ce_call fd_is_between hr (by decide) passL (ca_cons (ce_var 1) (ca_cons ce_int (ca_cons ce_int ca_nil)))))))))) (css_one (x_InvalidFunction M (takes_of rfl rfl rfl rfl))) css_nil)))
abbrev s_further_bits : Stmt := topS 9
theorem sc_further_bits : FnScope ["function", "many", "bits", "size", "word"] ["function"] (defScope s_further_bits) := ⟨rfl, rfl, rfl, by decide +kernel, rfl, by decide +kernel, by decide +kernel⟩
theorem ok_further_bits {f : Addr} {fd : FuncData} (M : Mg K mg C) (F : Fun K "further_bits" "further_bits" s_further_bits f fd) (fd_check_function : Fd P w K mg base C 2 "check_function" 1 f_check_function) :
    FnOk P w K mg base (L2.CX P w) 3 f fd ["function"] (spF K C 1 f_further_bits) :=
  fn_ok (N := ["function", "many", "bits", "size", "word"]) F sc_further_bits fun cdv A outer s H E hr =>
    (css_cons (cs_expr (ce_call fd_check_function hr (by decide) passC (ca_cons (ce_var 0) ca_nil)))
    (css_cons (cs_par3 1 2 3 sc_further_bits.nd (ce_callB1 (cr_maxD rfl) M.max bt_max (f2w (cf_comp (own := [("word", 4)]) (is := [4]) rfl sc_further_bits.nd (ciw_seq (e2w (g_SAME M))) (blkOk_by (N := ["function", "many", "bits", "size", "word"]) (sc := (defScope s_further_bits)) (by decide +kernel)) (by decide) (fun _ _ _ _ _ => (cg_name 4 sc_further_bits.nd)) (fun _ _ _ _ _ => cts_nil) (fun _ _ _ _ _ => (ce_tcnt hr.u65 (ce_var 0) (ce_var 4)))))) ce_int ce_int)
    (css_cons (cs_while (n := 1000000) (ct_cmp bin_lt (e2w (ce_var 3)) (e2w (ce_var 1)))
    (css_one (cs_par 2 3 sc_further_bits.nd (ce_bin bin_add (e2w (ce_var 2)) (e2w ce_int)) (ce_bin bin_mul (e2w ce_int) (e2w (ce_var 3))))))
    (css_one (cs_ret (ce_var 2))))))
abbrev s_parts : Stmt := topS 10
theorem sc_parts : FnScope ["function", "found", "value", "word"] ["function"] (defScope s_parts) := ⟨rfl, rfl, rfl, by decide +kernel, rfl, by decide +kernel, by decide +kernel⟩
theorem ok_parts {f : Addr} {fd : FuncData} (M : Mg K mg C) (F : Fun K "parts" "parts" s_parts f fd) (fd_check_function : Fd P w K mg base C 2 "check_function" 1 f_check_function) :
    FnOk P w K mg base (L2.CX P w) 3 f fd ["function"] (spF K C 1 f_parts) :=
  fn_ok (N := ["function", "found", "value", "word"]) F sc_parts fun cdv A outer s H E hr =>
    (css_cons (cs_expr (ce_call fd_check_function hr (by decide) passC (ca_cons (ce_var 0) ca_nil)))
    (css_cons (cs_own 1 sc_parts.nd (cf_lst ca_nil))
    (css_cons (cs_for rfl (ci_seq (ce_srtSet rfl M.sorted M.set (e2w (ce_var 0)))) (cg_name 2 sc_parts.nd)
    (css_one (cs_app 1 (ce_tup (ca_cons (ce_var 2) (ca_cons (ce_callTy1 cr_tuple M.tuple bt_tuple (f2w (cf_comp (own := [("word", 3)]) (is := [3]) rfl sc_parts.nd (ciw_seq (e2w (g_SAME M))) (blkOk_by (N := ["function", "found", "value", "word"]) (sc := (defScope s_parts)) (by decide +kernel)) (by decide) (fun _ _ _ _ _ => (cg_name 3 sc_parts.nd)) (fun _ _ _ _ _ => (cts_one (ct_cmp (bin_eq hr.units) (e2w (ce_ix (e2w (ce_var 0)) (e2w (ce_var 3)))) (e2w (ce_var 2))))) (fun _ _ _ _ _ => (ce_var 3))))) ca_nil))))))
    (css_one (cs_ret (ce_callTy1 cr_tuple M.tuple bt_tuple (cw_peek 1)))))))
abbrev s_completed : Stmt := topS 11
theorem sc_completed : FnScope ["function", "word", "value"] ["function"] (defScope s_completed) := ⟨rfl, rfl, rfl, by decide +kernel, rfl, by decide +kernel, by decide +kernel⟩
theorem ok_completed {f : Addr} {fd : FuncData} (M : Mg K mg C) (F : Fun K "completed" "completed" s_completed f fd) (fd_check_function : Fd P w K mg base C 2 "check_function" 1 f_check_function) :
    FnOk P w K mg base (L2.CX P w) 3 f fd ["function"] (spF K C 1 f_completed) :=
  fn_ok (N := ["function", "word", "value"]) F sc_completed fun cdv A outer s H E hr =>
    (css_cons (cs_expr (ce_call fd_check_function hr (by decide) passC (ca_cons (ce_var 0) ca_nil)))
    (css_one (cs_ret (ce_callTy1 cr_tuple M.tuple bt_tuple (f2w (cf_comp (own := [("word", 1), ("value", 2)]) (is := [1, 2]) rfl sc_completed.nd (ci_w (ci_enum M.enumerate (ce_var 0))) (blkOk_by (N := ["function", "word", "value"]) (sc := (defScope s_completed)) (by decide +kernel)) (by decide) (fun _ _ _ _ _ => (cg_pair 1 2 sc_completed.nd)) (fun _ _ _ _ _ => cts_nil) (fun _ _ _ _ _ => (ce_tup (ca_cons (ce_var 2) (ca_cons (ce_tcnt hr.u65 (ce_slice (e2w (ce_var 0)) co_none (co_some (ce_var 1))) (ce_var 2)) ca_nil))))))))))
abbrev s_law_draw : Stmt := topS 13
theorem sc_law_draw : FnScope ["script", "town", "many", "at", "rest", "number"] ["script", "town", "many"] (defScope s_law_draw) := ⟨rfl, rfl, rfl, by decide +kernel, rfl, by decide +kernel, by decide +kernel⟩
theorem ok_law_draw {f : Addr} {fd : FuncData} (M : Mg K mg C) (F : Fun K "_law_draw" "_law_draw" s_law_draw f fd)  :
    FnOk P w K mg base (L2.CX P w) 1 f fd ["script", "town", "many"] (spF K C 3 f_law_draw) :=
  fn_ok (N := ["script", "town", "many", "at", "rest", "number"]) F sc_law_draw fun cdv A outer s H E hr =>
    (css_cons (cs_tc 1 hr.u1 (ce_bin bin_add (e2w (ce_tc 1 hr.u1)) (e2w ce_int)))
    (css_cons (cs_asg 3 sc_law_draw.nd (ce_if (ct_scr 0) (ce_bin bin_mod (e2w (ce_tc 1 hr.u1)) (e2w (ce_callB1 cr_len M.len bt_len (e2w (ce_var 0))))) ce_int))
    (css_cons (cs_asg 4 sc_law_draw.nd (ce_tr 1 hr.u1 (ce_var 3) (ce_if (ct_scr 0) (ce_ix (e2w (ce_var 0)) (e2w (ce_var 3))) ce_int)))
    (css_cons (cs_if (ct_cmp bin_ge (e2w (ce_var 4)) (e2w (ce_bin bin_pow (e2w ce_int) (e2w ce_int)))) (css_cons (cs_tr 1 hr.u1 (ce_bin bin_div (e2w (ce_var 4)) (e2w (ce_var 2))) (ce_var 3))
    (css_one (cs_ret (ce_bin bin_mod (e2w (ce_var 4)) (e2w (ce_var 2)))))) css_nil)
    (css_cons (cs_asg 5 sc_law_draw.nd (ce_bin bin_mod (e2w (ce_bin bin_add (e2w (ce_var 4)) (e2w (ce_bin bin_mul (e2w ce_int) (e2w (ce_tc 1 hr.u1)))))) (e2w ce_int)))
    (css_cons (cs_asg 5 sc_law_draw.nd (ce_bin bin_mod (e2w (ce_bin bin_pow (e2w (ce_var 5)) (e2w ce_int))) (e2w ce_int)))
    (css_one (cs_ret (ce_bin bin_mod (e2w (ce_bin bin_div (e2w (ce_bin bin_mod (e2w (ce_bin bin_add (e2w (ce_bin bin_mul (e2w (ce_bin bin_div (e2w (ce_var 5)) (e2w ce_int))) (e2w ce_int))) (e2w (ce_var 5)))) (e2w ce_int))) (e2w ce_int))) (e2w (ce_var 2)))))))))))
abbrev s_law_begun : Stmt := topS 14
theorem sc_law_begun : FnScope [] [] (defScope s_law_begun) := ⟨rfl, rfl, rfl, by decide +kernel, rfl, by decide +kernel, by decide +kernel⟩
theorem ok_law_begun {f : Addr} {fd : FuncData} (M : Mg K mg C) (F : Fun K "_law_begun" "_law_begun" s_law_begun f fd)  :
    FnOk P w K mg base (L2.CX P w) 1 f fd [] (spF K C 0 f_law_begun) :=
  fn_ok (N := []) F sc_law_begun fun cdv A outer s H E hr =>
    (css_one (cs_ret ce_begun))
abbrev s_law_exchange : Stmt := topS 17
theorem sc_law_exchange : FnScope ["script", "town", "rest", "found", "turn", "at"] ["script", "town"] (defScope s_law_exchange) := ⟨rfl, rfl, rfl, by decide +kernel, rfl, by decide +kernel, by decide +kernel⟩
theorem ok_law_exchange {f : Addr} {fd : FuncData} (M : Mg K mg C) (F : Fun K "_law_exchange" "_law_exchange" s_law_exchange f fd) (fd_law_draw : Fd P w K mg base C 1 "_law_draw" 3 f_law_draw) :
    FnOk P w K mg base (L2.CX P w) 2 f fd ["script", "town"] (spF K C 2 f_law_exchange) :=
  fn_ok (N := ["script", "town", "rest", "found", "turn", "at"]) F sc_law_exchange fun cdv A outer s H E hr =>
    (css_cons (cs_parO 2 3 sc_law_exchange.nd (ce_listRg rfl M.list M.range ce_int) (cf_lst ca_nil))
    (css_cons (cs_for rfl (ci_range1 M.range ce_int) (cg_name 4 sc_law_exchange.nd)
    (css_cons (cs_asg 5 sc_law_exchange.nd (ce_call fd_law_draw hr (by decide) passL (ca_cons (ce_var 0) (ca_cons (ce_var 1) (ca_cons (ce_callB1 cr_len M.len bt_len (e2w (ce_var 2))) ca_nil)))))
    (css_cons (cs_app 3 (ce_ix (e2w (ce_var 2)) (e2w (ce_var 5))))
    (css_one (cs_asg 2 sc_law_exchange.nd (ce_bin bin_add (e2w (ce_slice (e2w (ce_var 2)) co_none (co_some (ce_var 5)))) (e2w (ce_slice (e2w (ce_var 2)) (co_some (ce_bin bin_add (e2w (ce_var 5)) (e2w ce_int))) co_none))))))))
    (css_one (cs_ret (ce_callTy1 cr_tuple M.tuple bt_tuple (cw_peek 3))))))
abbrev s_law_function : Stmt := topS 18
theorem sc_law_function : FnScope ["script", "town", "way", "most", "word"] ["script", "town"] (defScope s_law_function) := ⟨rfl, rfl, rfl, by decide +kernel, rfl, by decide +kernel, by decide +kernel⟩
theorem ok_law_function {f : Addr} {fd : FuncData} (M : Mg K mg C) (F : Fun K "_law_function" "_law_function" s_law_function f fd) (fd_law_draw : Fd P w K mg base C 1 "_law_draw" 3 f_law_draw) (fd_law_exchange : Fd P w K mg base C 2 "_law_exchange" 2 f_law_exchange) :
    FnOk P w K mg base (L2.CX P w) 3 f fd ["script", "town"] (spF K C 2 f_law_function) :=
  fn_ok (N := ["script", "town", "way", "most", "word"]) F sc_law_function fun cdv A outer s H E hr =>
    (css_cons (cs_asg 2 sc_law_function.nd (ce_call fd_law_draw hr (by decide) passC (ca_cons (ce_var 0) (ca_cons (ce_var 1) (ca_cons ce_int ca_nil)))))
    (css_cons (cs_if (ct_cmp (bin_eq hr.units) (e2w (ce_var 2)) (e2w ce_int)) (css_one (cs_ret (ce_call fd_law_exchange hr (by decide) passC (ca_cons (ce_var 0) (ca_cons (ce_var 1) ca_nil))))) css_nil)
    (css_cons (cs_asg 3 sc_law_function.nd (ce_ix (e2w (ce_tup (ca_cons ce_int (ca_cons ce_int (ca_cons ce_int ca_nil))))) (e2w (ce_bin bin_sub (e2w (ce_var 2)) (e2w ce_int)))))
    (css_one (cs_ret (ce_callTy1 cr_tuple M.tuple bt_tuple (f2w (cf_comp (own := [("word", 4)]) (is := [4]) rfl sc_law_function.nd (ci_w (ci_range1 M.range ce_int)) (blkOk_by (N := ["script", "town", "way", "most", "word"]) (sc := (defScope s_law_function)) (by decide +kernel)) (by decide) (fun _ _ _ _ _ => (cg_name 4 sc_law_function.nd)) (fun _ _ _ _ _ => cts_nil) (fun _ _ _ _ _ => (ce_call fd_law_draw hr (by decide) passL (ca_cons (ce_var 0) (ca_cons (ce_var 1) (ca_cons (ce_var 3) ca_nil)))))))))))))
abbrev s_law_parted : Stmt := topS 19
theorem sc_law_parted : FnScope ["function", "pairs", "flat", "value", "some", "word"] ["function", "pairs"] (defScope s_law_parted) := ⟨rfl, rfl, rfl, by decide +kernel, rfl, by decide +kernel, by decide +kernel⟩
theorem ok_law_parted {f : Addr} {fd : FuncData} (M : Mg K mg C) (F : Fun K "_law_parted" "_law_parted" s_law_parted f fd) (fd_parts : Fd P w K mg base C 3 "parts" 1 f_parts) :
    FnOk P w K mg base (L2.CX P w) 4 f fd ["function", "pairs"] (spF K C 2 f_law_parted) :=
  fn_ok (N := ["function", "pairs", "flat", "value", "some", "word"]) F sc_law_parted fun cdv A outer s H E hr =>
    (css_cons (cs_own 2 sc_law_parted.nd (cf_lst ca_nil))
    (css_cons (cs_for rfl (ci_seq (ce_call fd_parts hr (by decide) passL (ca_cons (ce_var 0) ca_nil))) (cg_pair 3 4 sc_law_parted.nd)
    (css_cons (cs_extT 2 (e2w (ce_var 4)))
    (css_cons (cs_if (ct_w (cw_or (ct_cmp (bin_ne hr.units) (f2w (cf_comp (own := [("word", 5)]) (is := [5]) rfl sc_law_parted.nd (ciw_seq (e2w (ce_var 4))) (blkOk_by (N := ["function", "pairs", "flat", "value", "some", "word"]) (sc := (defScope s_law_parted)) (by decide +kernel)) (by decide) (fun _ _ _ _ _ => (cg_name 5 sc_law_parted.nd)) (fun _ _ _ _ _ => (cts_one (ct_cmp (bin_ne hr.units) (e2w (ce_ix (e2w (ce_var 0)) (e2w (ce_var 5)))) (e2w (ce_var 3))))) (fun _ _ _ _ _ => (ce_var 5)))) (f2w (cf_lst ca_nil))) (pw_or1 (ct_cmp (bin_ne hr.units) (f2w (cf_list M.list bt_list (e2w (ce_var 4)))) (e2w (ce_srtSet rfl M.sorted M.set (e2w (ce_var 4)))))))) (css_one (cs_ret ce_bl)) css_nil)
    (css_one (cs_if (ct_cmp (bin_ne hr.units) (e2w (ce_callB1 (cr_sortedA hr.units) M.sorted bt_sorted (f2w (cf_comp (own := [("word", 5)]) (is := [5]) rfl sc_law_parted.nd (ciw_seq (e2w (ce_var 4))) (blkOk_by (N := ["function", "pairs", "flat", "value", "some", "word"]) (sc := (defScope s_law_parted)) (by decide +kernel)) (by decide) (fun _ _ _ _ _ => (cg_name 5 sc_law_parted.nd)) (fun _ _ _ _ _ => cts_nil) (fun _ _ _ _ _ => (ce_ix (e2w (ce_ix (e2w (ce_var 1)) (e2w (ce_var 5)))) (e2w ce_int))))))) (e2w (ce_listRg rfl M.list M.range (ce_callB1 cr_len M.len bt_len (e2w (ce_var 4)))))) (css_one (cs_ret ce_bl)) css_nil)))))
    (css_one (cs_ret (ce_and (ce_cmp (bin_eq hr.units) (e2w (ce_callB1 (cr_sortedA hr.units) M.sorted bt_sorted (cw_peek 2))) (e2w (ce_listRg rfl M.list M.range ce_int))) (ce_one (ce_cmp (bin_eq hr.units) (f2w (cf_comp (own := [("value", 3), ("some", 4)]) (is := [3, 4]) rfl sc_law_parted.nd (ciw_seq (e2w (ce_call fd_parts hr (by decide) passC (ca_cons (ce_var 0) ca_nil)))) (blkOk_by (N := ["function", "pairs", "flat", "value", "some", "word"]) (sc := (defScope s_law_parted)) (by decide +kernel)) (by decide) (fun _ _ _ _ _ => (cg_pair 3 4 sc_law_parted.nd)) (fun _ _ _ _ _ => cts_nil) (fun _ _ _ _ _ => (ce_var 3)))) (e2w (ce_srtSet rfl M.sorted M.set (e2w (ce_var 0)))))))))))
abbrev s_law : Stmt := topS 20
theorem sc_law : FnScope ["script", "town", "k", "function", "bits", "pairs", "many", "other", "ahead", "behind", "word", "value", "number", "some"] ["script"] (defScope s_law) := ⟨rfl, rfl, rfl, by decide +kernel, rfl, by decide +kernel, by decide +kernel⟩
theorem ok_law {f : Addr} {fd : FuncData} (M : Mg K mg C) (F : Fun K "law" "law" s_law f fd) (fd_law_begun : Fd P w K mg base C 1 "_law_begun" 0 f_law_begun) (fd_law_function : Fd P w K mg base C 3 "_law_function" 2 f_law_function) (fd_further_bits : Fd P w K mg base C 3 "further_bits" 1 f_further_bits) (fd_completed : Fd P w K mg base C 3 "completed" 1 f_completed) (fd_is_exchange : Fd P w K mg base C 2 "is_exchange" 1 f_is_exchange) (fd_parts : Fd P w K mg base C 3 "parts" 1 f_parts) (fd_law_exchange : Fd P w K mg base C 2 "_law_exchange" 2 f_law_exchange) (fd_law_parted : Fd P w K mg base C 4 "_law_parted" 2 f_law_parted) :
    FnOk P w K mg base (L2.CX P w) 5 f fd ["script"] (spF K C 1 f_law) :=
  fn_ok (N := ["script", "town", "k", "function", "bits", "pairs", "many", "other", "ahead", "behind", "word", "value", "number", "some"]) F sc_law fun cdv A outer s H E hr =>
    (css_cons (cs_asg 1 sc_law.nd (ce_call0 fd_law_begun hr (by decide) passC))
    (css_cons (cs_for rfl (ci_range1 M.range ce_int) (cg_name 2 sc_law.nd)
    (css_cons (cs_asg 3 sc_law.nd (ce_call fd_law_function hr (by decide) passL (ca_cons (ce_var 0) (ca_cons (ce_var 1) ca_nil))))
    (css_cons (cs_par 4 5 sc_law.nd (ce_call fd_further_bits hr (by decide) passL (ca_cons (ce_var 3) ca_nil)) (ce_call fd_completed hr (by decide) passL (ca_cons (ce_var 3) ca_nil)))
    (css_cons (cs_if (ct_w (cw_or (ct_cmp (bin_ne hr.units) (e2w (ce_lenSetT rfl hr.units M.len M.set (e2w (ce_var 5)))) (e2w ce_int)) (pw_or1 (ct_cmp (bin_ne hr.units) (f2w (cf_comp (own := [("value", 11), ("number", 12)]) (is := [11, 12]) rfl sc_law.nd (ciw_seq (e2w (ce_var 5))) (blkOk_by (N := ["script", "town", "k", "function", "bits", "pairs", "many", "other", "ahead", "behind", "word", "value", "number", "some"]) (sc := (defScope s_law)) (by decide +kernel)) (by decide) (fun _ _ _ _ _ => (cg_pair 11 12 sc_law.nd)) (fun _ _ _ _ _ => cts_nil) (fun _ _ _ _ _ => (ce_var 11)))) (f2w (cf_list M.list bt_list (e2w (ce_var 3)))))))) (css_one (cs_ret ce_bl)) css_nil)
    (css_cons (cs_asg 6 sc_law.nd (ce_bin bin_add (e2w (ce_callB1 (cr_maxD rfl) M.max bt_max (f2w (cf_comp (own := [("value", 11), ("number", 12)]) (is := [11, 12]) rfl sc_law.nd (ciw_seq (e2w (ce_var 5))) (blkOk_by (N := ["script", "town", "k", "function", "bits", "pairs", "many", "other", "ahead", "behind", "word", "value", "number", "some"]) (sc := (defScope s_law)) (by decide +kernel)) (by decide) (fun _ _ _ _ _ => (cg_pair 11 12 sc_law.nd)) (fun _ _ _ _ _ => cts_nil) (fun _ _ _ _ _ => (ce_var 12)))))) (e2w ce_int)))
    (css_cons (cs_if (ct_w (cw_or (ct_cmp bin_gt (e2w (ce_var 6)) (e2w (ce_ix (e2w (ce_tup (ca_cons ce_int (ca_cons ce_int (ca_cons ce_int (ca_cons ce_int ca_nil)))))) (e2w (ce_var 4))))) (pw_or1 (ct_w (cw_and (ct_cmp bin_gt (e2w (ce_var 4)) (e2w ce_int)) (pw_and1 (ct_cmp bin_le (e2w (ce_var 6)) (e2w (ce_ix (e2w (ce_tup (ca_cons ce_int (ca_cons ce_int (ca_cons ce_int (ca_cons ce_int ca_nil)))))) (e2w (ce_bin bin_sub (e2w (ce_var 4)) (e2w ce_int)))))))))))) (css_one (cs_ret ce_bl)) css_nil)
    (css_cons (cs_if (ct_w (cw_or (ct_cmp (bin_ne hr.units) (e2w (ce_cmp (bin_eq hr.units) (e2w (ce_var 4)) (e2w ce_int))) (e2w (ce_call fd_is_exchange hr (by decide) passL (ca_cons (ce_var 3) ca_nil)))) (pw_or1 (ct_cmp (bin_ne hr.units) (e2w (ce_var 6)) (e2w (ce_callB1 (cr_maxD rfl) M.max bt_max (f2w (cf_comp (own := [("value", 11), ("some", 13)]) (is := [11, 13]) rfl sc_law.nd (ciw_seq (e2w (ce_call fd_parts hr (by decide) passL (ca_cons (ce_var 3) ca_nil)))) (blkOk_by (N := ["script", "town", "k", "function", "bits", "pairs", "many", "other", "ahead", "behind", "word", "value", "number", "some"]) (sc := (defScope s_law)) (by decide +kernel)) (by decide) (fun _ _ _ _ _ => (cg_pair 11 13 sc_law.nd)) (fun _ _ _ _ _ => cts_nil) (fun _ _ _ _ _ => (ce_callB1 cr_len M.len bt_len (e2w (ce_var 13)))))))))))) (css_one (cs_ret ce_bl)) css_nil)
    (css_cons (cs_asg 7 sc_law.nd (ce_call fd_law_exchange hr (by decide) passL (ca_cons (ce_var 0) (ca_cons (ce_var 1) ca_nil))))
    (css_cons (cs_asg 8 sc_law.nd (ce_callTy1 cr_tuple M.tuple bt_tuple (f2w (cf_comp (own := [("word", 10)]) (is := [10]) rfl sc_law.nd (ciw_seq (e2w (ce_var 7))) (blkOk_by (N := ["script", "town", "k", "function", "bits", "pairs", "many", "other", "ahead", "behind", "word", "value", "number", "some"]) (sc := (defScope s_law)) (by decide +kernel)) (by decide) (fun _ _ _ _ _ => (cg_name 10 sc_law.nd)) (fun _ _ _ _ _ => cts_nil) (fun _ _ _ _ _ => (ce_ix (e2w (ce_var 3)) (e2w (ce_var 10))))))))
    (css_cons (cs_asg 9 sc_law.nd (ce_callTy1 cr_tuple M.tuple bt_tuple (f2w (cf_comp (own := [("word", 10)]) (is := [10]) rfl sc_law.nd (ciw_seq (e2w (ce_var 3))) (blkOk_by (N := ["script", "town", "k", "function", "bits", "pairs", "many", "other", "ahead", "behind", "word", "value", "number", "some"]) (sc := (defScope s_law)) (by decide +kernel)) (by decide) (fun _ _ _ _ _ => (cg_name 10 sc_law.nd)) (fun _ _ _ _ _ => cts_nil) (fun _ _ _ _ _ => (ce_ix (e2w (ce_var 7)) (e2w (ce_var 10))))))))
    (css_cons (cs_if (ct_w (cw_or (ct_cmp (bin_ne hr.units) (e2w (ce_call fd_further_bits hr (by decide) passL (ca_cons (ce_var 8) ca_nil))) (e2w (ce_var 4))) (cw_or (ct_cmp (bin_ne hr.units) (e2w (ce_call fd_further_bits hr (by decide) passL (ca_cons (ce_var 9) ca_nil))) (e2w (ce_var 4))) (pw_or1 (ct_cmp (bin_ne hr.units) (e2w (ce_call fd_further_bits hr (by decide) passL (ca_cons (ce_var 7) ca_nil))) (e2w ce_int)))))) (css_one (cs_ret ce_bl)) css_nil)
    (css_one (cs_if (ct_w (cw_or (ct_not (ct_val (ce_call fd_law_parted hr (by decide) passL (ca_cons (ce_var 3) (ca_cons (ce_var 5) ca_nil))))) (pw_or1 (ct_cmp (bin_ne hr.units) (e2w (ce_callB1 cr_len M.len bt_len (e2w (ce_call fd_parts hr (by decide) passL (ca_cons (ce_var 9) ca_nil))))) (e2w (ce_callB1 cr_len M.len bt_len (e2w (ce_call fd_parts hr (by decide) passL (ca_cons (ce_var 3) ca_nil))))))))) (css_one (cs_ret ce_bl)) css_nil)))))))))))))
    (css_one (cs_ret ce_bl))))
end
end K18
set_option Elab.async false
set_option linter.all false
set_option maxRecDepth 100000
set_option maxHeartbeats 4000000
namespace BG
open PySem
/-- it returns, and Q holds of what is returned -/
def W {α : Type} (r : Option (Out α)) (Q : α → Tn → Prop) : Prop := match r with
  | some (.ok a t) => Q a t
  | _ => False
section
variable {α β : Type} {Q : α → Tn → Prop}
theorem W.ex {r : Option (Out α)} (h : W r Q) : ∃ a t, r = some (.ok a t) ∧ Q a t := by
  match r, h with
  | some (.ok a t), h => exact ⟨a, t, rfl, h⟩
theorem W.mono {Q' : α → Tn → Prop} {r : Option (Out α)} (h : W r Q) (i : ∀ a t, Q a t → Q' a t) : W r Q' := by
  obtain ⟨a, t, rfl, q⟩ := h.ex
  exact i a t q
theorem w_ret {a : α} {t : Tn} (h : Q a t) : W (ret a t) Q := h
theorem w_bnd {m : M β} {f : β → M α} {t : Tn} (h : W (m t) fun a t' => W (f a t') Q) : W (bnd m f t) Q := by
  obtain ⟨a, t', e, q⟩ := h.ex
  rw [bnd_ok e]; exact q
theorem w_calm {m : M α} {t : Tn} (h : W (m t) Q) : W (calm m t) Q := by
  obtain ⟨a, t', e, q⟩ := h.ex
  unfold calm; rw [e]; exact q
theorem w_eq {m : M α} {a : α} {t : Tn} (e : m = ret a) (h : Q a t) : W (m t) Q := by rw [e]; exact h
end
theorem eq_of_W {m : M D} {d : D} (h : ∀ t, W (m t) fun x t' => x = d ∧ t' = t) : m = ret d := by
  funext t
  obtain ⟨a, t', e, rfl, rfl⟩ := (h t).ex
  exact e
section
variable {S : Sl} {t : Tn} {Q : D → Tn → Prop}
theorem w_var {i : Nat} {d : D} (e : S[i]? = some (.val d)) (h : Q d t) : W (eVar i S t) Q := by
  unfold eVar; rw [e]; exact h
theorem w_peekV {i : Nat} {d : D} (e : S[i]? = some (.val d)) (h : Q d t) : W (ePeek i S t) Q := by
  unfold ePeek; rw [e]; exact h
theorem w_peekO {i : Nat} {ds : List D} (e : S[i]? = some (.own ds)) (h : Q (.lst ds) t) : W (ePeek i S t) Q := by
  unfold ePeek; rw [e]; exact h
theorem w_c {d : D} (h : Q d t) : W (eC d S t) Q := h
theorem w_bin {op : D → D → M D} {a b : Ex} (h : W (a S t) fun x t1 => W (b S t1) fun y t2 => W (op x y t2) Q) : W (eBin op a b S t) Q := w_bnd (h.mono fun _ _ h => w_bnd h)
theorem w_un {op : D → M D} {a : Ex} (h : W (a S t) fun x t1 => W (op x t1) Q) : W (eUn op a S t) Q := w_bnd h
theorem w_evnil {Q : List D → Tn → Prop} (h : Q [] t) : W (evs [] S t) Q := h
theorem w_evcons {f : Ex} {fs : List Ex} {Q : List D → Tn → Prop} (h : W (f S t) fun d t1 => W (evs fs S t1) fun ds t2 => Q (d :: ds) t2) : W (evs (f :: fs) S t) Q := w_bnd (h.mono fun _ _ h => w_bnd h)
theorem w_evc1 {f : Ex} {fs hs : List Ex} {Q : List D → Tn → Prop} (h : W (evs (f :: (fs ++ hs)) S t) Q) : W (evs ((f :: fs) ++ hs) S t) Q := h
theorem w_evc0 {hs : List Ex} {Q : List D → Tn → Prop} (h : W (evs hs S t) Q) : W (evs ([] ++ hs) S t) Q := h
theorem w_tup {fs : List Ex} (h : W (evs fs S t) fun ds t1 => Q (.tup ds) t1) : W (eTup fs S t) Q := w_bnd h
theorem w_lst {fs : List Ex} (h : W (evs fs S t) fun ds t1 => Q (.lst ds) t1) : W (eLst fs S t) Q := w_bnd h
theorem w_call {F : Fn} {fs : List Ex} (h : W (evs fs S t) fun ds t1 => W (F ds t1) Q) : W (eCall F fs S t) Q := w_bnd h
/-- of a truth value -/
def Bl (Q : Bool → Tn → Prop) : D → Tn → Prop := fun d t => match d with
  | .bl b => Q b t
  | _ => False
theorem w_and {a b : Ex} (h : W (a S t) (Bl fun k t1 => (k = true → W (b S t1) Q) ∧ (k = false → Q (.bl false) t1))) : W (eAnd a b S t) Q := w_bnd (h.mono fun d t1 q => by
  cases d with
  | bl k => cases k with
    | true => exact q.1 rfl
    | false => exact q.2 rfl
  | _ => exact q.elim)
theorem w_or {a b : Ex} (h : W (a S t) (Bl fun k t1 => (k = false → W (b S t1) Q) ∧ (k = true → Q (.bl true) t1))) : W (eOr a b S t) Q := w_bnd (h.mono fun d t1 q => by
  cases d with
  | bl k => cases k with
    | true => exact q.2 rfl
    | false => exact q.1 rfl
  | _ => exact q.elim)
theorem w_ife {c a b : Ex} (h : W (c S t) (Bl fun k t1 => (k = true → W (a S t1) Q) ∧ (k = false → W (b S t1) Q))) : W (eIf c a b S t) Q := w_bnd (h.mono fun d t1 q => by
  cases d with
  | bl k => cases k with
    | true => exact q.1 rfl
    | false => exact q.2 rfl
  | _ => exact q.elim)
theorem w_chain {o1 o2 : D → D → M D} {a b c : Ex} (h : W (a S t) fun x t1 => W (b S t1) fun y t2 => W (o1 x y t2) (Bl fun k t3 => (k = true → W (c S t3) fun u t4 => W (o2 y u t4) Q) ∧ (k = false → Q (.bl false) t3))) : W (eChain o1 o2 a b c S t) Q :=
  w_bnd (h.mono fun x t1 h => w_bnd (h.mono fun y t2 h => w_bnd (h.mono fun d t3 q => by
    cases d with
    | bl k => cases k with
      | true => exact w_bnd (q.1 rfl)
      | false => exact q.2 rfl
    | _ => exact q.elim)))
theorem w_not {b : Bool} (h : Q (.bl (!b)) t) : W (oNot (.bl b) t) Q := h
theorem w_slice {a : Ex} {lo hi : Option Ex} (h : W (a S t) fun x t1 => W (oEx lo S t1) fun l t2 => W (oEx hi S t2) fun u t3 => W (pSlice x l u t3) Q) : W (eSlice a lo hi S t) Q :=
  w_bnd (h.mono fun x t1 h => w_bnd (h.mono fun l t2 h => w_bnd h))
theorem w_oN {Q : Option Int → Tn → Prop} (h : Q none t) : W (oEx none S t) Q := h
/-- of a number -/
def In (Q : Int → Tn → Prop) : D → Tn → Prop := fun d t => match d with
  | .int i => Q i t
  | _ => False
theorem w_oS {f : Ex} {Q : Option Int → Tn → Prop} (h : W (f S t) (In fun i t1 => Q (some i) t1)) : W (oEx (some f) S t) Q := w_bnd (h.mono fun d t1 q => by
  cases d with
  | int k => exact q
  | _ => exact q.elim)
theorem w_comp {vs : List Nat} {it : Sl → M (List D)} {tg : Tg} {cond elt : Ex} (h : W (it S t) fun ds t1 => ds.length ≤ sizeLine ∧ W (cmpL tg cond elt (wipeS S vs) ds t1) fun rs t2 => Q (.lst rs) t2) : W (eComp vs it tg cond elt S t) Q :=
  w_bnd (h.mono fun ds t1 ⟨h1, h2⟩ => by rw [if_pos h1]; exact w_bnd h2)
/-- of a tuple or a list -/
def Sq (Q : List D → Tn → Prop) : D → Tn → Prop := fun d t => match d with
  | .tup ds => Q ds t
  | .lst ds => Q ds t
  | _ => False
theorem w_itSeq {f : Ex} {Q : List D → Tn → Prop} (h : W (f S t) (Sq Q)) : W (itSeq f S t) Q := w_bnd (h.mono fun d t1 q => by
  cases d with
  | tup ds => exact q
  | lst ds => exact q
  | _ => exact q.elim)
def rng (n : Nat) : List D := (List.range n).map fun (i : Nat) => D.int (i : Int)
theorem rng_eq (n : Nat) : ((List.range n).map fun (i : Nat) => D.int ((0 : Int) + (i : Int))) = rng n := by
  unfold rng
  exact List.map_congr_left fun i _ => by rw [Int.zero_add]
theorem w_itR {f : Ex} {Q : List D → Tn → Prop} (h : W (f S t) (In fun j t1 => 0 ≤ j ∧ j < 2 ^ 62 ∧ Q (rng j.toNat) t1)) : W (itRange1 f S t) Q := w_bnd (h.mono fun d t1 q => by
  cases d with
  | int k =>
    obtain ⟨h1, h2, h3⟩ := q
    show W ((if -(2 ^ 62) ≤ k ∧ k < 2 ^ 62 then ret ((List.range k.toNat).map fun (i : Nat) => D.int ((0 : Int) + (i : Int))) else stuck) t1) Q
    rw [if_pos ⟨by omega, h2⟩, rng_eq]
    exact h3
  | _ => exact q.elim)
end
section
variable {S : Sl} {t : Tn} {Q : Fl → Tn → Prop}
/-- what follows: on with the slots, or back with a value -/
def Nx (N : Sl → Tn → Prop) (R : D → Tn → Prop) : Fl → Tn → Prop := fun fl t => match fl with
  | .nx S => N S t
  | .ret d => R d t
theorem w_nil (h : Q (.nx S) t) : W (sNil S t) Q := h
theorem w_seq {a b : Stm} (h : W (a S t) (Nx (fun S' t' => W (b S' t') Q) (fun d t' => Q (.ret d) t'))) : W (sSeq a b S t) Q := w_bnd (h.mono fun fl t1 q => by
  cases fl with
  | nx S' => exact q
  | ret d => exact q)
theorem w_asg {i : Nat} {e : Ex} (h : W (e S t) fun d t1 => Q (.nx (S.set i (.val d))) t1) : W (sAsg i e S t) Q := w_bnd h
/-- of a list -/
def Ls (Q : List D → Tn → Prop) : D → Tn → Prop := fun d t => match d with
  | .lst ds => Q ds t
  | _ => False
theorem w_own {i : Nat} {e : Ex} (h : W (e S t) (Ls fun ds t1 => Q (.nx (S.set i (.own ds))) t1)) : W (sOwn i e S t) Q := w_bnd (h.mono fun d t1 q => by
  cases d with
  | lst ds => exact q
  | _ => exact q.elim)
theorem w_par {i j : Nat} {a b : Ex} (h : W (a S t) fun x t1 => W (b S t1) fun y t2 => Q (.nx ((S.set i (.val x)).set j (.val y))) t2) : W (sPar i j a b S t) Q := w_bnd (h.mono fun _ _ h => w_bnd h)
theorem w_parO {i j : Nat} {a b : Ex} (h : W (a S t) fun x t1 => W (b S t1) (Ls fun ds t2 => Q (.nx ((S.set i (.val x)).set j (.own ds))) t2)) : W (sParO i j a b S t) Q := w_bnd (h.mono fun _ _ h => w_bnd (h.mono fun d t1 q => by
  cases d with
  | lst ds => exact q
  | _ => exact q.elim))
theorem w_app {i : Nat} {ds : List D} {e : Ex} (he : S[i]? = some (.own ds)) (h : W (e S t) fun d t1 => ds.length < sizeLine ∧ Q (.nx (S.set i (.own (ds ++ [d])))) t1) : W (sApp i e S t) Q := by
  unfold sApp
  rw [he]
  exact w_bnd (h.mono fun d t1 ⟨h1, h2⟩ => by
    show W ((if ds.length < sizeLine then ret (Fl.nx (S.set i (.own (ds ++ [d])))) else stuck) t1) Q
    rw [if_pos h1]; exact h2)
theorem w_expr {e : Ex} (h : W (e S t) fun _ t1 => Q (.nx S) t1) : W (sExpr e S t) Q := w_bnd h
theorem w_if {c : Ex} {a b : Stm} (h : W (c S t) (Bl fun k t1 => (k = true → W (a S t1) Q) ∧ (k = false → W (b S t1) Q))) : W (sIf c a b S t) Q := w_bnd (h.mono fun d t1 q => by
  cases d with
  | bl k => cases k with
    | true => exact q.1 rfl
    | false => exact q.2 rfl
  | _ => exact q.elim)
theorem w_sret {e : Ex} (h : W (e S t) fun d t1 => Q (.ret d) t1) : W (sRet e S t) Q := w_bnd h
theorem w_frz {i : Nat} {ds : List D} {a : Stm} (he : S[i]? = some (.own ds)) (h : W (a (S.set i (.val (.lst ds))) t) Q) : W (sFrz i a S t) Q := by
  unfold sFrz; rw [he]; exact h
theorem w_for {it : Sl → M (List D)} {tg : Tg} {body : Stm} (h : W (it S t) fun ds t1 => W (forL tg body ds S t1) Q) : W (sFor it tg body S t) Q := w_bnd (w_calm h)
theorem w_forI {tg : Tg} {body : Stm} (I : Nat → Sl → Tn → Prop) : ∀ {ds : List D} {k : Nat} {S : Sl} {t : Tn}, I k S t →
    (∀ i d, ds[i]? = some d → ∀ S t, I (k + i) S t → ∃ S', tg d S = some S' ∧ W (body S' t) (Nx (fun S2 t2 => I (k + i + 1) S2 t2) fun d t2 => Q (.ret d) t2)) →
    (∀ S t, I (k + ds.length) S t → Q (.nx S) t) → W (forL tg body ds S t) Q
  | [], k, S, t, h0, _, hQ => hQ S t h0
  | d :: ds, k, S, t, h0, hs, hQ => by
    obtain ⟨S', e, w⟩ := hs 0 d rfl S t h0
    show W ((match tg d S with
      | none => stuck
      | some S' => bnd (calm (body S')) fun fl => match fl with
        | .nx S'' => forL tg body ds S''
        | .ret v => ret (.ret v)) t) Q
    rw [e]
    exact w_bnd (w_calm (w.mono fun fl t1 q => by
      cases fl with
      | ret v => exact q
      | nx S2 =>
        refine w_forI I (k := k + 1) q (fun i d' e' S t hI => ?_) fun S t hI => hQ S t (by rw [List.length_cons, Nat.add_comm ds.length 1, ← Nat.add_assoc]; exact hI)
        have := hs (i + 1) d' e' S t (by rw [Nat.add_comm i 1, ← Nat.add_assoc]; exact hI)
        rw [Nat.add_comm i 1, ← Nat.add_assoc] at this
        exact this))
/-- with an invariant that does not count -/
theorem w_forC {tg : Tg} {body : Stm} {ds : List D} {S : Sl} {t : Tn} (I : Sl → Tn → Prop) (h0 : I S t)
    (hs : ∀ d ∈ ds, ∀ S t, I S t → ∃ S', tg d S = some S' ∧ W (body S' t) (Nx (fun S2 t2 => I S2 t2) fun d t2 => Q (.ret d) t2))
    (hQ : ∀ S t, I S t → Q (.nx S) t) : W (forL tg body ds S t) Q :=
  w_forI (fun _ => I) (k := 0) h0 (fun i d e S t hI => hs d (List.mem_of_getElem? e) S t hI) fun S t hI => hQ S t hI
end
theorem w_fn {n : Nat} {body : Stm} {ds : List D} {t : Tn} {Q : D → Tn → Prop} (h : W (body (slots0 n ds) t) (Nx (fun _ t1 => Q .non t1) Q)) : W (fnOf n body ds t) Q := w_bnd (h.mono fun fl t1 q => by
  cases fl with
  | nx S => exact q
  | ret d => exact q)
section
variable {tg : Tg} {cond elt : Ex} {S : Sl}
theorem cmpL_pure {p : D → Bool} {e : D → D} : ∀ {ds : List D}, (∀ d ∈ ds, ∃ S', tg d S = some S' ∧ cond S' = ret (.bl (p d)) ∧ (p d = true → elt S' = ret (e d))) → cmpL tg cond elt S ds = ret ((ds.filter p).map e)
  | [], _ => rfl
  | d :: ds, h => by
    obtain ⟨S', e1, e2, e3⟩ := h d (List.mem_cons_self ..)
    have ih := cmpL_pure (p := p) (e := e) fun d hd => h d (List.mem_cons_of_mem _ hd)
    show (match tg d S with
      | none => stuck
      | some S' => bnd (calm (cond S')) fun b => match b with
        | .bl true => bnd (calm (elt S')) fun r => bnd (cmpL tg cond elt S ds) fun rs => ret (r :: rs)
        | .bl false => cmpL tg cond elt S ds
        | _ => stuck) = _
    rw [e1]
    show bnd (calm (cond S')) _ = _
    rw [e2]
    cases hp : p d with
    | true =>
      show bnd (calm (elt S')) _ = _
      rw [e3 hp, ih, List.filter_cons_of_pos hp, List.map_cons]
      rfl
    | false =>
      show cmpL tg cond elt S ds = _
      rw [ih, List.filter_cons_of_neg (by rw [hp]; decide)]
theorem w_cmpL {T : Tn → Prop} {R : D → D → Prop} {Q : List D → Tn → Prop} : ∀ {ds : List D} {t : Tn}, T t →
    (∀ d ∈ ds, ∀ t, T t → ∃ S', tg d S = some S' ∧ cond S' = ret (.bl true) ∧ W (elt S' t) fun r t1 => T t1 ∧ R d r) →
    (∀ rs t, T t → ds.length = rs.length → (∀ (i : Nat) (d r : D), ds[i]? = some d → rs[i]? = some r → R d r) → Q rs t) → W (cmpL tg cond elt S ds t) Q
  | [], t, ht, _, hQ => hQ [] t ht rfl fun i d r e => by simp at e
  | d :: ds, t, ht, h, hQ => by
    obtain ⟨S', e1, e2, e3⟩ := h d (List.mem_cons_self ..) t ht
    show W ((match tg d S with
      | none => stuck
      | some S' => bnd (calm (cond S')) fun b => match b with
        | .bl true => bnd (calm (elt S')) fun r => bnd (cmpL tg cond elt S ds) fun rs => ret (r :: rs)
        | .bl false => cmpL tg cond elt S ds
        | _ => stuck) t) Q
    rw [e1]
    show W (bnd (calm (cond S')) _ t) Q
    rw [e2]
    refine w_bnd (w_calm (w_ret ?_))
    refine w_bnd (w_calm (e3.mono fun r t1 ⟨ht1, hr⟩ => w_bnd ?_))
    refine w_cmpL ht1 (fun d hd => h d (List.mem_cons_of_mem _ hd)) fun rs t2 ht2 hl hR => ?_
    refine hQ (r :: rs) t2 ht2 (by rw [List.length_cons, List.length_cons, hl]) fun i d' r' e e' => ?_
    cases i with
    | zero => cases e; cases e'; exact hr
    | succ i => exact hR i d' r' e e'
end
theorem w_cmpP {tg : Tg} {cond elt : Ex} {S : Sl} {t : Tn} {Q : List D → Tn → Prop} {ds : List D} (p : D → Bool) (e : D → D) (h : ∀ d ∈ ds, ∃ S', tg d S = some S' ∧ cond S' = ret (.bl (p d)) ∧ (p d = true → elt S' = ret (e d))) (q : Q ((ds.filter p).map e) t) : W (cmpL tg cond elt S ds t) Q := by
  rw [cmpL_pure h]; exact q
section
variable {S : Sl} {c : Int} {rs : List (Int × Int)}
theorem w_tc {i : Nat} {Q : D → Tn → Prop} (e : S[i]? = some (.val .town)) (h : Q (.int c) (some (c, rs))) : W (eTC i S (some (c, rs))) Q := by
  unfold eTC isTown; rw [e]; exact h
theorem w_stc {i : Nat} {e : Ex} {t : Tn} {Q : Fl → Tn → Prop} (he : S[i]? = some (.val .town)) (h : W (e S t) (In fun n t1 => ∃ c rs, t1 = some (c, rs) ∧ Q (.nx S) (some (n, rs)))) : W (sTC i e S t) Q := by
  unfold sTC isTown
  rw [he, if_pos rfl]
  exact w_bnd (h.mono fun d t1 q => by
    cases d with
    | int n => obtain ⟨c, rs, rfl, q⟩ := q; exact q
    | _ => exact q.elim)
end
section
variable {S : Sl} {c : Int} {rs : List (Int × Int)}
theorem w_tr {i : Nat} {k d : Ex} {t : Tn} {Q : D → Tn → Prop} (he : S[i]? = some (.val .town)) (h : W (k S t) (In fun n t1 => W (d S t1) fun b t2 => ∃ c rs, t2 = some (c, rs) ∧ Q (match rLook rs n with | some v => .int v | none => b) (some (c, rs)))) : W (eTR i k d S t) Q := by
  unfold eTR isTown
  rw [he, if_pos rfl]
  exact w_bnd (h.mono fun a t1 q => by
    cases a with
    | int n => exact w_bnd (q.mono fun b t2 q => by obtain ⟨c, rs, rfl, q⟩ := q; exact q)
    | _ => exact q.elim)
theorem w_str {i : Nat} {k e : Ex} {t : Tn} {Q : Fl → Tn → Prop} (he : S[i]? = some (.val .town)) (h : W (e S t) (In fun v t1 => W (k S t1) (In fun n t2 => ∃ c rs, t2 = some (c, rs) ∧ rs.length < 1000000 ∧ Q (.nx S) (some (c, rPut rs n v))))) : W (sTR i k e S t) Q := by
  unfold sTR isTown
  rw [he, if_pos rfl]
  exact w_bnd (h.mono fun d t1 q => by
    cases d with
    | int v => exact w_bnd (q.mono fun a t2 q => by
        cases a with
        | int n =>
          obtain ⟨c, rs, rfl, hl, q⟩ := q
          show W (if rs.length < 1000000 then some (.ok (.nx S) (some (c, rPut rs n v))) else none) Q
          rw [if_pos hl]; exact q
        | _ => exact q.elim)
    | _ => exact q.elim)
theorem w_scr {i : Nat} {ns : List Int} {t : Tn} {Q : D → Tn → Prop} (e : S[i]? = some (.val (.scr ns))) (h : Q (.bl (!ns.isEmpty)) t) : W (eScr i S t) Q := by
  unfold eScr scrAt; rw [e]; exact h
theorem w_begun {Q : D → Tn → Prop} (h : Q .town (some (0, []))) : W (eBegun S none) Q := h
end
end BG
set_option Elab.async false
set_option linter.all false
set_option maxRecDepth 100000
set_option maxHeartbeats 4000000
namespace BG
open PySem L2
section
variable {t : Tn} {Q : D → Tn → Prop}
theorem nx_nx {N : Sl → Tn → Prop} {R : D → Tn → Prop} {S : Sl} (h : N S t) : Nx N R (.nx S) t := h
theorem nx_ret {N : Sl → Tn → Prop} {R : D → Tn → Prop} {d : D} (h : R d t) : Nx N R (.ret d) t := h
theorem bl_i {Q : Bool → Tn → Prop} {b : Bool} (h : Q b t) : Bl Q (.bl b) t := h
theorem in_i {Q : Int → Tn → Prop} {b : Int} (h : Q b t) : In Q (.int b) t := h
theorem sq_t {Q : List D → Tn → Prop} {b : List D} (h : Q b t) : Sq Q (.tup b) t := h
theorem sq_l {Q : List D → Tn → Prop} {b : List D} (h : Q b t) : Sq Q (.lst b) t := h
theorem ls_l {Q : List D → Tn → Prop} {b : List D} (h : Q b t) : Ls Q (.lst b) t := h
theorem ift {A B : Prop} (h : A) : (true = true → A) ∧ (true = false → B) := ⟨fun _ => h, fun e => Bool.noConfusion e⟩
theorem iff' {A B : Prop} (h : B) : (false = true → A) ∧ (false = false → B) := ⟨fun e => Bool.noConfusion e, fun _ => h⟩
theorem ift2 {A B : Prop} (h : A) : (true = false → B) ∧ (true = true → A) := ⟨fun e => Bool.noConfusion e, fun _ => h⟩
theorem iff2 {A B : Prop} (h : B) : (false = false → B) ∧ (false = true → A) := ⟨fun _ => h, fun e => Bool.noConfusion e⟩
theorem ift_of {A B : Prop} {k : Bool} (e : k = true) (h : A) : (k = true → A) ∧ (k = false → B) := by subst e; exact ift h
theorem iff_of {A B : Prop} {k : Bool} (e : k = false) (h : B) : (k = true → A) ∧ (k = false → B) := by subst e; exact iff' h
theorem ift2_of {A B : Prop} {k : Bool} (e : k = true) (h : A) : (k = false → B) ∧ (k = true → A) := by subst e; exact ift2 h
theorem iff2_of {A B : Prop} {k : Bool} (e : k = false) (h : B) : (k = false → B) ∧ (k = true → A) := by subst e; exact iff2 h
theorem w_addI {i j : Int} (h : Q (.int (i + j)) t) : W (pAdd (.int i) (.int j) t) Q := h
theorem w_addT {xs ys : List D} (hl : xs.length + ys.length ≤ sizeLine) (h : Q (.tup (xs ++ ys)) t) : W (pAdd (.tup xs) (.tup ys) t) Q := by
  show W ((if xs.length + ys.length ≤ sizeLine then ret (.tup (xs ++ ys)) else stuck) t) Q
  rw [if_pos hl]; exact h
theorem w_addL {xs ys : List D} (hl : xs.length + ys.length ≤ sizeLine) (h : Q (.lst (xs ++ ys)) t) : W (pAdd (.lst xs) (.lst ys) t) Q := by
  show W ((if xs.length + ys.length ≤ sizeLine then ret (.lst (xs ++ ys)) else stuck) t) Q
  rw [if_pos hl]; exact h
theorem w_sub {i j : Int} (h : Q (.int (i - j)) t) : W (pSub (.int i) (.int j) t) Q := h
theorem w_mulI {i j : Int} (hl : -(2 ^ 64) < i ∧ i < 2 ^ 64) (h : Q (.int (i * j)) t) : W (pMul (.int i) (.int j) t) Q := by
  show W ((if -(2 ^ 64) < i ∧ i < 2 ^ 64 then ret (.int (i * j)) else stuck) t) Q
  rw [if_pos hl]; exact h
theorem w_mulT {xs : List D} {k : Int} (hl : xs ≠ [] ∧ 2 ≤ k ∧ k ≤ 1000 ∧ xs.length ≤ 1000) (h : Q (.tup (List.replicate k.toNat xs).flatten) t) : W (pMul (.tup xs) (.int k) t) Q := by
  show W ((if xs ≠ [] ∧ 2 ≤ k ∧ k ≤ 1000 ∧ xs.length ≤ 1000 then ret (.tup (List.replicate k.toNat xs).flatten) else stuck) t) Q
  rw [if_pos hl]; exact h
theorem w_mulL {xs : List D} {k : Int} (hl : 0 ≤ k ∧ k ≤ 1000 ∧ xs.length ≤ 1000) (h : Q (.lst (List.replicate k.toNat xs).flatten) t) : W (pMul (.lst xs) (.int k) t) Q := by
  show W ((if 0 ≤ k ∧ k ≤ 1000 ∧ xs.length ≤ 1000 then ret (.lst (List.replicate k.toNat xs).flatten) else stuck) t) Q
  rw [if_pos hl]; exact h
theorem w_mod {i j : Int} (hl : 0 < j) (h : Q (.int (i % j)) t) : W (pMod (.int i) (.int j) t) Q := by
  show W ((if 0 < j then ret (.int (i % j)) else stuck) t) Q
  rw [if_pos hl]; exact h
theorem w_div {i j : Int} (hl : 0 < j ∧ j < 1073741824) (h : Q (.int (i / j)) t) : W (pDiv (.int i) (.int j) t) Q := by
  show W ((if 0 < j ∧ j < 1073741824 then ret (.int (i / j)) else stuck) t) Q
  rw [if_pos hl]; exact h
theorem w_pow {i j : Int} (hl : 0 ≤ j ∧ j ≤ 1000000 ∧ i.natAbs < 2 ^ 64) (h : Q (.int (i ^ j.toNat)) t) : W (pPow (.int i) (.int j) t) Q := by
  show W ((if 0 ≤ j ∧ j ≤ 1000000 ∧ i.natAbs < 2 ^ 64 then ret (.int (i ^ j.toNat)) else stuck) t) Q
  rw [if_pos hl]; exact h
theorem w_xor {i j : Int} (h : Q (.int (Builtin.bitXor i j)) t) : W (pXor (.int i) (.int j) t) Q := h
theorem w_eqD {p q : D} (hp : okD p 60 = true) (hq : okD q 60 = true) (h : Q (.bl (PyData.eqv p.py q.py)) t) : W (pEq p q t) Q := by
  unfold pEq; rw [if_pos ⟨hp, hq⟩]; exact h
theorem w_neD {p q : D} (hp : okD p 60 = true) (hq : okD q 60 = true) (h : Q (.bl (!PyData.eqv p.py q.py)) t) : W (pNe p q t) Q := by
  unfold pNe; rw [if_pos ⟨hp, hq⟩]; exact h
theorem w_ltI {i j : Int} (h : Q (.bl (decide (i < j))) t) : W (pLt (.int i) (.int j) t) Q := h
theorem w_leI {i j : Int} (h : Q (.bl (decide (i ≤ j))) t) : W (pLe (.int i) (.int j) t) Q := h
theorem w_gtI {i j : Int} (h : Q (.bl (decide (j < i))) t) : W (pGt (.int i) (.int j) t) Q := h
theorem w_geI {i j : Int} (h : Q (.bl (decide (j ≤ i))) t) : W (pGe (.int i) (.int j) t) Q := h
theorem w_inT {p : D} {ds : List D} (hp : okD p 60 = true) (hq : okA ds 60 = true) (h : Q (.bl (inD p ds)) t) : W (pIn p (.tup ds) t) Q := by
  show W ((if okD p 60 = true ∧ okA ds 60 = true then ret (.bl (inD p ds)) else stuck) t) Q
  rw [if_pos ⟨hp, hq⟩]; exact h
theorem w_inL {p : D} {ds : List D} (hp : okD p 60 = true) (hq : okA ds 60 = true) (h : Q (.bl (inD p ds)) t) : W (pIn p (.lst ds) t) Q := by
  show W ((if okD p 60 = true ∧ okA ds 60 = true then ret (.bl (inD p ds)) else stuck) t) Q
  rw [if_pos ⟨hp, hq⟩]; exact h
theorem w_idxT {ds : List D} {i : Int} {d : D} (e : atI ds i = some d) (h : Q d t) : W (pIdx (.tup ds) (.int i) t) Q := by
  show W ((match atI ds i with | some d => ret d | none => stuck) t) Q
  rw [e]; exact h
theorem w_idxL {ds : List D} {i : Int} {d : D} (e : atI ds i = some d) (h : Q d t) : W (pIdx (.lst ds) (.int i) t) Q := by
  show W ((match atI ds i with | some d => ret d | none => stuck) t) Q
  rw [e]; exact h
theorem w_idxS {ns : List Int} {i : Int} {n : Int} (e : atI ns i = some n) (h : Q (.int n) t) : W (pIdx (.scr ns) (.int i) t) Q := by
  show W ((match atI ns i with | some d => ret (D.int d) | none => stuck) t) Q
  rw [e]; exact h
theorem w_slT {ds : List D} {lo hi : Option Int} (h : Q (.tup (cutD ds lo hi)) t) : W (pSlice (.tup ds) lo hi t) Q := h
theorem w_slL {ds : List D} {lo hi : Option Int} (h : Q (.lst (cutD ds lo hi)) t) : W (pSlice (.lst ds) lo hi t) Q := h
theorem w_lenT {ds : List D} (h : Q (.int ds.length) t) : W (bLen (.tup ds) t) Q := h
theorem w_lenL {ds : List D} (h : Q (.int ds.length) t) : W (bLen (.lst ds) t) Q := h
theorem w_lenS {ns : List Int} (h : Q (.int ns.length) t) : W (bLen (.scr ns) t) Q := h
theorem w_tupL {ds : List D} (h : Q (.tup ds) t) : W (bTuple (.lst ds) t) Q := h
theorem w_tupT {ds : List D} (h : Q (.tup ds) t) : W (bTuple (.tup ds) t) Q := h
theorem w_lstL {ds : List D} (h : Q (.lst ds) t) : W (bList (.lst ds) t) Q := h
theorem w_lstT {ds : List D} (h : Q (.lst ds) t) : W (bList (.tup ds) t) Q := h
theorem w_isi {T : Ty} {d : D} {b : Bool} (e : isTy T d = some b) (h : Q (.bl b) t) : W (pIsi T d t) Q := by
  unfold pIsi; rw [e]; exact h
theorem w_allL {ds : List D} {bs : List Bool} (e : bools ds = some bs) (h : Q (.bl (bs.all id)) t) : W (bAll (.lst ds) t) Q := by
  show W ((match bools ds with | some bs => ret (D.bl (bs.all id)) | none => stuck) t) Q
  rw [e]; exact h
theorem w_lenSet {ds : List D} {ns : List Int} (e : intsD ds = some ns) (hl : ns.length < 1000) (h : Q (.int (ddp ns).length) t) : W (pLenSet (.tup ds) t) Q := by
  show W ((match intsD ds with | some ns => if ns.length < 1000 then ret (D.int (ddp ns).length) else stuck | none => stuck) t) Q
  rw [e]
  show W ((if ns.length < 1000 then ret (D.int (ddp ns).length) else stuck) t) Q
  rw [if_pos hl]; exact h
theorem w_neg {i : Int} (h : Q (.int (-i)) t) : W (pNeg (.int i) t) Q := h
theorem w_rng {i : Int} (hl : 0 ≤ i ∧ i ≤ 1000000) (h : Q (.lst (rng i.toNat)) t) : W (pRng (.int i) t) Q := by
  show W ((if 0 ≤ i ∧ i ≤ 1000000 then ret (D.lst ((List.range i.toNat).map fun (i : Nat) => D.int (i : Int))) else stuck) t) Q
  rw [if_pos hl]; exact h
theorem w_isn {p : D} (h : Q (.bl (isN p)) t) : W (pIs p .non t) Q := by cases p <;> exact h
theorem w_isnn {p : D} (h : Q (.bl (!isN p)) t) : W (pIsNot p .non t) Q := by cases p <;> exact h
end
theorem w_eqI {i j : Int} {t : Tn} {Q : D → Tn → Prop} (h : Q (.bl (decide (i = j))) t) : W (pEq (.int i) (.int j) t) Q := by
  refine w_eqD rfl rfl ?_
  have e : PyData.eqv (D.int i).py (D.int j).py = decide (i = j) := by
    show (i == j) = decide (i = j)
    rw [Bool.eq_iff_iff, beq_iff_eq, decide_eq_true_iff]
  rw [e]; exact h
theorem w_neI {i j : Int} {t : Tn} {Q : D → Tn → Prop} (h : Q (.bl (decide (i ≠ j))) t) : W (pNe (.int i) (.int j) t) Q := by
  refine w_neD rfl rfl ?_
  have e : (!PyData.eqv (D.int i).py (D.int j).py) = decide (i ≠ j) := by
    show (!(i == j)) = decide (i ≠ j)
    by_cases h : i = j
    · rw [decide_eq_false (by simp [h]), beq_iff_eq.mpr h]; rfl
    · rw [decide_eq_true h, beq_eq_false_iff_ne.mpr h]; rfl
  rw [e]; exact h
/-- of a pair -/
def Pr (Q : D → D → Tn → Prop) : D → Tn → Prop := fun d t => match d with
  | .tup [a, b] => Q a b t
  | _ => False
theorem pr_i {Q : D → D → Tn → Prop} {a b : D} {t : Tn} (h : Q a b t) : Pr Q (.tup [a, b]) t := h
theorem w_asgP {i j : Nat} {e : Ex} {S : Sl} {t : Tn} {Q : Fl → Tn → Prop} (h : W (e S t) (Pr fun a b t1 => Q (.nx ((S.set i (.val a)).set j (.val b))) t1)) : W (sAsgG (gP i j) e S t) Q := w_bnd (h.mono fun d t1 q => by
  unfold Pr at q
  split at q
  · exact q
  · exact q.elim)
theorem w_cmpM {tg : Tg} {elt : Ex} {S : Sl} {t : Tn} {Q : List D → Tn → Prop} {ds : List D} (e : D → D) (h : ∀ d ∈ ds, ∃ S', tg d S = some S' ∧ elt S' = ret (e d)) (q : Q (ds.map e) t) : W (cmpL tg (eC (.bl true)) elt S ds t) Q := by
  refine w_cmpP (fun _ => true) e (fun d hd => ?_) (by rw [show ds.filter (fun _ => true) = ds from List.filter_eq_self.mpr fun _ _ => rfl]; exact q)
  obtain ⟨S', e1, e2⟩ := h d hd
  exact ⟨S', e1, rfl, fun _ => e2⟩
mutual
def nobl : D → Bool
  | .non => true
  | .bl _ => false
  | .int _ => true
  | .str _ => true
  | .tup xs => noblA xs
  | .lst xs => noblA xs
  | .town => false
  | .scr _ => false
  | .dct _ _ => false
def noblA : List D → Bool
  | [] => true
  | d :: ds => nobl d && noblA ds
end
mutual
theorem eqv_iff : ∀ {p q : D}, nobl p = true → nobl q = true → (PyData.eqv p.py q.py = true ↔ p = q)
  | .non, q, hp, hq => by cases q <;> first | exact ⟨fun _ => rfl, fun _ => rfl⟩ | (cases hq; done) | (constructor <;> intro h <;> cases h; done)
  | .int i, q, hp, hq => by
    cases q with
    | int j =>
      show ((i == j) = true ↔ _)
      rw [beq_iff_eq]
      exact ⟨fun h => by rw [h], fun h => by cases h; rfl⟩
    | _ => first | (cases hq; done) | (constructor <;> intro h <;> cases h)
  | .str i, q, hp, hq => by
    cases q with
    | str j =>
      show ((i == j) = true ↔ _)
      rw [beq_iff_eq]
      exact ⟨fun h => by rw [h], fun h => by cases h; rfl⟩
    | _ => first | (cases hq; done) | (constructor <;> intro h <;> cases h)
  | .tup xs, q, hp, hq => by
    cases q with
    | tup ys =>
      have := eqvA_iff (ds := xs) (es := ys) hp hq
      show (PyData.eqvAll (pyA xs) (pyA ys) = true ↔ _)
      rw [this]
      exact ⟨fun h => by rw [h], fun h => by cases h; rfl⟩
    | _ => first | (cases hq; done) | (constructor <;> intro h <;> cases h)
  | .lst xs, q, hp, hq => by
    cases q with
    | lst ys =>
      have := eqvA_iff (ds := xs) (es := ys) hp hq
      show (PyData.eqvAll (pyA xs) (pyA ys) = true ↔ _)
      rw [this]
      exact ⟨fun h => by rw [h], fun h => by cases h; rfl⟩
    | _ => first | (cases hq; done) | (constructor <;> intro h <;> cases h)
theorem eqvA_iff : ∀ {ds es : List D}, noblA ds = true → noblA es = true → (PyData.eqvAll (pyA ds) (pyA es) = true ↔ ds = es)
  | [], [], _, _ => ⟨fun _ => rfl, fun _ => rfl⟩
  | [], e :: es, _, _ => ⟨fun h => (nomatch h), fun h => (nomatch h)⟩
  | d :: ds, [], _, _ => ⟨fun h => (nomatch h), fun h => (nomatch h)⟩
  | d :: ds, e :: es, hp, hq => by
    have hp : (nobl d && noblA ds) = true := hp
    have hq : (nobl e && noblA es) = true := hq
    rw [Bool.and_eq_true] at hp hq
    show ((PyData.eqv d.py e.py && PyData.eqvAll (pyA ds) (pyA es)) = true ↔ _)
    rw [Bool.and_eq_true, eqv_iff hp.1 hq.1, eqvA_iff hp.2 hq.2, List.cons.injEq]
end
theorem w_resE {nm : Nat → Str} {al : Nat → Bool} {F : Fn} {fs : List Ex} {S : Sl} {t : Tn} {Q : D → Tn → Prop} (h : W (evs fs S t) fun ds t1 => W (eResM nm al (F ds) t1) Q) : W (eRes nm al (eCall F fs) S t) Q := by
  obtain ⟨ds, t1, e, q⟩ := h.ex
  unfold eRes
  have e2 : eCall F fs S t = F ds t1 := by unfold eCall; exact bnd_ok e
  unfold eResM at q ⊢
  rw [e2]
  exact q
theorem and_le {a b : Nat} {P : Prop} (h : a ≤ b) (p : P) : a ≤ b ∧ P := ⟨h, p⟩
theorem and_ri {j : Int} {P : Prop} (h : 0 ≤ j) (h2 : j < 2 ^ 62) (p : P) : 0 ≤ j ∧ j < 2 ^ 62 ∧ P := ⟨h, h2, p⟩
/-- of a tuple -/
def Tp (Q : List D → Tn → Prop) : D → Tn → Prop := fun d t => match d with
  | .tup ds => Q ds t
  | _ => False
theorem tp_t {Q : List D → Tn → Prop} {b : List D} {t : Tn} (h : Q b t) : Tp Q (.tup b) t := h
end BG
set_option Elab.async false
set_option linter.all false
set_option maxRecDepth 100000
set_option maxHeartbeats 4000000
namespace BL
open PySem BG L2
theorem nd_le : ∀ (n : Nat) (l : List Int), l.Nodup → (∀ k ∈ l, 0 ≤ k ∧ k < (n : Int)) → l.length ≤ n
  | 0, l, _, h => by
    cases l with
    | nil => exact Nat.le_refl _
    | cons k r => have := h k (List.mem_cons_self ..); omega
  | n + 1, l, nd, h => by
    have ih := nd_le n (l.erase (n : Int)) (nd.erase _) fun k hk => by
      have h1 := (nd.mem_erase_iff).mp hk
      have h2 := h k h1.2
      have := h1.1
      omega
    by_cases hm : (n : Int) ∈ l
    · rw [List.length_erase_of_mem hm] at ih; omega
    · rw [List.erase_of_not_mem hm] at ih; omega
structure TOk (t : Tn) : Prop where
  ex : ∃ c rs, t = some (c, rs) ∧ (rs.map Prod.fst).Nodup ∧ ∀ k ∈ rs.map Prod.fst, (0 : Int) ≤ k ∧ k < ((64 : Nat) : Int)
theorem TOk.begun : TOk (some (0, [])) := ⟨0, [], rfl, .nil, fun k h => nomatch h⟩
theorem rPut_keys (rs : List (Int × Int)) (k v : Int) : (rPut rs k v).map Prod.fst = if (rs.any fun p => decide (p.1 = k)) = true then rs.map Prod.fst else rs.map Prod.fst ++ [k] := by
  unfold rPut
  split
  · rw [List.map_map]
    refine List.map_congr_left fun p _ => ?_
    show (if p.1 = k then (p.1, v) else p).1 = p.1
    split <;> rfl
  · rw [List.map_append]; rfl
theorem atI_nat {α : Type} {xs : List α} {n : Nat} {x : α} (e : xs[n]? = some x) : atI xs (n : Int) = some x := by
  unfold atI ixN
  have hl : n < xs.length := (List.getElem?_eq_some_iff.mp e).1
  rw [if_pos (by omega), if_pos (by omega)]
  show xs[(n : Int).toNat]? = some x
  rw [Int.toNat_natCast]; exact e
theorem atI_of {α : Type} {xs : List α} {i : Int} (h0 : 0 ≤ i) (h1 : i < xs.length) : ∃ x, x ∈ xs ∧ atI xs i = some x ∧ xs[i.toNat]? = some x := by
  have hl : i.toNat < xs.length := by omega
  refine ⟨xs[i.toNat], List.getElem_mem hl, ?_, List.getElem?_eq_getElem hl⟩
  have := atI_nat (xs := xs) (n := i.toNat) (List.getElem?_eq_getElem hl)
  rw [Int.toNat_of_nonneg h0] at this
  exact this
/-- what is left of the draw's body when the number at the place is known -/
theorem draw_tail {ns : List Int} {m a n c : Int} {rs : List (Int × Int)} {Q : D → Tn → Prop} {b : Stm} {S : Sl} (hb : S = [.val (.scr ns), .val .town, .val (.int m), .val (.int a), .val (.int n), .un]) (nd : (rs.map Prod.fst).Nodup) (hk : ∀ k ∈ rs.map Prod.fst, (0 : Int) ≤ k ∧ k < ((64 : Nat) : Int)) (a0 : 0 ≤ a) (a1 : a < 64) (h0 : 0 < m) (h1 : m < 1073741824) (hQ : ∀ r t', 0 ≤ r → r < m → TOk t' → Q (.int r) t') :
    W ((sSeq (sIf (eBin pGe (eVar 4) (eBin pPow (eC (.int 10)) (eC (.int 18)))) (sSeq (sTR 1 (eVar 3) (eBin pDiv (eVar 4) (eVar 2))) (sRet (eBin pMod (eVar 4) (eVar 2)))) sNil)
      (sSeq (sAsg 5 (eBin pMod (eBin pAdd (eVar 4) (eBin pMul (eC (.int 104729)) (eTC 1))) (eC (.int 4294967291))))
      (sSeq (sAsg 5 (eBin pMod (eBin pPow (eVar 5) (eC (.int 5))) (eC (.int 4294967279))))
      (sRet (eBin pMod (eBin pDiv (eBin pMod (eBin pAdd (eBin pMul (eBin pDiv (eVar 5) (eC (.int 64))) (eC (.int 69621))) (eVar 5)) (eC (.int 4294967231))) (eC (.int 8))) (eVar 2)))))) S (some (c, rs))) (Nx (fun _ t1 => Q .non t1) Q) := by
  subst hb
  repeat (first | (with_reducible first | refine w_seq ?_ | refine w_asg ?_ | refine w_asgP ?_ | refine pr_i ?_ | refine w_eqI ?_ | refine w_neI ?_ | refine w_own ?_ | refine w_par ?_ | refine w_parO ?_ | refine w_expr ?_ | refine w_if ?_ | refine w_sret ?_ | refine w_nil ?_ | refine w_for ?_ | refine w_bin ?_ | refine w_un ?_ | refine w_tup ?_ | refine w_lst ?_ | refine w_call ?_ | refine w_and ?_ | refine w_or ?_ | refine w_ife ?_ | refine w_chain ?_ | refine w_slice ?_ | refine w_oN ?_ | refine w_oS ?_ | refine w_comp ?_ | refine w_itSeq ?_ | refine w_itR ?_ | refine w_evnil ?_ | refine w_evcons ?_ | refine w_evc1 ?_ | refine w_evc0 ?_ | refine w_c ?_ | refine nx_nx ?_ | refine nx_ret ?_ | refine bl_i ?_ | refine in_i ?_ | refine sq_t ?_ | refine sq_l ?_ | refine ls_l ?_ | refine tp_t ?_ | refine w_not ?_ | refine w_addI ?_ | refine w_sub ?_ | refine w_xor ?_ | refine w_ltI ?_ | refine w_leI ?_ | refine w_gtI ?_ | refine w_geI ?_ | refine w_slT ?_ | refine w_slL ?_ | refine w_lenT ?_ | refine w_lenL ?_ | refine w_lenS ?_ | refine w_tupL ?_ | refine w_tupT ?_ | refine w_lstL ?_ | refine w_lstT ?_ | refine w_neg ?_ | refine w_isn ?_ | refine w_isnn ?_ | refine w_begun ?_ | refine w_ret ?_ | refine w_resE ?_) | (with_reducible refine w_var (by with_unfolding_all rfl) ?_) | (with_reducible refine w_peekV (by with_unfolding_all rfl) ?_) | (with_reducible refine w_peekO (by with_unfolding_all rfl) ?_) | (with_reducible refine w_app (by with_unfolding_all rfl) ?_) | (with_reducible refine w_frz (by with_unfolding_all rfl) ?_) | (with_reducible refine w_scr (by with_unfolding_all rfl) ?_) | (with_reducible refine w_tc (by with_unfolding_all rfl) ?_) | (with_reducible refine w_stc (by with_unfolding_all rfl) ?_) | (with_reducible refine w_tr (by with_unfolding_all rfl) ?_) | (with_reducible refine w_str (by with_unfolding_all rfl) ?_) | (with_reducible refine w_idxT (by with_unfolding_all rfl) ?_) | (with_reducible refine w_idxL (by with_unfolding_all rfl) ?_) | (with_reducible refine w_isi (by with_unfolding_all rfl) ?_) | ((with_reducible first | refine w_addT ?_ ?_ | refine w_addL ?_ ?_ | refine w_mulI ?_ ?_ | refine w_mulT ?_ ?_ | refine w_mulL ?_ ?_ | refine w_mod ?_ ?_ | refine w_div ?_ ?_ | refine w_pow ?_ ?_ | refine w_rng ?_ ?_); (first | decide | omega | (refine ⟨?_, ?_⟩ <;> omega) | (refine ⟨?_, ?_, ?_⟩ <;> omega) | (simp only [List.length_cons, List.length_nil, List.length_append, List.length_reverse, BL.cD_len, BL.iD_len, BL.mkx_len, BL.sizeL]; omega) | (refine ⟨List.cons_ne_nil _ _, ?_⟩; simp only [List.length_cons, List.length_nil]; omega))) | ((with_reducible first | refine w_eqD ?_ ?_ ?_ | refine w_neD ?_ ?_ ?_ | refine w_inT ?_ ?_ ?_ | refine w_inL ?_ ?_ ?_); (first | rfl | with_unfolding_all rfl); (first | rfl | with_unfolding_all rfl)) | ((with_reducible refine ift_of ?_ ?_); (with_unfolding_all rfl)) | ((with_reducible refine iff_of ?_ ?_); (with_unfolding_all rfl)) | ((with_reducible refine ift2_of ?_ ?_); (with_unfolding_all rfl)) | ((with_reducible refine iff2_of ?_ ?_); (with_unfolding_all rfl)) | ((with_reducible refine ift_of ?_ ?_); exact decide_eq_true (by omega)) | ((with_reducible refine iff_of ?_ ?_); exact decide_eq_false (by omega)) | ((with_reducible refine ift2_of ?_ ?_); exact decide_eq_true (by omega)) | ((with_reducible refine iff2_of ?_ ?_); exact decide_eq_false (by omega)))
  refine ⟨fun _ => ?_, fun _ => ?_⟩
  · repeat (first | (with_reducible first | refine w_seq ?_ | refine w_asg ?_ | refine w_asgP ?_ | refine pr_i ?_ | refine w_eqI ?_ | refine w_neI ?_ | refine w_own ?_ | refine w_par ?_ | refine w_parO ?_ | refine w_expr ?_ | refine w_if ?_ | refine w_sret ?_ | refine w_nil ?_ | refine w_for ?_ | refine w_bin ?_ | refine w_un ?_ | refine w_tup ?_ | refine w_lst ?_ | refine w_call ?_ | refine w_and ?_ | refine w_or ?_ | refine w_ife ?_ | refine w_chain ?_ | refine w_slice ?_ | refine w_oN ?_ | refine w_oS ?_ | refine w_comp ?_ | refine w_itSeq ?_ | refine w_itR ?_ | refine w_evnil ?_ | refine w_evcons ?_ | refine w_evc1 ?_ | refine w_evc0 ?_ | refine w_c ?_ | refine nx_nx ?_ | refine nx_ret ?_ | refine bl_i ?_ | refine in_i ?_ | refine sq_t ?_ | refine sq_l ?_ | refine ls_l ?_ | refine tp_t ?_ | refine w_not ?_ | refine w_addI ?_ | refine w_sub ?_ | refine w_xor ?_ | refine w_ltI ?_ | refine w_leI ?_ | refine w_gtI ?_ | refine w_geI ?_ | refine w_slT ?_ | refine w_slL ?_ | refine w_lenT ?_ | refine w_lenL ?_ | refine w_lenS ?_ | refine w_tupL ?_ | refine w_tupT ?_ | refine w_lstL ?_ | refine w_lstT ?_ | refine w_neg ?_ | refine w_isn ?_ | refine w_isnn ?_ | refine w_begun ?_ | refine w_ret ?_ | refine w_resE ?_) | (with_reducible refine w_var (by with_unfolding_all rfl) ?_) | (with_reducible refine w_peekV (by with_unfolding_all rfl) ?_) | (with_reducible refine w_peekO (by with_unfolding_all rfl) ?_) | (with_reducible refine w_app (by with_unfolding_all rfl) ?_) | (with_reducible refine w_frz (by with_unfolding_all rfl) ?_) | (with_reducible refine w_scr (by with_unfolding_all rfl) ?_) | (with_reducible refine w_tc (by with_unfolding_all rfl) ?_) | (with_reducible refine w_stc (by with_unfolding_all rfl) ?_) | (with_reducible refine w_tr (by with_unfolding_all rfl) ?_) | (with_reducible refine w_str (by with_unfolding_all rfl) ?_) | (with_reducible refine w_idxT (by with_unfolding_all rfl) ?_) | (with_reducible refine w_idxL (by with_unfolding_all rfl) ?_) | (with_reducible refine w_isi (by with_unfolding_all rfl) ?_) | ((with_reducible first | refine w_addT ?_ ?_ | refine w_addL ?_ ?_ | refine w_mulI ?_ ?_ | refine w_mulT ?_ ?_ | refine w_mulL ?_ ?_ | refine w_mod ?_ ?_ | refine w_div ?_ ?_ | refine w_pow ?_ ?_ | refine w_rng ?_ ?_); (first | decide | omega | (refine ⟨?_, ?_⟩ <;> omega) | (refine ⟨?_, ?_, ?_⟩ <;> omega) | (simp only [List.length_cons, List.length_nil, List.length_append, List.length_reverse, BL.cD_len, BL.iD_len, BL.mkx_len, BL.sizeL]; omega) | (refine ⟨List.cons_ne_nil _ _, ?_⟩; simp only [List.length_cons, List.length_nil]; omega))) | ((with_reducible first | refine w_eqD ?_ ?_ ?_ | refine w_neD ?_ ?_ ?_ | refine w_inT ?_ ?_ ?_ | refine w_inL ?_ ?_ ?_); (first | rfl | with_unfolding_all rfl); (first | rfl | with_unfolding_all rfl)) | ((with_reducible refine ift_of ?_ ?_); (with_unfolding_all rfl)) | ((with_reducible refine iff_of ?_ ?_); (with_unfolding_all rfl)) | ((with_reducible refine ift2_of ?_ ?_); (with_unfolding_all rfl)) | ((with_reducible refine iff2_of ?_ ?_); (with_unfolding_all rfl)) | ((with_reducible refine ift_of ?_ ?_); exact decide_eq_true (by omega)) | ((with_reducible refine iff_of ?_ ?_); exact decide_eq_false (by omega)) | ((with_reducible refine ift2_of ?_ ?_); exact decide_eq_true (by omega)) | ((with_reducible refine iff2_of ?_ ?_); exact decide_eq_false (by omega)))
    refine ⟨c, rs, rfl, ?_, ?_⟩
    · have := nd_le 64 _ nd hk
      rw [List.length_map] at this
      omega
    repeat (first | (with_reducible first | refine w_seq ?_ | refine w_asg ?_ | refine w_asgP ?_ | refine pr_i ?_ | refine w_eqI ?_ | refine w_neI ?_ | refine w_own ?_ | refine w_par ?_ | refine w_parO ?_ | refine w_expr ?_ | refine w_if ?_ | refine w_sret ?_ | refine w_nil ?_ | refine w_for ?_ | refine w_bin ?_ | refine w_un ?_ | refine w_tup ?_ | refine w_lst ?_ | refine w_call ?_ | refine w_and ?_ | refine w_or ?_ | refine w_ife ?_ | refine w_chain ?_ | refine w_slice ?_ | refine w_oN ?_ | refine w_oS ?_ | refine w_comp ?_ | refine w_itSeq ?_ | refine w_itR ?_ | refine w_evnil ?_ | refine w_evcons ?_ | refine w_evc1 ?_ | refine w_evc0 ?_ | refine w_c ?_ | refine nx_nx ?_ | refine nx_ret ?_ | refine bl_i ?_ | refine in_i ?_ | refine sq_t ?_ | refine sq_l ?_ | refine ls_l ?_ | refine tp_t ?_ | refine w_not ?_ | refine w_addI ?_ | refine w_sub ?_ | refine w_xor ?_ | refine w_ltI ?_ | refine w_leI ?_ | refine w_gtI ?_ | refine w_geI ?_ | refine w_slT ?_ | refine w_slL ?_ | refine w_lenT ?_ | refine w_lenL ?_ | refine w_lenS ?_ | refine w_tupL ?_ | refine w_tupT ?_ | refine w_lstL ?_ | refine w_lstT ?_ | refine w_neg ?_ | refine w_isn ?_ | refine w_isnn ?_ | refine w_begun ?_ | refine w_ret ?_ | refine w_resE ?_) | (with_reducible refine w_var (by with_unfolding_all rfl) ?_) | (with_reducible refine w_peekV (by with_unfolding_all rfl) ?_) | (with_reducible refine w_peekO (by with_unfolding_all rfl) ?_) | (with_reducible refine w_app (by with_unfolding_all rfl) ?_) | (with_reducible refine w_frz (by with_unfolding_all rfl) ?_) | (with_reducible refine w_scr (by with_unfolding_all rfl) ?_) | (with_reducible refine w_tc (by with_unfolding_all rfl) ?_) | (with_reducible refine w_stc (by with_unfolding_all rfl) ?_) | (with_reducible refine w_tr (by with_unfolding_all rfl) ?_) | (with_reducible refine w_str (by with_unfolding_all rfl) ?_) | (with_reducible refine w_idxT (by with_unfolding_all rfl) ?_) | (with_reducible refine w_idxL (by with_unfolding_all rfl) ?_) | (with_reducible refine w_isi (by with_unfolding_all rfl) ?_) | ((with_reducible first | refine w_addT ?_ ?_ | refine w_addL ?_ ?_ | refine w_mulI ?_ ?_ | refine w_mulT ?_ ?_ | refine w_mulL ?_ ?_ | refine w_mod ?_ ?_ | refine w_div ?_ ?_ | refine w_pow ?_ ?_ | refine w_rng ?_ ?_); (first | decide | omega | (refine ⟨?_, ?_⟩ <;> omega) | (refine ⟨?_, ?_, ?_⟩ <;> omega) | (simp only [List.length_cons, List.length_nil, List.length_append, List.length_reverse, BL.cD_len, BL.iD_len, BL.mkx_len, BL.sizeL]; omega) | (refine ⟨List.cons_ne_nil _ _, ?_⟩; simp only [List.length_cons, List.length_nil]; omega))) | ((with_reducible first | refine w_eqD ?_ ?_ ?_ | refine w_neD ?_ ?_ ?_ | refine w_inT ?_ ?_ ?_ | refine w_inL ?_ ?_ ?_); (first | rfl | with_unfolding_all rfl); (first | rfl | with_unfolding_all rfl)) | ((with_reducible refine ift_of ?_ ?_); (with_unfolding_all rfl)) | ((with_reducible refine iff_of ?_ ?_); (with_unfolding_all rfl)) | ((with_reducible refine ift2_of ?_ ?_); (with_unfolding_all rfl)) | ((with_reducible refine iff2_of ?_ ?_); (with_unfolding_all rfl)) | ((with_reducible refine ift_of ?_ ?_); exact decide_eq_true (by omega)) | ((with_reducible refine iff_of ?_ ?_); exact decide_eq_false (by omega)) | ((with_reducible refine ift2_of ?_ ?_); exact decide_eq_true (by omega)) | ((with_reducible refine iff2_of ?_ ?_); exact decide_eq_false (by omega)))
    refine hQ _ _ (Int.emod_nonneg _ (Int.ne_of_gt h0)) (Int.emod_lt_of_pos _ h0) ⟨c, _, rfl, ?_, ?_⟩
    · rw [rPut_keys]
      split
      · exact nd
      · rename_i hn
        refine List.nodup_append.mpr ⟨nd, List.nodup_cons.mpr ⟨fun h => (nomatch h), List.nodup_nil⟩, fun x hx y hy => ?_⟩
        rw [List.mem_singleton] at hy
        subst hy
        intro e
        subst e
        obtain ⟨p, hp, rfl⟩ := List.mem_map.mp hx
        exact hn (List.any_eq_true.mpr ⟨p, hp, decide_eq_true rfl⟩)
    · rw [rPut_keys]
      split
      · exact hk
      · intro k hk'
        rcases List.mem_append.mp hk' with h | h
        · exact hk k h
        · rw [List.mem_singleton] at h; omega
  · repeat (first | (with_reducible first | refine w_seq ?_ | refine w_asg ?_ | refine w_asgP ?_ | refine pr_i ?_ | refine w_eqI ?_ | refine w_neI ?_ | refine w_own ?_ | refine w_par ?_ | refine w_parO ?_ | refine w_expr ?_ | refine w_if ?_ | refine w_sret ?_ | refine w_nil ?_ | refine w_for ?_ | refine w_bin ?_ | refine w_un ?_ | refine w_tup ?_ | refine w_lst ?_ | refine w_call ?_ | refine w_and ?_ | refine w_or ?_ | refine w_ife ?_ | refine w_chain ?_ | refine w_slice ?_ | refine w_oN ?_ | refine w_oS ?_ | refine w_comp ?_ | refine w_itSeq ?_ | refine w_itR ?_ | refine w_evnil ?_ | refine w_evcons ?_ | refine w_evc1 ?_ | refine w_evc0 ?_ | refine w_c ?_ | refine nx_nx ?_ | refine nx_ret ?_ | refine bl_i ?_ | refine in_i ?_ | refine sq_t ?_ | refine sq_l ?_ | refine ls_l ?_ | refine tp_t ?_ | refine w_not ?_ | refine w_addI ?_ | refine w_sub ?_ | refine w_xor ?_ | refine w_ltI ?_ | refine w_leI ?_ | refine w_gtI ?_ | refine w_geI ?_ | refine w_slT ?_ | refine w_slL ?_ | refine w_lenT ?_ | refine w_lenL ?_ | refine w_lenS ?_ | refine w_tupL ?_ | refine w_tupT ?_ | refine w_lstL ?_ | refine w_lstT ?_ | refine w_neg ?_ | refine w_isn ?_ | refine w_isnn ?_ | refine w_begun ?_ | refine w_ret ?_ | refine w_resE ?_) | (with_reducible refine w_var (by with_unfolding_all rfl) ?_) | (with_reducible refine w_peekV (by with_unfolding_all rfl) ?_) | (with_reducible refine w_peekO (by with_unfolding_all rfl) ?_) | (with_reducible refine w_app (by with_unfolding_all rfl) ?_) | (with_reducible refine w_frz (by with_unfolding_all rfl) ?_) | (with_reducible refine w_scr (by with_unfolding_all rfl) ?_) | (with_reducible refine w_tc (by with_unfolding_all rfl) ?_) | (with_reducible refine w_stc (by with_unfolding_all rfl) ?_) | (with_reducible refine w_tr (by with_unfolding_all rfl) ?_) | (with_reducible refine w_str (by with_unfolding_all rfl) ?_) | (with_reducible refine w_idxT (by with_unfolding_all rfl) ?_) | (with_reducible refine w_idxL (by with_unfolding_all rfl) ?_) | (with_reducible refine w_isi (by with_unfolding_all rfl) ?_) | ((with_reducible first | refine w_addT ?_ ?_ | refine w_addL ?_ ?_ | refine w_mulI ?_ ?_ | refine w_mulT ?_ ?_ | refine w_mulL ?_ ?_ | refine w_mod ?_ ?_ | refine w_div ?_ ?_ | refine w_pow ?_ ?_ | refine w_rng ?_ ?_); (first | decide | omega | (refine ⟨?_, ?_⟩ <;> omega) | (refine ⟨?_, ?_, ?_⟩ <;> omega) | (simp only [List.length_cons, List.length_nil, List.length_append, List.length_reverse, BL.cD_len, BL.iD_len, BL.mkx_len, BL.sizeL]; omega) | (refine ⟨List.cons_ne_nil _ _, ?_⟩; simp only [List.length_cons, List.length_nil]; omega))) | ((with_reducible first | refine w_eqD ?_ ?_ ?_ | refine w_neD ?_ ?_ ?_ | refine w_inT ?_ ?_ ?_ | refine w_inL ?_ ?_ ?_); (first | rfl | with_unfolding_all rfl); (first | rfl | with_unfolding_all rfl)) | ((with_reducible refine ift_of ?_ ?_); (with_unfolding_all rfl)) | ((with_reducible refine iff_of ?_ ?_); (with_unfolding_all rfl)) | ((with_reducible refine ift2_of ?_ ?_); (with_unfolding_all rfl)) | ((with_reducible refine iff2_of ?_ ?_); (with_unfolding_all rfl)) | ((with_reducible refine ift_of ?_ ?_); exact decide_eq_true (by omega)) | ((with_reducible refine iff_of ?_ ?_); exact decide_eq_false (by omega)) | ((with_reducible refine ift2_of ?_ ?_); exact decide_eq_true (by omega)) | ((with_reducible refine iff2_of ?_ ?_); exact decide_eq_false (by omega)))
    exact hQ _ _ (Int.emod_nonneg _ (Int.ne_of_gt h0)) (Int.emod_lt_of_pos _ h0) ⟨c, rs, rfl, nd, hk⟩
theorem w_draw {ns : List Int} {m : Int} {t : Tn} {Q : D → Tn → Prop} (hl : ns.length ≤ 63) (ht : TOk t) (h0 : 0 < m) (h1 : m < 1073741824) (hQ : ∀ r t', 0 ≤ r → r < m → TOk t' → Q (.int r) t') : W (f_law_draw [.scr ns, .town, .int m] t) Q := by
  obtain ⟨c, rs, rfl, nd, hk⟩ := ht.ex
  refine w_fn ?_
  show W (b_law_draw [.val (.scr ns), .val .town, .val (.int m), .un, .un, .un] _) _
  unfold b_law_draw
  cases ns with
  | nil =>
    repeat (first | (with_reducible first | refine w_seq ?_ | refine w_asg ?_ | refine w_asgP ?_ | refine pr_i ?_ | refine w_eqI ?_ | refine w_neI ?_ | refine w_own ?_ | refine w_par ?_ | refine w_parO ?_ | refine w_expr ?_ | refine w_if ?_ | refine w_sret ?_ | refine w_nil ?_ | refine w_for ?_ | refine w_bin ?_ | refine w_un ?_ | refine w_tup ?_ | refine w_lst ?_ | refine w_call ?_ | refine w_and ?_ | refine w_or ?_ | refine w_ife ?_ | refine w_chain ?_ | refine w_slice ?_ | refine w_oN ?_ | refine w_oS ?_ | refine w_comp ?_ | refine w_itSeq ?_ | refine w_itR ?_ | refine w_evnil ?_ | refine w_evcons ?_ | refine w_evc1 ?_ | refine w_evc0 ?_ | refine w_c ?_ | refine nx_nx ?_ | refine nx_ret ?_ | refine bl_i ?_ | refine in_i ?_ | refine sq_t ?_ | refine sq_l ?_ | refine ls_l ?_ | refine tp_t ?_ | refine w_not ?_ | refine w_addI ?_ | refine w_sub ?_ | refine w_xor ?_ | refine w_ltI ?_ | refine w_leI ?_ | refine w_gtI ?_ | refine w_geI ?_ | refine w_slT ?_ | refine w_slL ?_ | refine w_lenT ?_ | refine w_lenL ?_ | refine w_lenS ?_ | refine w_tupL ?_ | refine w_tupT ?_ | refine w_lstL ?_ | refine w_lstT ?_ | refine w_neg ?_ | refine w_isn ?_ | refine w_isnn ?_ | refine w_begun ?_ | refine w_ret ?_ | refine w_resE ?_) | (with_reducible refine w_var (by with_unfolding_all rfl) ?_) | (with_reducible refine w_peekV (by with_unfolding_all rfl) ?_) | (with_reducible refine w_peekO (by with_unfolding_all rfl) ?_) | (with_reducible refine w_app (by with_unfolding_all rfl) ?_) | (with_reducible refine w_frz (by with_unfolding_all rfl) ?_) | (with_reducible refine w_scr (by with_unfolding_all rfl) ?_) | (with_reducible refine w_tc (by with_unfolding_all rfl) ?_) | (with_reducible refine w_stc (by with_unfolding_all rfl) ?_) | (with_reducible refine w_tr (by with_unfolding_all rfl) ?_) | (with_reducible refine w_str (by with_unfolding_all rfl) ?_) | (with_reducible refine w_idxT (by with_unfolding_all rfl) ?_) | (with_reducible refine w_idxL (by with_unfolding_all rfl) ?_) | (with_reducible refine w_isi (by with_unfolding_all rfl) ?_) | ((with_reducible first | refine w_addT ?_ ?_ | refine w_addL ?_ ?_ | refine w_mulI ?_ ?_ | refine w_mulT ?_ ?_ | refine w_mulL ?_ ?_ | refine w_mod ?_ ?_ | refine w_div ?_ ?_ | refine w_pow ?_ ?_ | refine w_rng ?_ ?_); (first | decide | omega | (refine ⟨?_, ?_⟩ <;> omega) | (refine ⟨?_, ?_, ?_⟩ <;> omega) | (simp only [List.length_cons, List.length_nil, List.length_append, List.length_reverse, BL.cD_len, BL.iD_len, BL.mkx_len, BL.sizeL]; omega) | (refine ⟨List.cons_ne_nil _ _, ?_⟩; simp only [List.length_cons, List.length_nil]; omega))) | ((with_reducible first | refine w_eqD ?_ ?_ ?_ | refine w_neD ?_ ?_ ?_ | refine w_inT ?_ ?_ ?_ | refine w_inL ?_ ?_ ?_); (first | rfl | with_unfolding_all rfl); (first | rfl | with_unfolding_all rfl)) | ((with_reducible refine ift_of ?_ ?_); (with_unfolding_all rfl)) | ((with_reducible refine iff_of ?_ ?_); (with_unfolding_all rfl)) | ((with_reducible refine ift2_of ?_ ?_); (with_unfolding_all rfl)) | ((with_reducible refine iff2_of ?_ ?_); (with_unfolding_all rfl)) | ((with_reducible refine ift_of ?_ ?_); exact decide_eq_true (by omega)) | ((with_reducible refine iff_of ?_ ?_); exact decide_eq_false (by omega)) | ((with_reducible refine ift2_of ?_ ?_); exact decide_eq_true (by omega)) | ((with_reducible refine iff2_of ?_ ?_); exact decide_eq_false (by omega)))
    refine ⟨c, rs, rfl, ?_⟩
    repeat (first | (with_reducible first | refine w_seq ?_ | refine w_asg ?_ | refine w_asgP ?_ | refine pr_i ?_ | refine w_eqI ?_ | refine w_neI ?_ | refine w_own ?_ | refine w_par ?_ | refine w_parO ?_ | refine w_expr ?_ | refine w_if ?_ | refine w_sret ?_ | refine w_nil ?_ | refine w_for ?_ | refine w_bin ?_ | refine w_un ?_ | refine w_tup ?_ | refine w_lst ?_ | refine w_call ?_ | refine w_and ?_ | refine w_or ?_ | refine w_ife ?_ | refine w_chain ?_ | refine w_slice ?_ | refine w_oN ?_ | refine w_oS ?_ | refine w_comp ?_ | refine w_itSeq ?_ | refine w_itR ?_ | refine w_evnil ?_ | refine w_evcons ?_ | refine w_evc1 ?_ | refine w_evc0 ?_ | refine w_c ?_ | refine nx_nx ?_ | refine nx_ret ?_ | refine bl_i ?_ | refine in_i ?_ | refine sq_t ?_ | refine sq_l ?_ | refine ls_l ?_ | refine tp_t ?_ | refine w_not ?_ | refine w_addI ?_ | refine w_sub ?_ | refine w_xor ?_ | refine w_ltI ?_ | refine w_leI ?_ | refine w_gtI ?_ | refine w_geI ?_ | refine w_slT ?_ | refine w_slL ?_ | refine w_lenT ?_ | refine w_lenL ?_ | refine w_lenS ?_ | refine w_tupL ?_ | refine w_tupT ?_ | refine w_lstL ?_ | refine w_lstT ?_ | refine w_neg ?_ | refine w_isn ?_ | refine w_isnn ?_ | refine w_begun ?_ | refine w_ret ?_ | refine w_resE ?_) | (with_reducible refine w_var (by with_unfolding_all rfl) ?_) | (with_reducible refine w_peekV (by with_unfolding_all rfl) ?_) | (with_reducible refine w_peekO (by with_unfolding_all rfl) ?_) | (with_reducible refine w_app (by with_unfolding_all rfl) ?_) | (with_reducible refine w_frz (by with_unfolding_all rfl) ?_) | (with_reducible refine w_scr (by with_unfolding_all rfl) ?_) | (with_reducible refine w_tc (by with_unfolding_all rfl) ?_) | (with_reducible refine w_stc (by with_unfolding_all rfl) ?_) | (with_reducible refine w_tr (by with_unfolding_all rfl) ?_) | (with_reducible refine w_str (by with_unfolding_all rfl) ?_) | (with_reducible refine w_idxT (by with_unfolding_all rfl) ?_) | (with_reducible refine w_idxL (by with_unfolding_all rfl) ?_) | (with_reducible refine w_isi (by with_unfolding_all rfl) ?_) | ((with_reducible first | refine w_addT ?_ ?_ | refine w_addL ?_ ?_ | refine w_mulI ?_ ?_ | refine w_mulT ?_ ?_ | refine w_mulL ?_ ?_ | refine w_mod ?_ ?_ | refine w_div ?_ ?_ | refine w_pow ?_ ?_ | refine w_rng ?_ ?_); (first | decide | omega | (refine ⟨?_, ?_⟩ <;> omega) | (refine ⟨?_, ?_, ?_⟩ <;> omega) | (simp only [List.length_cons, List.length_nil, List.length_append, List.length_reverse, BL.cD_len, BL.iD_len, BL.mkx_len, BL.sizeL]; omega) | (refine ⟨List.cons_ne_nil _ _, ?_⟩; simp only [List.length_cons, List.length_nil]; omega))) | ((with_reducible first | refine w_eqD ?_ ?_ ?_ | refine w_neD ?_ ?_ ?_ | refine w_inT ?_ ?_ ?_ | refine w_inL ?_ ?_ ?_); (first | rfl | with_unfolding_all rfl); (first | rfl | with_unfolding_all rfl)) | ((with_reducible refine ift_of ?_ ?_); (with_unfolding_all rfl)) | ((with_reducible refine iff_of ?_ ?_); (with_unfolding_all rfl)) | ((with_reducible refine ift2_of ?_ ?_); (with_unfolding_all rfl)) | ((with_reducible refine iff2_of ?_ ?_); (with_unfolding_all rfl)) | ((with_reducible refine ift_of ?_ ?_); exact decide_eq_true (by omega)) | ((with_reducible refine iff_of ?_ ?_); exact decide_eq_false (by omega)) | ((with_reducible refine ift2_of ?_ ?_); exact decide_eq_true (by omega)) | ((with_reducible refine iff2_of ?_ ?_); exact decide_eq_false (by omega)))
    refine ⟨c + 1, rs, rfl, ?_⟩
    refine nx_nx ?_
    cases rLook rs 0 with
    | none => exact draw_tail (b := sNil) rfl nd hk (by decide) (by decide) h0 h1 hQ
    | some v => exact draw_tail (b := sNil) rfl nd hk (by decide) (by decide) h0 h1 hQ
  | cons x r =>
    have hp : 0 < ((x :: r).length : Int) := by simp only [List.length_cons]; omega
    have a1 := Int.emod_nonneg (c + 1) (Int.ne_of_gt hp)
    have a2 := Int.emod_lt_of_pos (c + 1) hp
    obtain ⟨y, _, hy, _⟩ := atI_of a1 a2
    repeat (first | (with_reducible first | refine w_seq ?_ | refine w_asg ?_ | refine w_asgP ?_ | refine pr_i ?_ | refine w_eqI ?_ | refine w_neI ?_ | refine w_own ?_ | refine w_par ?_ | refine w_parO ?_ | refine w_expr ?_ | refine w_if ?_ | refine w_sret ?_ | refine w_nil ?_ | refine w_for ?_ | refine w_bin ?_ | refine w_un ?_ | refine w_tup ?_ | refine w_lst ?_ | refine w_call ?_ | refine w_and ?_ | refine w_or ?_ | refine w_ife ?_ | refine w_chain ?_ | refine w_slice ?_ | refine w_oN ?_ | refine w_oS ?_ | refine w_comp ?_ | refine w_itSeq ?_ | refine w_itR ?_ | refine w_evnil ?_ | refine w_evcons ?_ | refine w_evc1 ?_ | refine w_evc0 ?_ | refine w_c ?_ | refine nx_nx ?_ | refine nx_ret ?_ | refine bl_i ?_ | refine in_i ?_ | refine sq_t ?_ | refine sq_l ?_ | refine ls_l ?_ | refine tp_t ?_ | refine w_not ?_ | refine w_addI ?_ | refine w_sub ?_ | refine w_xor ?_ | refine w_ltI ?_ | refine w_leI ?_ | refine w_gtI ?_ | refine w_geI ?_ | refine w_slT ?_ | refine w_slL ?_ | refine w_lenT ?_ | refine w_lenL ?_ | refine w_lenS ?_ | refine w_tupL ?_ | refine w_tupT ?_ | refine w_lstL ?_ | refine w_lstT ?_ | refine w_neg ?_ | refine w_isn ?_ | refine w_isnn ?_ | refine w_begun ?_ | refine w_ret ?_ | refine w_resE ?_) | (with_reducible refine w_var (by with_unfolding_all rfl) ?_) | (with_reducible refine w_peekV (by with_unfolding_all rfl) ?_) | (with_reducible refine w_peekO (by with_unfolding_all rfl) ?_) | (with_reducible refine w_app (by with_unfolding_all rfl) ?_) | (with_reducible refine w_frz (by with_unfolding_all rfl) ?_) | (with_reducible refine w_scr (by with_unfolding_all rfl) ?_) | (with_reducible refine w_tc (by with_unfolding_all rfl) ?_) | (with_reducible refine w_stc (by with_unfolding_all rfl) ?_) | (with_reducible refine w_tr (by with_unfolding_all rfl) ?_) | (with_reducible refine w_str (by with_unfolding_all rfl) ?_) | (with_reducible refine w_idxT (by with_unfolding_all rfl) ?_) | (with_reducible refine w_idxL (by with_unfolding_all rfl) ?_) | (with_reducible refine w_isi (by with_unfolding_all rfl) ?_) | ((with_reducible first | refine w_addT ?_ ?_ | refine w_addL ?_ ?_ | refine w_mulI ?_ ?_ | refine w_mulT ?_ ?_ | refine w_mulL ?_ ?_ | refine w_mod ?_ ?_ | refine w_div ?_ ?_ | refine w_pow ?_ ?_ | refine w_rng ?_ ?_); (first | decide | omega | (refine ⟨?_, ?_⟩ <;> omega) | (refine ⟨?_, ?_, ?_⟩ <;> omega) | (simp only [List.length_cons, List.length_nil, List.length_append, List.length_reverse, BL.cD_len, BL.iD_len, BL.mkx_len, BL.sizeL]; omega) | (refine ⟨List.cons_ne_nil _ _, ?_⟩; simp only [List.length_cons, List.length_nil]; omega))) | ((with_reducible first | refine w_eqD ?_ ?_ ?_ | refine w_neD ?_ ?_ ?_ | refine w_inT ?_ ?_ ?_ | refine w_inL ?_ ?_ ?_); (first | rfl | with_unfolding_all rfl); (first | rfl | with_unfolding_all rfl)) | ((with_reducible refine ift_of ?_ ?_); (with_unfolding_all rfl)) | ((with_reducible refine iff_of ?_ ?_); (with_unfolding_all rfl)) | ((with_reducible refine ift2_of ?_ ?_); (with_unfolding_all rfl)) | ((with_reducible refine iff2_of ?_ ?_); (with_unfolding_all rfl)) | ((with_reducible refine ift_of ?_ ?_); exact decide_eq_true (by omega)) | ((with_reducible refine iff_of ?_ ?_); exact decide_eq_false (by omega)) | ((with_reducible refine ift2_of ?_ ?_); exact decide_eq_true (by omega)) | ((with_reducible refine iff2_of ?_ ?_); exact decide_eq_false (by omega)))
    refine ⟨c, rs, rfl, ?_⟩
    repeat (first | (with_reducible first | refine w_seq ?_ | refine w_asg ?_ | refine w_asgP ?_ | refine pr_i ?_ | refine w_eqI ?_ | refine w_neI ?_ | refine w_own ?_ | refine w_par ?_ | refine w_parO ?_ | refine w_expr ?_ | refine w_if ?_ | refine w_sret ?_ | refine w_nil ?_ | refine w_for ?_ | refine w_bin ?_ | refine w_un ?_ | refine w_tup ?_ | refine w_lst ?_ | refine w_call ?_ | refine w_and ?_ | refine w_or ?_ | refine w_ife ?_ | refine w_chain ?_ | refine w_slice ?_ | refine w_oN ?_ | refine w_oS ?_ | refine w_comp ?_ | refine w_itSeq ?_ | refine w_itR ?_ | refine w_evnil ?_ | refine w_evcons ?_ | refine w_evc1 ?_ | refine w_evc0 ?_ | refine w_c ?_ | refine nx_nx ?_ | refine nx_ret ?_ | refine bl_i ?_ | refine in_i ?_ | refine sq_t ?_ | refine sq_l ?_ | refine ls_l ?_ | refine tp_t ?_ | refine w_not ?_ | refine w_addI ?_ | refine w_sub ?_ | refine w_xor ?_ | refine w_ltI ?_ | refine w_leI ?_ | refine w_gtI ?_ | refine w_geI ?_ | refine w_slT ?_ | refine w_slL ?_ | refine w_lenT ?_ | refine w_lenL ?_ | refine w_lenS ?_ | refine w_tupL ?_ | refine w_tupT ?_ | refine w_lstL ?_ | refine w_lstT ?_ | refine w_neg ?_ | refine w_isn ?_ | refine w_isnn ?_ | refine w_begun ?_ | refine w_ret ?_ | refine w_resE ?_) | (with_reducible refine w_var (by with_unfolding_all rfl) ?_) | (with_reducible refine w_peekV (by with_unfolding_all rfl) ?_) | (with_reducible refine w_peekO (by with_unfolding_all rfl) ?_) | (with_reducible refine w_app (by with_unfolding_all rfl) ?_) | (with_reducible refine w_frz (by with_unfolding_all rfl) ?_) | (with_reducible refine w_scr (by with_unfolding_all rfl) ?_) | (with_reducible refine w_tc (by with_unfolding_all rfl) ?_) | (with_reducible refine w_stc (by with_unfolding_all rfl) ?_) | (with_reducible refine w_tr (by with_unfolding_all rfl) ?_) | (with_reducible refine w_str (by with_unfolding_all rfl) ?_) | (with_reducible refine w_idxT (by with_unfolding_all rfl) ?_) | (with_reducible refine w_idxL (by with_unfolding_all rfl) ?_) | (with_reducible refine w_isi (by with_unfolding_all rfl) ?_) | ((with_reducible first | refine w_addT ?_ ?_ | refine w_addL ?_ ?_ | refine w_mulI ?_ ?_ | refine w_mulT ?_ ?_ | refine w_mulL ?_ ?_ | refine w_mod ?_ ?_ | refine w_div ?_ ?_ | refine w_pow ?_ ?_ | refine w_rng ?_ ?_); (first | decide | omega | (refine ⟨?_, ?_⟩ <;> omega) | (refine ⟨?_, ?_, ?_⟩ <;> omega) | (simp only [List.length_cons, List.length_nil, List.length_append, List.length_reverse, BL.cD_len, BL.iD_len, BL.mkx_len, BL.sizeL]; omega) | (refine ⟨List.cons_ne_nil _ _, ?_⟩; simp only [List.length_cons, List.length_nil]; omega))) | ((with_reducible first | refine w_eqD ?_ ?_ ?_ | refine w_neD ?_ ?_ ?_ | refine w_inT ?_ ?_ ?_ | refine w_inL ?_ ?_ ?_); (first | rfl | with_unfolding_all rfl); (first | rfl | with_unfolding_all rfl)) | ((with_reducible refine ift_of ?_ ?_); (with_unfolding_all rfl)) | ((with_reducible refine iff_of ?_ ?_); (with_unfolding_all rfl)) | ((with_reducible refine ift2_of ?_ ?_); (with_unfolding_all rfl)) | ((with_reducible refine iff2_of ?_ ?_); (with_unfolding_all rfl)) | ((with_reducible refine ift_of ?_ ?_); exact decide_eq_true (by omega)) | ((with_reducible refine iff_of ?_ ?_); exact decide_eq_false (by omega)) | ((with_reducible refine ift2_of ?_ ?_); exact decide_eq_true (by omega)) | ((with_reducible refine iff2_of ?_ ?_); exact decide_eq_false (by omega)))
    refine w_idxS hy ?_
    refine ⟨c + 1, rs, rfl, ?_⟩
    refine nx_nx ?_
    cases rLook rs ((c + 1) % ((x :: r).length : Int)) with
    | none => exact draw_tail (b := sNil) rfl nd hk a1 (by omega) h0 h1 hQ
    | some v => exact draw_tail (b := sNil) rfl nd hk a1 (by omega) h0 h1 hQ
end BL
set_option Elab.async false
set_option linter.all false
set_option maxRecDepth 100000
set_option maxHeartbeats 4000000
namespace BL
open PySem BG L2
def gts : List D := [.tup [.str "both", .int 0, .int 1, .int 2], .tup [.str "both", .int 0, .int 2, .int 1], .tup [.str "both", .int 1, .int 2, .int 0], .tup [.str "if", .int 0, .int 1], .tup [.str "if", .int 0, .int 2], .tup [.str "if", .int 1, .int 0], .tup [.str "if", .int 1, .int 2], .tup [.str "if", .int 2, .int 0], .tup [.str "if", .int 2, .int 1], .tup [.str "not", .int 0], .tup [.str "not", .int 1], .tup [.str "not", .int 2], .tup [.str "pick", .int 0, .int 1, .int 2], .tup [.str "pick", .int 1, .int 0, .int 2], .tup [.str "pick", .int 2, .int 0, .int 1], .tup [.str "swap", .int 0, .int 1], .tup [.str "swap", .int 0, .int 2], .tup [.str "swap", .int 1, .int 2]]
theorem gts_len : gts.length = 18 := by decide +kernel
theorem okA_of {ds : List D} {n : Nat} (h : ∀ d ∈ ds, okD d n = true) : okA ds n = true := by rw [okA_all]; exact List.all_eq_true.mpr h
theorem noblA_of : ∀ {ds : List D}, (∀ d ∈ ds, nobl d = true) → noblA ds = true
  | [], _ => rfl
  | d :: ds, h => by
    show (nobl d && noblA ds) = true
    rw [h d (List.mem_cons_self ..), noblA_of fun d hd => h d (List.mem_cons_of_mem _ hd)]; rfl
theorem perm_erase {α : Type} : ∀ {l : List α} {n : Nat} (h : n < l.length), (l[n] :: l.eraseIdx n).Perm l
  | x :: l, 0, _ => .refl _
  | x :: l, n + 1, h => by
    show (l[n]'(Nat.lt_of_succ_lt_succ h) :: x :: l.eraseIdx n).Perm (x :: l)
    exact (List.Perm.swap ..).trans ((perm_erase (l := l) (n := n) (Nat.lt_of_succ_lt_succ h)).cons x)
def iD (ws : List Nat) : List D := ws.map fun (w : Nat) => D.int (w : Int)
theorem iD_len (ws : List Nat) : (iD ws).length = ws.length := List.length_map _
theorem iD_app (a b : List Nat) : iD (a ++ b) = iD a ++ iD b := List.map_append
theorem sIx_le {n d k : Nat} (h : k ≤ n) : HT.sIx n d (some (k : Int)) = k := by rw [HT.sIx_nat]; omega
theorem cutD_take {ds : List D} {k : Nat} (h : k ≤ ds.length) : cutD ds none (some (k : Int)) = ds.take k := by
  unfold cutD
  rw [sIx_le h]
  show (ds.drop 0).take (k - 0) = _
  rw [List.drop_zero, Nat.sub_zero]
theorem cutD_drop {ds : List D} {k : Nat} (h : k ≤ ds.length) : cutD ds (some (k : Int)) none = ds.drop k := by
  unfold cutD
  rw [sIx_le h]
  show (ds.drop k).take (ds.length - k) = _
  rw [List.take_of_length_le]
  rw [List.length_drop]; exact Nat.le_refl _
theorem w_exchange {ns : List Int} {t : Tn} {Q : D → Tn → Prop} (hl : ns.length ≤ 63) (ht : TOk t) (hQ : ∀ ws t', ws.Perm (List.range 8) → TOk t' → Q (.tup (iD ws)) t') : W (f_law_exchange [.scr ns, .town] t) Q := by
  refine w_fn ?_
  show W (b_law_exchange [.val (.scr ns), .val .town, .un, .un, .un, .un] _) _
  unfold b_law_exchange
  repeat (first | (with_reducible first | refine w_seq ?_ | refine w_asg ?_ | refine w_asgP ?_ | refine pr_i ?_ | refine w_eqI ?_ | refine w_neI ?_ | refine w_own ?_ | refine w_par ?_ | refine w_parO ?_ | refine w_expr ?_ | refine w_if ?_ | refine w_sret ?_ | refine w_nil ?_ | refine w_for ?_ | refine w_bin ?_ | refine w_un ?_ | refine w_tup ?_ | refine w_lst ?_ | refine w_call ?_ | refine w_and ?_ | refine w_or ?_ | refine w_ife ?_ | refine w_chain ?_ | refine w_slice ?_ | refine w_oN ?_ | refine w_oS ?_ | refine w_comp ?_ | refine w_itSeq ?_ | refine w_itR ?_ | refine w_evnil ?_ | refine w_evcons ?_ | refine w_evc1 ?_ | refine w_evc0 ?_ | refine w_c ?_ | refine nx_nx ?_ | refine nx_ret ?_ | refine bl_i ?_ | refine in_i ?_ | refine sq_t ?_ | refine sq_l ?_ | refine ls_l ?_ | refine tp_t ?_ | refine w_not ?_ | refine w_addI ?_ | refine w_sub ?_ | refine w_xor ?_ | refine w_ltI ?_ | refine w_leI ?_ | refine w_gtI ?_ | refine w_geI ?_ | refine w_slT ?_ | refine w_slL ?_ | refine w_lenT ?_ | refine w_lenL ?_ | refine w_lenS ?_ | refine w_tupL ?_ | refine w_tupT ?_ | refine w_lstL ?_ | refine w_lstT ?_ | refine w_neg ?_ | refine w_isn ?_ | refine w_isnn ?_ | refine w_begun ?_ | refine w_ret ?_ | refine w_resE ?_) | (with_reducible refine w_var (by with_unfolding_all rfl) ?_) | (with_reducible refine w_peekV (by with_unfolding_all rfl) ?_) | (with_reducible refine w_peekO (by with_unfolding_all rfl) ?_) | (with_reducible refine w_app (by with_unfolding_all rfl) ?_) | (with_reducible refine w_frz (by with_unfolding_all rfl) ?_) | (with_reducible refine w_scr (by with_unfolding_all rfl) ?_) | (with_reducible refine w_tc (by with_unfolding_all rfl) ?_) | (with_reducible refine w_stc (by with_unfolding_all rfl) ?_) | (with_reducible refine w_tr (by with_unfolding_all rfl) ?_) | (with_reducible refine w_str (by with_unfolding_all rfl) ?_) | (with_reducible refine w_idxT (by with_unfolding_all rfl) ?_) | (with_reducible refine w_idxL (by with_unfolding_all rfl) ?_) | (with_reducible refine w_isi (by with_unfolding_all rfl) ?_) | ((with_reducible first | refine w_addT ?_ ?_ | refine w_addL ?_ ?_ | refine w_mulI ?_ ?_ | refine w_mulT ?_ ?_ | refine w_mulL ?_ ?_ | refine w_mod ?_ ?_ | refine w_div ?_ ?_ | refine w_pow ?_ ?_ | refine w_rng ?_ ?_); (first | decide | omega | (refine ⟨?_, ?_⟩ <;> omega) | (refine ⟨?_, ?_, ?_⟩ <;> omega) | (simp only [List.length_cons, List.length_nil, List.length_append, List.length_reverse, BL.cD_len, BL.iD_len, BL.mkx_len, BL.sizeL]; omega) | (refine ⟨List.cons_ne_nil _ _, ?_⟩; simp only [List.length_cons, List.length_nil]; omega))) | ((with_reducible first | refine w_eqD ?_ ?_ ?_ | refine w_neD ?_ ?_ ?_ | refine w_inT ?_ ?_ ?_ | refine w_inL ?_ ?_ ?_); (first | rfl | with_unfolding_all rfl); (first | rfl | with_unfolding_all rfl)) | ((with_reducible refine ift_of ?_ ?_); (with_unfolding_all rfl)) | ((with_reducible refine iff_of ?_ ?_); (with_unfolding_all rfl)) | ((with_reducible refine ift2_of ?_ ?_); (with_unfolding_all rfl)) | ((with_reducible refine iff2_of ?_ ?_); (with_unfolding_all rfl)) | ((with_reducible refine ift_of ?_ ?_); exact decide_eq_true (by omega)) | ((with_reducible refine iff_of ?_ ?_); exact decide_eq_false (by omega)) | ((with_reducible refine ift2_of ?_ ?_); exact decide_eq_true (by omega)) | ((with_reducible refine iff2_of ?_ ?_); exact decide_eq_false (by omega)))
  refine ⟨by decide, by decide, ?_⟩
  refine w_forI (fun k S t => ∃ r f x4 x5, S = [.val (.scr ns), .val .town, .val (.lst (iD r)), .own (iD f), x4, x5] ∧ (f ++ r).Perm (List.range 8) ∧ f.length = k ∧ TOk t) (k := 0) ⟨List.range 8, [], .un, .un, rfl, .refl _, rfl, ht⟩ (fun i d hd S t ⟨r, f, x4, x5, hS, hp, hf, ht⟩ => ?_) fun S t ⟨r, f, x4, x5, hS, hp, hf, ht⟩ => ?_
  · subst hS
    refine ⟨_, rfl, ?_⟩
    show W _ _
    have hi : i < 8 := (List.getElem?_eq_some_iff.mp hd).1
    have hlen : f.length + r.length = 8 := by have := hp.length_eq; rw [List.length_append, List.length_range] at this; exact this
    have hr : r.length ≤ 8 ∧ 0 < r.length := by omega
    have hr2 := iD_len r
    repeat (first | (with_reducible refine w_draw hl ht (by omega) (by omega) fun z t' z0 z1 ht' => ?_) | (with_reducible first | refine w_seq ?_ | refine w_asg ?_ | refine w_asgP ?_ | refine pr_i ?_ | refine w_eqI ?_ | refine w_neI ?_ | refine w_own ?_ | refine w_par ?_ | refine w_parO ?_ | refine w_expr ?_ | refine w_if ?_ | refine w_sret ?_ | refine w_nil ?_ | refine w_for ?_ | refine w_bin ?_ | refine w_un ?_ | refine w_tup ?_ | refine w_lst ?_ | refine w_call ?_ | refine w_and ?_ | refine w_or ?_ | refine w_ife ?_ | refine w_chain ?_ | refine w_slice ?_ | refine w_oN ?_ | refine w_oS ?_ | refine w_comp ?_ | refine w_itSeq ?_ | refine w_itR ?_ | refine w_evnil ?_ | refine w_evcons ?_ | refine w_evc1 ?_ | refine w_evc0 ?_ | refine w_c ?_ | refine nx_nx ?_ | refine nx_ret ?_ | refine bl_i ?_ | refine in_i ?_ | refine sq_t ?_ | refine sq_l ?_ | refine ls_l ?_ | refine tp_t ?_ | refine w_not ?_ | refine w_addI ?_ | refine w_sub ?_ | refine w_xor ?_ | refine w_ltI ?_ | refine w_leI ?_ | refine w_gtI ?_ | refine w_geI ?_ | refine w_slT ?_ | refine w_slL ?_ | refine w_lenT ?_ | refine w_lenL ?_ | refine w_lenS ?_ | refine w_tupL ?_ | refine w_tupT ?_ | refine w_lstL ?_ | refine w_lstT ?_ | refine w_neg ?_ | refine w_isn ?_ | refine w_isnn ?_ | refine w_begun ?_ | refine w_ret ?_ | refine w_resE ?_) | (with_reducible refine w_var (by with_unfolding_all rfl) ?_) | (with_reducible refine w_peekV (by with_unfolding_all rfl) ?_) | (with_reducible refine w_peekO (by with_unfolding_all rfl) ?_) | (with_reducible refine w_app (by with_unfolding_all rfl) ?_) | (with_reducible refine w_frz (by with_unfolding_all rfl) ?_) | (with_reducible refine w_scr (by with_unfolding_all rfl) ?_) | (with_reducible refine w_tc (by with_unfolding_all rfl) ?_) | (with_reducible refine w_stc (by with_unfolding_all rfl) ?_) | (with_reducible refine w_tr (by with_unfolding_all rfl) ?_) | (with_reducible refine w_str (by with_unfolding_all rfl) ?_) | (with_reducible refine w_idxT (by with_unfolding_all rfl) ?_) | (with_reducible refine w_idxL (by with_unfolding_all rfl) ?_) | (with_reducible refine w_isi (by with_unfolding_all rfl) ?_) | ((with_reducible first | refine w_addT ?_ ?_ | refine w_addL ?_ ?_ | refine w_mulI ?_ ?_ | refine w_mulT ?_ ?_ | refine w_mulL ?_ ?_ | refine w_mod ?_ ?_ | refine w_div ?_ ?_ | refine w_pow ?_ ?_ | refine w_rng ?_ ?_); (first | decide | omega | (refine ⟨?_, ?_⟩ <;> omega) | (refine ⟨?_, ?_, ?_⟩ <;> omega) | (simp only [List.length_cons, List.length_nil, List.length_append, List.length_reverse, BL.cD_len, BL.iD_len, BL.mkx_len, BL.sizeL]; omega) | (refine ⟨List.cons_ne_nil _ _, ?_⟩; simp only [List.length_cons, List.length_nil]; omega))) | ((with_reducible first | refine w_eqD ?_ ?_ ?_ | refine w_neD ?_ ?_ ?_ | refine w_inT ?_ ?_ ?_ | refine w_inL ?_ ?_ ?_); (first | rfl | with_unfolding_all rfl); (first | rfl | with_unfolding_all rfl)) | ((with_reducible refine ift_of ?_ ?_); (with_unfolding_all rfl)) | ((with_reducible refine iff_of ?_ ?_); (with_unfolding_all rfl)) | ((with_reducible refine ift2_of ?_ ?_); (with_unfolding_all rfl)) | ((with_reducible refine iff2_of ?_ ?_); (with_unfolding_all rfl)) | ((with_reducible refine ift_of ?_ ?_); exact decide_eq_true (by omega)) | ((with_reducible refine iff_of ?_ ?_); exact decide_eq_false (by omega)) | ((with_reducible refine ift2_of ?_ ?_); exact decide_eq_true (by omega)) | ((with_reducible refine iff2_of ?_ ?_); exact decide_eq_false (by omega)))
    have z1' : z.toNat < r.length := by omega
    obtain ⟨y, hy⟩ : ∃ y, r[z.toNat]? = some y := ⟨_, List.getElem?_eq_getElem z1'⟩
    have e : atI (iD r) z = some (.int (y : Int)) := by
      have := atI_nat (xs := iD r) (n := z.toNat) (x := .int (y : Int)) (by unfold iD; rw [List.getElem?_map, hy]; rfl)
      rw [Int.toNat_of_nonneg z0] at this; exact this
    refine w_idxL e ?_
    refine ⟨by rw [iD_len]; have : sizeLine = 16777216 := rfl; omega, ?_⟩
    repeat (first | (with_reducible first | refine w_seq ?_ | refine w_asg ?_ | refine w_asgP ?_ | refine pr_i ?_ | refine w_eqI ?_ | refine w_neI ?_ | refine w_own ?_ | refine w_par ?_ | refine w_parO ?_ | refine w_expr ?_ | refine w_if ?_ | refine w_sret ?_ | refine w_nil ?_ | refine w_for ?_ | refine w_bin ?_ | refine w_un ?_ | refine w_tup ?_ | refine w_lst ?_ | refine w_call ?_ | refine w_and ?_ | refine w_or ?_ | refine w_ife ?_ | refine w_chain ?_ | refine w_slice ?_ | refine w_oN ?_ | refine w_oS ?_ | refine w_comp ?_ | refine w_itSeq ?_ | refine w_itR ?_ | refine w_evnil ?_ | refine w_evcons ?_ | refine w_evc1 ?_ | refine w_evc0 ?_ | refine w_c ?_ | refine nx_nx ?_ | refine nx_ret ?_ | refine bl_i ?_ | refine in_i ?_ | refine sq_t ?_ | refine sq_l ?_ | refine ls_l ?_ | refine tp_t ?_ | refine w_not ?_ | refine w_addI ?_ | refine w_sub ?_ | refine w_xor ?_ | refine w_ltI ?_ | refine w_leI ?_ | refine w_gtI ?_ | refine w_geI ?_ | refine w_slT ?_ | refine w_slL ?_ | refine w_lenT ?_ | refine w_lenL ?_ | refine w_lenS ?_ | refine w_tupL ?_ | refine w_tupT ?_ | refine w_lstL ?_ | refine w_lstT ?_ | refine w_neg ?_ | refine w_isn ?_ | refine w_isnn ?_ | refine w_begun ?_ | refine w_ret ?_ | refine w_resE ?_) | (with_reducible refine w_var (by with_unfolding_all rfl) ?_) | (with_reducible refine w_peekV (by with_unfolding_all rfl) ?_) | (with_reducible refine w_peekO (by with_unfolding_all rfl) ?_) | (with_reducible refine w_app (by with_unfolding_all rfl) ?_) | (with_reducible refine w_frz (by with_unfolding_all rfl) ?_) | (with_reducible refine w_scr (by with_unfolding_all rfl) ?_) | (with_reducible refine w_tc (by with_unfolding_all rfl) ?_) | (with_reducible refine w_stc (by with_unfolding_all rfl) ?_) | (with_reducible refine w_tr (by with_unfolding_all rfl) ?_) | (with_reducible refine w_str (by with_unfolding_all rfl) ?_) | (with_reducible refine w_idxT (by with_unfolding_all rfl) ?_) | (with_reducible refine w_idxL (by with_unfolding_all rfl) ?_) | (with_reducible refine w_isi (by with_unfolding_all rfl) ?_) | ((with_reducible first | refine w_addT ?_ ?_ | refine w_addL ?_ ?_ | refine w_mulI ?_ ?_ | refine w_mulT ?_ ?_ | refine w_mulL ?_ ?_ | refine w_mod ?_ ?_ | refine w_div ?_ ?_ | refine w_pow ?_ ?_ | refine w_rng ?_ ?_); (first | decide | omega | (refine ⟨?_, ?_⟩ <;> omega) | (refine ⟨?_, ?_, ?_⟩ <;> omega) | (simp only [List.length_cons, List.length_nil, List.length_append, List.length_reverse, BL.cD_len, BL.iD_len, BL.mkx_len, BL.sizeL]; omega) | (refine ⟨List.cons_ne_nil _ _, ?_⟩; simp only [List.length_cons, List.length_nil]; omega))) | ((with_reducible first | refine w_eqD ?_ ?_ ?_ | refine w_neD ?_ ?_ ?_ | refine w_inT ?_ ?_ ?_ | refine w_inL ?_ ?_ ?_); (first | rfl | with_unfolding_all rfl); (first | rfl | with_unfolding_all rfl)) | ((with_reducible refine ift_of ?_ ?_); (with_unfolding_all rfl)) | ((with_reducible refine iff_of ?_ ?_); (with_unfolding_all rfl)) | ((with_reducible refine ift2_of ?_ ?_); (with_unfolding_all rfl)) | ((with_reducible refine iff2_of ?_ ?_); (with_unfolding_all rfl)) | ((with_reducible refine ift_of ?_ ?_); exact decide_eq_true (by omega)) | ((with_reducible refine iff_of ?_ ?_); exact decide_eq_false (by omega)) | ((with_reducible refine ift2_of ?_ ?_); exact decide_eq_true (by omega)) | ((with_reducible refine iff2_of ?_ ?_); exact decide_eq_false (by omega)))
    have e1 : z = (z.toNat : Int) := (Int.toNat_of_nonneg z0).symm
    have e2 : z + 1 = ((z.toNat + 1 : Nat) : Int) := by omega
    rw [e2, cutD_drop (by omega)]
    rw [e1, Int.toNat_natCast, cutD_take (by omega)]
    refine w_addL ?_ ?_
    · rw [List.length_take, List.length_drop, iD_len]; have : sizeLine = 16777216 := rfl; omega
    refine nx_nx ⟨r.eraseIdx z.toNat, f ++ [y], .val d, .val (.int z), ?_, ?_, ?_, ht'⟩
    · rw [List.eraseIdx_eq_take_drop_succ, iD_app, iD_app]
      unfold iD
      rw [List.map_take, List.map_drop, ← e1]
      rfl
    · refine List.Perm.trans ?_ hp
      rw [List.append_assoc]
      refine List.Perm.append_left f ?_
      have := perm_erase z1'
      rw [List.getElem?_eq_getElem z1'] at hy
      cases hy
      exact this
    · rw [List.length_append, hf]; rfl
  · subst hS
    have hr : r = [] := by
      have h2 := hp.length_eq
      rw [List.length_append, List.length_range, hf] at h2
      have h3 : (rng (8 : Int).toNat).length = 8 := by decide +kernel
      exact List.eq_nil_of_length_eq_zero (by omega)
    subst hr
    rw [List.append_nil] at hp
    repeat (first | (with_reducible first | refine w_seq ?_ | refine w_asg ?_ | refine w_asgP ?_ | refine pr_i ?_ | refine w_eqI ?_ | refine w_neI ?_ | refine w_own ?_ | refine w_par ?_ | refine w_parO ?_ | refine w_expr ?_ | refine w_if ?_ | refine w_sret ?_ | refine w_nil ?_ | refine w_for ?_ | refine w_bin ?_ | refine w_un ?_ | refine w_tup ?_ | refine w_lst ?_ | refine w_call ?_ | refine w_and ?_ | refine w_or ?_ | refine w_ife ?_ | refine w_chain ?_ | refine w_slice ?_ | refine w_oN ?_ | refine w_oS ?_ | refine w_comp ?_ | refine w_itSeq ?_ | refine w_itR ?_ | refine w_evnil ?_ | refine w_evcons ?_ | refine w_evc1 ?_ | refine w_evc0 ?_ | refine w_c ?_ | refine nx_nx ?_ | refine nx_ret ?_ | refine bl_i ?_ | refine in_i ?_ | refine sq_t ?_ | refine sq_l ?_ | refine ls_l ?_ | refine tp_t ?_ | refine w_not ?_ | refine w_addI ?_ | refine w_sub ?_ | refine w_xor ?_ | refine w_ltI ?_ | refine w_leI ?_ | refine w_gtI ?_ | refine w_geI ?_ | refine w_slT ?_ | refine w_slL ?_ | refine w_lenT ?_ | refine w_lenL ?_ | refine w_lenS ?_ | refine w_tupL ?_ | refine w_tupT ?_ | refine w_lstL ?_ | refine w_lstT ?_ | refine w_neg ?_ | refine w_isn ?_ | refine w_isnn ?_ | refine w_begun ?_ | refine w_ret ?_ | refine w_resE ?_) | (with_reducible refine w_var (by with_unfolding_all rfl) ?_) | (with_reducible refine w_peekV (by with_unfolding_all rfl) ?_) | (with_reducible refine w_peekO (by with_unfolding_all rfl) ?_) | (with_reducible refine w_app (by with_unfolding_all rfl) ?_) | (with_reducible refine w_frz (by with_unfolding_all rfl) ?_) | (with_reducible refine w_scr (by with_unfolding_all rfl) ?_) | (with_reducible refine w_tc (by with_unfolding_all rfl) ?_) | (with_reducible refine w_stc (by with_unfolding_all rfl) ?_) | (with_reducible refine w_tr (by with_unfolding_all rfl) ?_) | (with_reducible refine w_str (by with_unfolding_all rfl) ?_) | (with_reducible refine w_idxT (by with_unfolding_all rfl) ?_) | (with_reducible refine w_idxL (by with_unfolding_all rfl) ?_) | (with_reducible refine w_isi (by with_unfolding_all rfl) ?_) | ((with_reducible first | refine w_addT ?_ ?_ | refine w_addL ?_ ?_ | refine w_mulI ?_ ?_ | refine w_mulT ?_ ?_ | refine w_mulL ?_ ?_ | refine w_mod ?_ ?_ | refine w_div ?_ ?_ | refine w_pow ?_ ?_ | refine w_rng ?_ ?_); (first | decide | omega | (refine ⟨?_, ?_⟩ <;> omega) | (refine ⟨?_, ?_, ?_⟩ <;> omega) | (simp only [List.length_cons, List.length_nil, List.length_append, List.length_reverse, BL.cD_len, BL.iD_len, BL.mkx_len, BL.sizeL]; omega) | (refine ⟨List.cons_ne_nil _ _, ?_⟩; simp only [List.length_cons, List.length_nil]; omega))) | ((with_reducible first | refine w_eqD ?_ ?_ ?_ | refine w_neD ?_ ?_ ?_ | refine w_inT ?_ ?_ ?_ | refine w_inL ?_ ?_ ?_); (first | rfl | with_unfolding_all rfl); (first | rfl | with_unfolding_all rfl)) | ((with_reducible refine ift_of ?_ ?_); (with_unfolding_all rfl)) | ((with_reducible refine iff_of ?_ ?_); (with_unfolding_all rfl)) | ((with_reducible refine ift2_of ?_ ?_); (with_unfolding_all rfl)) | ((with_reducible refine iff2_of ?_ ?_); (with_unfolding_all rfl)) | ((with_reducible refine ift_of ?_ ?_); exact decide_eq_true (by omega)) | ((with_reducible refine iff_of ?_ ?_); exact decide_eq_false (by omega)) | ((with_reducible refine ift2_of ?_ ?_); exact decide_eq_true (by omega)) | ((with_reducible refine iff2_of ?_ ?_); exact decide_eq_false (by omega)))
    exact hQ f t hp ht
end BL
set_option Elab.async false
set_option linter.all false
set_option maxRecDepth 100000
set_option maxHeartbeats 4000000
namespace BL
open PySem BG L2
def btw (lo hi : Int) : D → Bool
  | .int i => decide (lo ≤ i) && decide (i ≤ hi)
  | _ => false
def plain : D → Bool
  | .town => false
  | .scr _ => false
  | .dct _ _ => false
  | _ => true
theorem is_between_eq {d : D} {lo hi : Int} (h : plain d = true) : f_is_between [d, .int lo, .int hi] = ret (.bl (btw lo hi d)) := by
  refine eq_of_W fun t => w_fn ?_
  show W (b_is_between [.val d, .val (.int lo), .val (.int hi)] t) _
  unfold b_is_between
  cases d with
  | int i =>
    repeat (first | (with_reducible first | refine w_seq ?_ | refine w_asg ?_ | refine w_asgP ?_ | refine pr_i ?_ | refine w_eqI ?_ | refine w_neI ?_ | refine w_own ?_ | refine w_par ?_ | refine w_parO ?_ | refine w_expr ?_ | refine w_if ?_ | refine w_sret ?_ | refine w_nil ?_ | refine w_for ?_ | refine w_bin ?_ | refine w_un ?_ | refine w_tup ?_ | refine w_lst ?_ | refine w_call ?_ | refine w_and ?_ | refine w_or ?_ | refine w_ife ?_ | refine w_chain ?_ | refine w_slice ?_ | refine w_oN ?_ | refine w_oS ?_ | refine w_comp ?_ | refine w_itSeq ?_ | refine w_itR ?_ | refine w_evnil ?_ | refine w_evcons ?_ | refine w_evc1 ?_ | refine w_evc0 ?_ | refine w_c ?_ | refine nx_nx ?_ | refine nx_ret ?_ | refine bl_i ?_ | refine in_i ?_ | refine sq_t ?_ | refine sq_l ?_ | refine ls_l ?_ | refine tp_t ?_ | refine w_not ?_ | refine w_addI ?_ | refine w_sub ?_ | refine w_xor ?_ | refine w_ltI ?_ | refine w_leI ?_ | refine w_gtI ?_ | refine w_geI ?_ | refine w_slT ?_ | refine w_slL ?_ | refine w_lenT ?_ | refine w_lenL ?_ | refine w_lenS ?_ | refine w_tupL ?_ | refine w_tupT ?_ | refine w_lstL ?_ | refine w_lstT ?_ | refine w_neg ?_ | refine w_isn ?_ | refine w_isnn ?_ | refine w_begun ?_ | refine w_ret ?_ | refine w_resE ?_) | (with_reducible refine w_var (by with_unfolding_all rfl) ?_) | (with_reducible refine w_peekV (by with_unfolding_all rfl) ?_) | (with_reducible refine w_peekO (by with_unfolding_all rfl) ?_) | (with_reducible refine w_app (by with_unfolding_all rfl) ?_) | (with_reducible refine w_frz (by with_unfolding_all rfl) ?_) | (with_reducible refine w_scr (by with_unfolding_all rfl) ?_) | (with_reducible refine w_tc (by with_unfolding_all rfl) ?_) | (with_reducible refine w_stc (by with_unfolding_all rfl) ?_) | (with_reducible refine w_tr (by with_unfolding_all rfl) ?_) | (with_reducible refine w_str (by with_unfolding_all rfl) ?_) | (with_reducible refine w_idxT (by with_unfolding_all rfl) ?_) | (with_reducible refine w_idxL (by with_unfolding_all rfl) ?_) | (with_reducible refine w_isi (by with_unfolding_all rfl) ?_) | ((with_reducible first | refine w_addT ?_ ?_ | refine w_addL ?_ ?_ | refine w_mulI ?_ ?_ | refine w_mulT ?_ ?_ | refine w_mulL ?_ ?_ | refine w_mod ?_ ?_ | refine w_div ?_ ?_ | refine w_pow ?_ ?_ | refine w_rng ?_ ?_); (first | decide | omega | (refine ⟨?_, ?_⟩ <;> omega) | (refine ⟨?_, ?_, ?_⟩ <;> omega) | (simp only [List.length_cons, List.length_nil, List.length_append, List.length_reverse, BL.cD_len, BL.iD_len, BL.mkx_len, BL.sizeL]; omega) | (refine ⟨List.cons_ne_nil _ _, ?_⟩; simp only [List.length_cons, List.length_nil]; omega))) | ((with_reducible first | refine w_eqD ?_ ?_ ?_ | refine w_neD ?_ ?_ ?_ | refine w_inT ?_ ?_ ?_ | refine w_inL ?_ ?_ ?_); (first | rfl | with_unfolding_all rfl); (first | rfl | with_unfolding_all rfl)) | ((with_reducible refine ift_of ?_ ?_); (with_unfolding_all rfl)) | ((with_reducible refine iff_of ?_ ?_); (with_unfolding_all rfl)) | ((with_reducible refine ift2_of ?_ ?_); (with_unfolding_all rfl)) | ((with_reducible refine iff2_of ?_ ?_); (with_unfolding_all rfl)) | ((with_reducible refine ift_of ?_ ?_); exact decide_eq_true (by omega)) | ((with_reducible refine iff_of ?_ ?_); exact decide_eq_false (by omega)) | ((with_reducible refine ift2_of ?_ ?_); exact decide_eq_true (by omega)) | ((with_reducible refine iff2_of ?_ ?_); exact decide_eq_false (by omega)))
    have e : btw lo hi (.int i) = (decide (lo ≤ i) && decide (i ≤ hi)) := rfl
    rw [e]
    refine ⟨fun h1 => ?_, fun h1 => ?_⟩
    · repeat (first | (with_reducible first | refine w_seq ?_ | refine w_asg ?_ | refine w_asgP ?_ | refine pr_i ?_ | refine w_eqI ?_ | refine w_neI ?_ | refine w_own ?_ | refine w_par ?_ | refine w_parO ?_ | refine w_expr ?_ | refine w_if ?_ | refine w_sret ?_ | refine w_nil ?_ | refine w_for ?_ | refine w_bin ?_ | refine w_un ?_ | refine w_tup ?_ | refine w_lst ?_ | refine w_call ?_ | refine w_and ?_ | refine w_or ?_ | refine w_ife ?_ | refine w_chain ?_ | refine w_slice ?_ | refine w_oN ?_ | refine w_oS ?_ | refine w_comp ?_ | refine w_itSeq ?_ | refine w_itR ?_ | refine w_evnil ?_ | refine w_evcons ?_ | refine w_evc1 ?_ | refine w_evc0 ?_ | refine w_c ?_ | refine nx_nx ?_ | refine nx_ret ?_ | refine bl_i ?_ | refine in_i ?_ | refine sq_t ?_ | refine sq_l ?_ | refine ls_l ?_ | refine tp_t ?_ | refine w_not ?_ | refine w_addI ?_ | refine w_sub ?_ | refine w_xor ?_ | refine w_ltI ?_ | refine w_leI ?_ | refine w_gtI ?_ | refine w_geI ?_ | refine w_slT ?_ | refine w_slL ?_ | refine w_lenT ?_ | refine w_lenL ?_ | refine w_lenS ?_ | refine w_tupL ?_ | refine w_tupT ?_ | refine w_lstL ?_ | refine w_lstT ?_ | refine w_neg ?_ | refine w_isn ?_ | refine w_isnn ?_ | refine w_begun ?_ | refine w_ret ?_ | refine w_resE ?_) | (with_reducible refine w_var (by with_unfolding_all rfl) ?_) | (with_reducible refine w_peekV (by with_unfolding_all rfl) ?_) | (with_reducible refine w_peekO (by with_unfolding_all rfl) ?_) | (with_reducible refine w_app (by with_unfolding_all rfl) ?_) | (with_reducible refine w_frz (by with_unfolding_all rfl) ?_) | (with_reducible refine w_scr (by with_unfolding_all rfl) ?_) | (with_reducible refine w_tc (by with_unfolding_all rfl) ?_) | (with_reducible refine w_stc (by with_unfolding_all rfl) ?_) | (with_reducible refine w_tr (by with_unfolding_all rfl) ?_) | (with_reducible refine w_str (by with_unfolding_all rfl) ?_) | (with_reducible refine w_idxT (by with_unfolding_all rfl) ?_) | (with_reducible refine w_idxL (by with_unfolding_all rfl) ?_) | (with_reducible refine w_isi (by with_unfolding_all rfl) ?_) | ((with_reducible first | refine w_addT ?_ ?_ | refine w_addL ?_ ?_ | refine w_mulI ?_ ?_ | refine w_mulT ?_ ?_ | refine w_mulL ?_ ?_ | refine w_mod ?_ ?_ | refine w_div ?_ ?_ | refine w_pow ?_ ?_ | refine w_rng ?_ ?_); (first | decide | omega | (refine ⟨?_, ?_⟩ <;> omega) | (refine ⟨?_, ?_, ?_⟩ <;> omega) | (simp only [List.length_cons, List.length_nil, List.length_append, List.length_reverse, BL.cD_len, BL.iD_len, BL.mkx_len, BL.sizeL]; omega) | (refine ⟨List.cons_ne_nil _ _, ?_⟩; simp only [List.length_cons, List.length_nil]; omega))) | ((with_reducible first | refine w_eqD ?_ ?_ ?_ | refine w_neD ?_ ?_ ?_ | refine w_inT ?_ ?_ ?_ | refine w_inL ?_ ?_ ?_); (first | rfl | with_unfolding_all rfl); (first | rfl | with_unfolding_all rfl)) | ((with_reducible refine ift_of ?_ ?_); (with_unfolding_all rfl)) | ((with_reducible refine iff_of ?_ ?_); (with_unfolding_all rfl)) | ((with_reducible refine ift2_of ?_ ?_); (with_unfolding_all rfl)) | ((with_reducible refine iff2_of ?_ ?_); (with_unfolding_all rfl)) | ((with_reducible refine ift_of ?_ ?_); exact decide_eq_true (by omega)) | ((with_reducible refine iff_of ?_ ?_); exact decide_eq_false (by omega)) | ((with_reducible refine ift2_of ?_ ?_); exact decide_eq_true (by omega)) | ((with_reducible refine iff2_of ?_ ?_); exact decide_eq_false (by omega)))
      rw [h1]; exact ⟨rfl, rfl⟩
    · repeat (first | (with_reducible first | refine w_seq ?_ | refine w_asg ?_ | refine w_asgP ?_ | refine pr_i ?_ | refine w_eqI ?_ | refine w_neI ?_ | refine w_own ?_ | refine w_par ?_ | refine w_parO ?_ | refine w_expr ?_ | refine w_if ?_ | refine w_sret ?_ | refine w_nil ?_ | refine w_for ?_ | refine w_bin ?_ | refine w_un ?_ | refine w_tup ?_ | refine w_lst ?_ | refine w_call ?_ | refine w_and ?_ | refine w_or ?_ | refine w_ife ?_ | refine w_chain ?_ | refine w_slice ?_ | refine w_oN ?_ | refine w_oS ?_ | refine w_comp ?_ | refine w_itSeq ?_ | refine w_itR ?_ | refine w_evnil ?_ | refine w_evcons ?_ | refine w_evc1 ?_ | refine w_evc0 ?_ | refine w_c ?_ | refine nx_nx ?_ | refine nx_ret ?_ | refine bl_i ?_ | refine in_i ?_ | refine sq_t ?_ | refine sq_l ?_ | refine ls_l ?_ | refine tp_t ?_ | refine w_not ?_ | refine w_addI ?_ | refine w_sub ?_ | refine w_xor ?_ | refine w_ltI ?_ | refine w_leI ?_ | refine w_gtI ?_ | refine w_geI ?_ | refine w_slT ?_ | refine w_slL ?_ | refine w_lenT ?_ | refine w_lenL ?_ | refine w_lenS ?_ | refine w_tupL ?_ | refine w_tupT ?_ | refine w_lstL ?_ | refine w_lstT ?_ | refine w_neg ?_ | refine w_isn ?_ | refine w_isnn ?_ | refine w_begun ?_ | refine w_ret ?_ | refine w_resE ?_) | (with_reducible refine w_var (by with_unfolding_all rfl) ?_) | (with_reducible refine w_peekV (by with_unfolding_all rfl) ?_) | (with_reducible refine w_peekO (by with_unfolding_all rfl) ?_) | (with_reducible refine w_app (by with_unfolding_all rfl) ?_) | (with_reducible refine w_frz (by with_unfolding_all rfl) ?_) | (with_reducible refine w_scr (by with_unfolding_all rfl) ?_) | (with_reducible refine w_tc (by with_unfolding_all rfl) ?_) | (with_reducible refine w_stc (by with_unfolding_all rfl) ?_) | (with_reducible refine w_tr (by with_unfolding_all rfl) ?_) | (with_reducible refine w_str (by with_unfolding_all rfl) ?_) | (with_reducible refine w_idxT (by with_unfolding_all rfl) ?_) | (with_reducible refine w_idxL (by with_unfolding_all rfl) ?_) | (with_reducible refine w_isi (by with_unfolding_all rfl) ?_) | ((with_reducible first | refine w_addT ?_ ?_ | refine w_addL ?_ ?_ | refine w_mulI ?_ ?_ | refine w_mulT ?_ ?_ | refine w_mulL ?_ ?_ | refine w_mod ?_ ?_ | refine w_div ?_ ?_ | refine w_pow ?_ ?_ | refine w_rng ?_ ?_); (first | decide | omega | (refine ⟨?_, ?_⟩ <;> omega) | (refine ⟨?_, ?_, ?_⟩ <;> omega) | (simp only [List.length_cons, List.length_nil, List.length_append, List.length_reverse, BL.cD_len, BL.iD_len, BL.mkx_len, BL.sizeL]; omega) | (refine ⟨List.cons_ne_nil _ _, ?_⟩; simp only [List.length_cons, List.length_nil]; omega))) | ((with_reducible first | refine w_eqD ?_ ?_ ?_ | refine w_neD ?_ ?_ ?_ | refine w_inT ?_ ?_ ?_ | refine w_inL ?_ ?_ ?_); (first | rfl | with_unfolding_all rfl); (first | rfl | with_unfolding_all rfl)) | ((with_reducible refine ift_of ?_ ?_); (with_unfolding_all rfl)) | ((with_reducible refine iff_of ?_ ?_); (with_unfolding_all rfl)) | ((with_reducible refine ift2_of ?_ ?_); (with_unfolding_all rfl)) | ((with_reducible refine iff2_of ?_ ?_); (with_unfolding_all rfl)) | ((with_reducible refine ift_of ?_ ?_); exact decide_eq_true (by omega)) | ((with_reducible refine iff_of ?_ ?_); exact decide_eq_false (by omega)) | ((with_reducible refine ift2_of ?_ ?_); exact decide_eq_true (by omega)) | ((with_reducible refine iff2_of ?_ ?_); exact decide_eq_false (by omega)))
      rw [h1]; exact ⟨rfl, rfl⟩
  | town => cases h
  | scr ns => cases h
  | dct _ _ => cases h
  | _ =>
    repeat (first | (with_reducible first | refine w_seq ?_ | refine w_asg ?_ | refine w_asgP ?_ | refine pr_i ?_ | refine w_eqI ?_ | refine w_neI ?_ | refine w_own ?_ | refine w_par ?_ | refine w_parO ?_ | refine w_expr ?_ | refine w_if ?_ | refine w_sret ?_ | refine w_nil ?_ | refine w_for ?_ | refine w_bin ?_ | refine w_un ?_ | refine w_tup ?_ | refine w_lst ?_ | refine w_call ?_ | refine w_and ?_ | refine w_or ?_ | refine w_ife ?_ | refine w_chain ?_ | refine w_slice ?_ | refine w_oN ?_ | refine w_oS ?_ | refine w_comp ?_ | refine w_itSeq ?_ | refine w_itR ?_ | refine w_evnil ?_ | refine w_evcons ?_ | refine w_evc1 ?_ | refine w_evc0 ?_ | refine w_c ?_ | refine nx_nx ?_ | refine nx_ret ?_ | refine bl_i ?_ | refine in_i ?_ | refine sq_t ?_ | refine sq_l ?_ | refine ls_l ?_ | refine tp_t ?_ | refine w_not ?_ | refine w_addI ?_ | refine w_sub ?_ | refine w_xor ?_ | refine w_ltI ?_ | refine w_leI ?_ | refine w_gtI ?_ | refine w_geI ?_ | refine w_slT ?_ | refine w_slL ?_ | refine w_lenT ?_ | refine w_lenL ?_ | refine w_lenS ?_ | refine w_tupL ?_ | refine w_tupT ?_ | refine w_lstL ?_ | refine w_lstT ?_ | refine w_neg ?_ | refine w_isn ?_ | refine w_isnn ?_ | refine w_begun ?_ | refine w_ret ?_ | refine w_resE ?_) | (with_reducible refine w_var (by with_unfolding_all rfl) ?_) | (with_reducible refine w_peekV (by with_unfolding_all rfl) ?_) | (with_reducible refine w_peekO (by with_unfolding_all rfl) ?_) | (with_reducible refine w_app (by with_unfolding_all rfl) ?_) | (with_reducible refine w_frz (by with_unfolding_all rfl) ?_) | (with_reducible refine w_scr (by with_unfolding_all rfl) ?_) | (with_reducible refine w_tc (by with_unfolding_all rfl) ?_) | (with_reducible refine w_stc (by with_unfolding_all rfl) ?_) | (with_reducible refine w_tr (by with_unfolding_all rfl) ?_) | (with_reducible refine w_str (by with_unfolding_all rfl) ?_) | (with_reducible refine w_idxT (by with_unfolding_all rfl) ?_) | (with_reducible refine w_idxL (by with_unfolding_all rfl) ?_) | (with_reducible refine w_isi (by with_unfolding_all rfl) ?_) | ((with_reducible first | refine w_addT ?_ ?_ | refine w_addL ?_ ?_ | refine w_mulI ?_ ?_ | refine w_mulT ?_ ?_ | refine w_mulL ?_ ?_ | refine w_mod ?_ ?_ | refine w_div ?_ ?_ | refine w_pow ?_ ?_ | refine w_rng ?_ ?_); (first | decide | omega | (refine ⟨?_, ?_⟩ <;> omega) | (refine ⟨?_, ?_, ?_⟩ <;> omega) | (simp only [List.length_cons, List.length_nil, List.length_append, List.length_reverse, BL.cD_len, BL.iD_len, BL.mkx_len, BL.sizeL]; omega) | (refine ⟨List.cons_ne_nil _ _, ?_⟩; simp only [List.length_cons, List.length_nil]; omega))) | ((with_reducible first | refine w_eqD ?_ ?_ ?_ | refine w_neD ?_ ?_ ?_ | refine w_inT ?_ ?_ ?_ | refine w_inL ?_ ?_ ?_); (first | rfl | with_unfolding_all rfl); (first | rfl | with_unfolding_all rfl)) | ((with_reducible refine ift_of ?_ ?_); (with_unfolding_all rfl)) | ((with_reducible refine iff_of ?_ ?_); (with_unfolding_all rfl)) | ((with_reducible refine ift2_of ?_ ?_); (with_unfolding_all rfl)) | ((with_reducible refine iff2_of ?_ ?_); (with_unfolding_all rfl)) | ((with_reducible refine ift_of ?_ ?_); exact decide_eq_true (by omega)) | ((with_reducible refine iff_of ?_ ?_); exact decide_eq_false (by omega)) | ((with_reducible refine ift2_of ?_ ?_); exact decide_eq_true (by omega)) | ((with_reducible refine iff2_of ?_ ?_); exact decide_eq_false (by omega)))
    exact ⟨rfl, rfl⟩
theorem bools_map {α : Type} (f : α → Bool) : ∀ l : List α, bools (l.map fun x => D.bl (f x)) = some (l.map f)
  | [] => rfl
  | x :: l => by
    show (bools (l.map fun x => D.bl (f x))).map (f x :: ·) = _
    rw [bools_map f l]; rfl
theorem filter_true {α : Type} (l : List α) : l.filter (fun _ => true) = l := List.filter_eq_self.mpr fun _ _ => rfl
theorem all_map {α : Type} (f : α → Bool) (l : List α) : (l.map f).all id = l.all f := by rw [List.all_map]; rfl
/-- a circuit -/
def IsC (cs : List D) : Prop := cs.length ≤ 20 ∧ ∀ g ∈ cs, g ∈ gts
theorem sizeL : sizeLine = 16777216 := rfl
theorem intsD_map : ∀ l : List Int, intsD (l.map D.int) = some l
  | [] => rfl
  | x :: l => by
    show (intsD (l.map D.int)).map (x :: ·) = _
    rw [intsD_map l]; rfl
theorem eqvI (i j : Int) : PyData.eqv (D.int i).py (D.int j).py = decide (i = j) := by
  show (i == j) = decide (i = j)
  rw [Bool.eq_iff_iff, beq_iff_eq, decide_eq_true_iff]
theorem is_exchange_eq {ds : List D} (h : ds.length = 8) (hp : ∀ d ∈ ds, plain d = true) : f_is_exchange [.tup ds] = ret (.bl (ds.all (btw 0 7) && match intsD ds with | some ns => decide ((ddp ns).length = 8) | none => false)) := by
  refine eq_of_W fun t => w_fn ?_
  show W (b_is_exchange [.val (.tup ds), .un] t) _
  unfold b_is_exchange
  repeat (first | (with_reducible first | refine w_seq ?_ | refine w_asg ?_ | refine w_asgP ?_ | refine pr_i ?_ | refine w_eqI ?_ | refine w_neI ?_ | refine w_own ?_ | refine w_par ?_ | refine w_parO ?_ | refine w_expr ?_ | refine w_if ?_ | refine w_sret ?_ | refine w_nil ?_ | refine w_for ?_ | refine w_bin ?_ | refine w_un ?_ | refine w_tup ?_ | refine w_lst ?_ | refine w_call ?_ | refine w_and ?_ | refine w_or ?_ | refine w_ife ?_ | refine w_chain ?_ | refine w_slice ?_ | refine w_oN ?_ | refine w_oS ?_ | refine w_comp ?_ | refine w_itSeq ?_ | refine w_itR ?_ | refine w_evnil ?_ | refine w_evcons ?_ | refine w_evc1 ?_ | refine w_evc0 ?_ | refine w_c ?_ | refine nx_nx ?_ | refine nx_ret ?_ | refine bl_i ?_ | refine in_i ?_ | refine sq_t ?_ | refine sq_l ?_ | refine ls_l ?_ | refine tp_t ?_ | refine w_not ?_ | refine w_addI ?_ | refine w_sub ?_ | refine w_xor ?_ | refine w_ltI ?_ | refine w_leI ?_ | refine w_gtI ?_ | refine w_geI ?_ | refine w_slT ?_ | refine w_slL ?_ | refine w_lenT ?_ | refine w_lenL ?_ | refine w_lenS ?_ | refine w_tupL ?_ | refine w_tupT ?_ | refine w_lstL ?_ | refine w_lstT ?_ | refine w_neg ?_ | refine w_isn ?_ | refine w_isnn ?_ | refine w_begun ?_ | refine w_ret ?_ | refine w_resE ?_) | (with_reducible refine w_var (by with_unfolding_all rfl) ?_) | (with_reducible refine w_peekV (by with_unfolding_all rfl) ?_) | (with_reducible refine w_peekO (by with_unfolding_all rfl) ?_) | (with_reducible refine w_app (by with_unfolding_all rfl) ?_) | (with_reducible refine w_frz (by with_unfolding_all rfl) ?_) | (with_reducible refine w_scr (by with_unfolding_all rfl) ?_) | (with_reducible refine w_tc (by with_unfolding_all rfl) ?_) | (with_reducible refine w_stc (by with_unfolding_all rfl) ?_) | (with_reducible refine w_tr (by with_unfolding_all rfl) ?_) | (with_reducible refine w_str (by with_unfolding_all rfl) ?_) | (with_reducible refine w_idxT (by with_unfolding_all rfl) ?_) | (with_reducible refine w_idxL (by with_unfolding_all rfl) ?_) | (with_reducible refine w_isi (by with_unfolding_all rfl) ?_) | ((with_reducible first | refine w_addT ?_ ?_ | refine w_addL ?_ ?_ | refine w_mulI ?_ ?_ | refine w_mulT ?_ ?_ | refine w_mulL ?_ ?_ | refine w_mod ?_ ?_ | refine w_div ?_ ?_ | refine w_pow ?_ ?_ | refine w_rng ?_ ?_); (first | decide | omega | (refine ⟨?_, ?_⟩ <;> omega) | (refine ⟨?_, ?_, ?_⟩ <;> omega) | (simp only [List.length_cons, List.length_nil, List.length_append, List.length_reverse, BL.cD_len, BL.iD_len, BL.mkx_len, BL.sizeL]; omega) | (refine ⟨List.cons_ne_nil _ _, ?_⟩; simp only [List.length_cons, List.length_nil]; omega))) | ((with_reducible first | refine w_eqD ?_ ?_ ?_ | refine w_neD ?_ ?_ ?_ | refine w_inT ?_ ?_ ?_ | refine w_inL ?_ ?_ ?_); (first | rfl | with_unfolding_all rfl); (first | rfl | with_unfolding_all rfl)) | ((with_reducible refine ift_of ?_ ?_); (with_unfolding_all rfl)) | ((with_reducible refine iff_of ?_ ?_); (with_unfolding_all rfl)) | ((with_reducible refine ift2_of ?_ ?_); (with_unfolding_all rfl)) | ((with_reducible refine iff2_of ?_ ?_); (with_unfolding_all rfl)) | ((with_reducible refine ift_of ?_ ?_); exact decide_eq_true (by omega)) | ((with_reducible refine iff_of ?_ ?_); exact decide_eq_false (by omega)) | ((with_reducible refine ift2_of ?_ ?_); exact decide_eq_true (by omega)) | ((with_reducible refine iff2_of ?_ ?_); exact decide_eq_false (by omega)))
  refine ⟨by have := sizeL; omega, w_cmpP (fun _ => true) (fun d => .bl (btw 0 7 d)) (fun d hd => ⟨_, rfl, rfl, fun _ => ?_⟩) ?_⟩
  · refine eq_of_W fun t => ?_
    repeat (first | (with_reducible refine w_eq (is_between_eq (hp d hd)) ?_) | (with_reducible first | refine w_seq ?_ | refine w_asg ?_ | refine w_asgP ?_ | refine pr_i ?_ | refine w_eqI ?_ | refine w_neI ?_ | refine w_own ?_ | refine w_par ?_ | refine w_parO ?_ | refine w_expr ?_ | refine w_if ?_ | refine w_sret ?_ | refine w_nil ?_ | refine w_for ?_ | refine w_bin ?_ | refine w_un ?_ | refine w_tup ?_ | refine w_lst ?_ | refine w_call ?_ | refine w_and ?_ | refine w_or ?_ | refine w_ife ?_ | refine w_chain ?_ | refine w_slice ?_ | refine w_oN ?_ | refine w_oS ?_ | refine w_comp ?_ | refine w_itSeq ?_ | refine w_itR ?_ | refine w_evnil ?_ | refine w_evcons ?_ | refine w_evc1 ?_ | refine w_evc0 ?_ | refine w_c ?_ | refine nx_nx ?_ | refine nx_ret ?_ | refine bl_i ?_ | refine in_i ?_ | refine sq_t ?_ | refine sq_l ?_ | refine ls_l ?_ | refine tp_t ?_ | refine w_not ?_ | refine w_addI ?_ | refine w_sub ?_ | refine w_xor ?_ | refine w_ltI ?_ | refine w_leI ?_ | refine w_gtI ?_ | refine w_geI ?_ | refine w_slT ?_ | refine w_slL ?_ | refine w_lenT ?_ | refine w_lenL ?_ | refine w_lenS ?_ | refine w_tupL ?_ | refine w_tupT ?_ | refine w_lstL ?_ | refine w_lstT ?_ | refine w_neg ?_ | refine w_isn ?_ | refine w_isnn ?_ | refine w_begun ?_ | refine w_ret ?_ | refine w_resE ?_) | (with_reducible refine w_var (by with_unfolding_all rfl) ?_) | (with_reducible refine w_peekV (by with_unfolding_all rfl) ?_) | (with_reducible refine w_peekO (by with_unfolding_all rfl) ?_) | (with_reducible refine w_app (by with_unfolding_all rfl) ?_) | (with_reducible refine w_frz (by with_unfolding_all rfl) ?_) | (with_reducible refine w_scr (by with_unfolding_all rfl) ?_) | (with_reducible refine w_tc (by with_unfolding_all rfl) ?_) | (with_reducible refine w_stc (by with_unfolding_all rfl) ?_) | (with_reducible refine w_tr (by with_unfolding_all rfl) ?_) | (with_reducible refine w_str (by with_unfolding_all rfl) ?_) | (with_reducible refine w_idxT (by with_unfolding_all rfl) ?_) | (with_reducible refine w_idxL (by with_unfolding_all rfl) ?_) | (with_reducible refine w_isi (by with_unfolding_all rfl) ?_) | ((with_reducible first | refine w_addT ?_ ?_ | refine w_addL ?_ ?_ | refine w_mulI ?_ ?_ | refine w_mulT ?_ ?_ | refine w_mulL ?_ ?_ | refine w_mod ?_ ?_ | refine w_div ?_ ?_ | refine w_pow ?_ ?_ | refine w_rng ?_ ?_); (first | decide | omega | (refine ⟨?_, ?_⟩ <;> omega) | (refine ⟨?_, ?_, ?_⟩ <;> omega) | (simp only [List.length_cons, List.length_nil, List.length_append, List.length_reverse, BL.cD_len, BL.iD_len, BL.mkx_len, BL.sizeL]; omega) | (refine ⟨List.cons_ne_nil _ _, ?_⟩; simp only [List.length_cons, List.length_nil]; omega))) | ((with_reducible first | refine w_eqD ?_ ?_ ?_ | refine w_neD ?_ ?_ ?_ | refine w_inT ?_ ?_ ?_ | refine w_inL ?_ ?_ ?_); (first | rfl | with_unfolding_all rfl); (first | rfl | with_unfolding_all rfl)) | ((with_reducible refine ift_of ?_ ?_); (with_unfolding_all rfl)) | ((with_reducible refine iff_of ?_ ?_); (with_unfolding_all rfl)) | ((with_reducible refine ift2_of ?_ ?_); (with_unfolding_all rfl)) | ((with_reducible refine iff2_of ?_ ?_); (with_unfolding_all rfl)) | ((with_reducible refine ift_of ?_ ?_); exact decide_eq_true (by omega)) | ((with_reducible refine iff_of ?_ ?_); exact decide_eq_false (by omega)) | ((with_reducible refine ift2_of ?_ ?_); exact decide_eq_true (by omega)) | ((with_reducible refine iff2_of ?_ ?_); exact decide_eq_false (by omega)))
    exact ⟨rfl, rfl⟩
  rw [filter_true]
  refine w_allL (bools_map (btw 0 7) ds) ?_
  rw [all_map]
  repeat (first | (with_reducible first | refine w_seq ?_ | refine w_asg ?_ | refine w_asgP ?_ | refine pr_i ?_ | refine w_eqI ?_ | refine w_neI ?_ | refine w_own ?_ | refine w_par ?_ | refine w_parO ?_ | refine w_expr ?_ | refine w_if ?_ | refine w_sret ?_ | refine w_nil ?_ | refine w_for ?_ | refine w_bin ?_ | refine w_un ?_ | refine w_tup ?_ | refine w_lst ?_ | refine w_call ?_ | refine w_and ?_ | refine w_or ?_ | refine w_ife ?_ | refine w_chain ?_ | refine w_slice ?_ | refine w_oN ?_ | refine w_oS ?_ | refine w_comp ?_ | refine w_itSeq ?_ | refine w_itR ?_ | refine w_evnil ?_ | refine w_evcons ?_ | refine w_evc1 ?_ | refine w_evc0 ?_ | refine w_c ?_ | refine nx_nx ?_ | refine nx_ret ?_ | refine bl_i ?_ | refine in_i ?_ | refine sq_t ?_ | refine sq_l ?_ | refine ls_l ?_ | refine tp_t ?_ | refine w_not ?_ | refine w_addI ?_ | refine w_sub ?_ | refine w_xor ?_ | refine w_ltI ?_ | refine w_leI ?_ | refine w_gtI ?_ | refine w_geI ?_ | refine w_slT ?_ | refine w_slL ?_ | refine w_lenT ?_ | refine w_lenL ?_ | refine w_lenS ?_ | refine w_tupL ?_ | refine w_tupT ?_ | refine w_lstL ?_ | refine w_lstT ?_ | refine w_neg ?_ | refine w_isn ?_ | refine w_isnn ?_ | refine w_begun ?_ | refine w_ret ?_ | refine w_resE ?_) | (with_reducible refine w_var (by with_unfolding_all rfl) ?_) | (with_reducible refine w_peekV (by with_unfolding_all rfl) ?_) | (with_reducible refine w_peekO (by with_unfolding_all rfl) ?_) | (with_reducible refine w_app (by with_unfolding_all rfl) ?_) | (with_reducible refine w_frz (by with_unfolding_all rfl) ?_) | (with_reducible refine w_scr (by with_unfolding_all rfl) ?_) | (with_reducible refine w_tc (by with_unfolding_all rfl) ?_) | (with_reducible refine w_stc (by with_unfolding_all rfl) ?_) | (with_reducible refine w_tr (by with_unfolding_all rfl) ?_) | (with_reducible refine w_str (by with_unfolding_all rfl) ?_) | (with_reducible refine w_idxT (by with_unfolding_all rfl) ?_) | (with_reducible refine w_idxL (by with_unfolding_all rfl) ?_) | (with_reducible refine w_isi (by with_unfolding_all rfl) ?_) | ((with_reducible first | refine w_addT ?_ ?_ | refine w_addL ?_ ?_ | refine w_mulI ?_ ?_ | refine w_mulT ?_ ?_ | refine w_mulL ?_ ?_ | refine w_mod ?_ ?_ | refine w_div ?_ ?_ | refine w_pow ?_ ?_ | refine w_rng ?_ ?_); (first | decide | omega | (refine ⟨?_, ?_⟩ <;> omega) | (refine ⟨?_, ?_, ?_⟩ <;> omega) | (simp only [List.length_cons, List.length_nil, List.length_append, List.length_reverse, BL.cD_len, BL.iD_len, BL.mkx_len, BL.sizeL]; omega) | (refine ⟨List.cons_ne_nil _ _, ?_⟩; simp only [List.length_cons, List.length_nil]; omega))) | ((with_reducible first | refine w_eqD ?_ ?_ ?_ | refine w_neD ?_ ?_ ?_ | refine w_inT ?_ ?_ ?_ | refine w_inL ?_ ?_ ?_); (first | rfl | with_unfolding_all rfl); (first | rfl | with_unfolding_all rfl)) | ((with_reducible refine ift_of ?_ ?_); (with_unfolding_all rfl)) | ((with_reducible refine iff_of ?_ ?_); (with_unfolding_all rfl)) | ((with_reducible refine ift2_of ?_ ?_); (with_unfolding_all rfl)) | ((with_reducible refine iff2_of ?_ ?_); (with_unfolding_all rfl)) | ((with_reducible refine ift_of ?_ ?_); exact decide_eq_true (by omega)) | ((with_reducible refine iff_of ?_ ?_); exact decide_eq_false (by omega)) | ((with_reducible refine ift2_of ?_ ?_); exact decide_eq_true (by omega)) | ((with_reducible refine iff2_of ?_ ?_); exact decide_eq_false (by omega)))
  refine ⟨fun h1 => ?_, fun h1 => ?_⟩
  · have h2 : ds.all (btw 0 7) = false := by cases e : ds.all (btw 0 7) with | false => rfl | true => rw [e] at h1; cases h1
    repeat (first | (with_reducible first | refine w_seq ?_ | refine w_asg ?_ | refine w_asgP ?_ | refine pr_i ?_ | refine w_eqI ?_ | refine w_neI ?_ | refine w_own ?_ | refine w_par ?_ | refine w_parO ?_ | refine w_expr ?_ | refine w_if ?_ | refine w_sret ?_ | refine w_nil ?_ | refine w_for ?_ | refine w_bin ?_ | refine w_un ?_ | refine w_tup ?_ | refine w_lst ?_ | refine w_call ?_ | refine w_and ?_ | refine w_or ?_ | refine w_ife ?_ | refine w_chain ?_ | refine w_slice ?_ | refine w_oN ?_ | refine w_oS ?_ | refine w_comp ?_ | refine w_itSeq ?_ | refine w_itR ?_ | refine w_evnil ?_ | refine w_evcons ?_ | refine w_evc1 ?_ | refine w_evc0 ?_ | refine w_c ?_ | refine nx_nx ?_ | refine nx_ret ?_ | refine bl_i ?_ | refine in_i ?_ | refine sq_t ?_ | refine sq_l ?_ | refine ls_l ?_ | refine tp_t ?_ | refine w_not ?_ | refine w_addI ?_ | refine w_sub ?_ | refine w_xor ?_ | refine w_ltI ?_ | refine w_leI ?_ | refine w_gtI ?_ | refine w_geI ?_ | refine w_slT ?_ | refine w_slL ?_ | refine w_lenT ?_ | refine w_lenL ?_ | refine w_lenS ?_ | refine w_tupL ?_ | refine w_tupT ?_ | refine w_lstL ?_ | refine w_lstT ?_ | refine w_neg ?_ | refine w_isn ?_ | refine w_isnn ?_ | refine w_begun ?_ | refine w_ret ?_ | refine w_resE ?_) | (with_reducible refine w_var (by with_unfolding_all rfl) ?_) | (with_reducible refine w_peekV (by with_unfolding_all rfl) ?_) | (with_reducible refine w_peekO (by with_unfolding_all rfl) ?_) | (with_reducible refine w_app (by with_unfolding_all rfl) ?_) | (with_reducible refine w_frz (by with_unfolding_all rfl) ?_) | (with_reducible refine w_scr (by with_unfolding_all rfl) ?_) | (with_reducible refine w_tc (by with_unfolding_all rfl) ?_) | (with_reducible refine w_stc (by with_unfolding_all rfl) ?_) | (with_reducible refine w_tr (by with_unfolding_all rfl) ?_) | (with_reducible refine w_str (by with_unfolding_all rfl) ?_) | (with_reducible refine w_idxT (by with_unfolding_all rfl) ?_) | (with_reducible refine w_idxL (by with_unfolding_all rfl) ?_) | (with_reducible refine w_isi (by with_unfolding_all rfl) ?_) | ((with_reducible first | refine w_addT ?_ ?_ | refine w_addL ?_ ?_ | refine w_mulI ?_ ?_ | refine w_mulT ?_ ?_ | refine w_mulL ?_ ?_ | refine w_mod ?_ ?_ | refine w_div ?_ ?_ | refine w_pow ?_ ?_ | refine w_rng ?_ ?_); (first | decide | omega | (refine ⟨?_, ?_⟩ <;> omega) | (refine ⟨?_, ?_, ?_⟩ <;> omega) | (simp only [List.length_cons, List.length_nil, List.length_append, List.length_reverse, BL.cD_len, BL.iD_len, BL.mkx_len, BL.sizeL]; omega) | (refine ⟨List.cons_ne_nil _ _, ?_⟩; simp only [List.length_cons, List.length_nil]; omega))) | ((with_reducible first | refine w_eqD ?_ ?_ ?_ | refine w_neD ?_ ?_ ?_ | refine w_inT ?_ ?_ ?_ | refine w_inL ?_ ?_ ?_); (first | rfl | with_unfolding_all rfl); (first | rfl | with_unfolding_all rfl)) | ((with_reducible refine ift_of ?_ ?_); (with_unfolding_all rfl)) | ((with_reducible refine iff_of ?_ ?_); (with_unfolding_all rfl)) | ((with_reducible refine ift2_of ?_ ?_); (with_unfolding_all rfl)) | ((with_reducible refine iff2_of ?_ ?_); (with_unfolding_all rfl)) | ((with_reducible refine ift_of ?_ ?_); exact decide_eq_true (by omega)) | ((with_reducible refine iff_of ?_ ?_); exact decide_eq_false (by omega)) | ((with_reducible refine ift2_of ?_ ?_); exact decide_eq_true (by omega)) | ((with_reducible refine iff2_of ?_ ?_); exact decide_eq_false (by omega)))
    rw [h2]; exact ⟨rfl, rfl⟩
  · have h2 : ds.all (btw 0 7) = true := by cases e : ds.all (btw 0 7) with | true => rfl | false => rw [e] at h1; cases h1
    have h3 : ∃ ns, intsD ds = some ns ∧ ns.length = ds.length := by
      clear h hp h1
      induction ds with
      | nil => exact ⟨[], rfl, rfl⟩
      | cons d ds ih =>
        rw [List.all_cons, Bool.and_eq_true] at h2
        obtain ⟨ns, e, l⟩ := ih h2.2
        cases d with
        | int i => exact ⟨i :: ns, by show (intsD ds).map (i :: ·) = _; rw [e]; rfl, by rw [List.length_cons, List.length_cons, l]⟩
        | _ => cases h2.1
    obtain ⟨ns, e, l⟩ := h3
    repeat (first | (with_reducible first | refine w_seq ?_ | refine w_asg ?_ | refine w_asgP ?_ | refine pr_i ?_ | refine w_eqI ?_ | refine w_neI ?_ | refine w_own ?_ | refine w_par ?_ | refine w_parO ?_ | refine w_expr ?_ | refine w_if ?_ | refine w_sret ?_ | refine w_nil ?_ | refine w_for ?_ | refine w_bin ?_ | refine w_un ?_ | refine w_tup ?_ | refine w_lst ?_ | refine w_call ?_ | refine w_and ?_ | refine w_or ?_ | refine w_ife ?_ | refine w_chain ?_ | refine w_slice ?_ | refine w_oN ?_ | refine w_oS ?_ | refine w_comp ?_ | refine w_itSeq ?_ | refine w_itR ?_ | refine w_evnil ?_ | refine w_evcons ?_ | refine w_evc1 ?_ | refine w_evc0 ?_ | refine w_c ?_ | refine nx_nx ?_ | refine nx_ret ?_ | refine bl_i ?_ | refine in_i ?_ | refine sq_t ?_ | refine sq_l ?_ | refine ls_l ?_ | refine tp_t ?_ | refine w_not ?_ | refine w_addI ?_ | refine w_sub ?_ | refine w_xor ?_ | refine w_ltI ?_ | refine w_leI ?_ | refine w_gtI ?_ | refine w_geI ?_ | refine w_slT ?_ | refine w_slL ?_ | refine w_lenT ?_ | refine w_lenL ?_ | refine w_lenS ?_ | refine w_tupL ?_ | refine w_tupT ?_ | refine w_lstL ?_ | refine w_lstT ?_ | refine w_neg ?_ | refine w_isn ?_ | refine w_isnn ?_ | refine w_begun ?_ | refine w_ret ?_ | refine w_resE ?_) | (with_reducible refine w_var (by with_unfolding_all rfl) ?_) | (with_reducible refine w_peekV (by with_unfolding_all rfl) ?_) | (with_reducible refine w_peekO (by with_unfolding_all rfl) ?_) | (with_reducible refine w_app (by with_unfolding_all rfl) ?_) | (with_reducible refine w_frz (by with_unfolding_all rfl) ?_) | (with_reducible refine w_scr (by with_unfolding_all rfl) ?_) | (with_reducible refine w_tc (by with_unfolding_all rfl) ?_) | (with_reducible refine w_stc (by with_unfolding_all rfl) ?_) | (with_reducible refine w_tr (by with_unfolding_all rfl) ?_) | (with_reducible refine w_str (by with_unfolding_all rfl) ?_) | (with_reducible refine w_idxT (by with_unfolding_all rfl) ?_) | (with_reducible refine w_idxL (by with_unfolding_all rfl) ?_) | (with_reducible refine w_isi (by with_unfolding_all rfl) ?_) | ((with_reducible first | refine w_addT ?_ ?_ | refine w_addL ?_ ?_ | refine w_mulI ?_ ?_ | refine w_mulT ?_ ?_ | refine w_mulL ?_ ?_ | refine w_mod ?_ ?_ | refine w_div ?_ ?_ | refine w_pow ?_ ?_ | refine w_rng ?_ ?_); (first | decide | omega | (refine ⟨?_, ?_⟩ <;> omega) | (refine ⟨?_, ?_, ?_⟩ <;> omega) | (simp only [List.length_cons, List.length_nil, List.length_append, List.length_reverse, BL.cD_len, BL.iD_len, BL.mkx_len, BL.sizeL]; omega) | (refine ⟨List.cons_ne_nil _ _, ?_⟩; simp only [List.length_cons, List.length_nil]; omega))) | ((with_reducible first | refine w_eqD ?_ ?_ ?_ | refine w_neD ?_ ?_ ?_ | refine w_inT ?_ ?_ ?_ | refine w_inL ?_ ?_ ?_); (first | rfl | with_unfolding_all rfl); (first | rfl | with_unfolding_all rfl)) | ((with_reducible refine ift_of ?_ ?_); (with_unfolding_all rfl)) | ((with_reducible refine iff_of ?_ ?_); (with_unfolding_all rfl)) | ((with_reducible refine ift2_of ?_ ?_); (with_unfolding_all rfl)) | ((with_reducible refine iff2_of ?_ ?_); (with_unfolding_all rfl)) | ((with_reducible refine ift_of ?_ ?_); exact decide_eq_true (by omega)) | ((with_reducible refine iff_of ?_ ?_); exact decide_eq_false (by omega)) | ((with_reducible refine ift2_of ?_ ?_); exact decide_eq_true (by omega)) | ((with_reducible refine iff2_of ?_ ?_); exact decide_eq_false (by omega)))
    refine w_lenSet e (by omega) ?_
    repeat (first | (with_reducible first | refine w_seq ?_ | refine w_asg ?_ | refine w_asgP ?_ | refine pr_i ?_ | refine w_eqI ?_ | refine w_neI ?_ | refine w_own ?_ | refine w_par ?_ | refine w_parO ?_ | refine w_expr ?_ | refine w_if ?_ | refine w_sret ?_ | refine w_nil ?_ | refine w_for ?_ | refine w_bin ?_ | refine w_un ?_ | refine w_tup ?_ | refine w_lst ?_ | refine w_call ?_ | refine w_and ?_ | refine w_or ?_ | refine w_ife ?_ | refine w_chain ?_ | refine w_slice ?_ | refine w_oN ?_ | refine w_oS ?_ | refine w_comp ?_ | refine w_itSeq ?_ | refine w_itR ?_ | refine w_evnil ?_ | refine w_evcons ?_ | refine w_evc1 ?_ | refine w_evc0 ?_ | refine w_c ?_ | refine nx_nx ?_ | refine nx_ret ?_ | refine bl_i ?_ | refine in_i ?_ | refine sq_t ?_ | refine sq_l ?_ | refine ls_l ?_ | refine tp_t ?_ | refine w_not ?_ | refine w_addI ?_ | refine w_sub ?_ | refine w_xor ?_ | refine w_ltI ?_ | refine w_leI ?_ | refine w_gtI ?_ | refine w_geI ?_ | refine w_slT ?_ | refine w_slL ?_ | refine w_lenT ?_ | refine w_lenL ?_ | refine w_lenS ?_ | refine w_tupL ?_ | refine w_tupT ?_ | refine w_lstL ?_ | refine w_lstT ?_ | refine w_neg ?_ | refine w_isn ?_ | refine w_isnn ?_ | refine w_begun ?_ | refine w_ret ?_ | refine w_resE ?_) | (with_reducible refine w_var (by with_unfolding_all rfl) ?_) | (with_reducible refine w_peekV (by with_unfolding_all rfl) ?_) | (with_reducible refine w_peekO (by with_unfolding_all rfl) ?_) | (with_reducible refine w_app (by with_unfolding_all rfl) ?_) | (with_reducible refine w_frz (by with_unfolding_all rfl) ?_) | (with_reducible refine w_scr (by with_unfolding_all rfl) ?_) | (with_reducible refine w_tc (by with_unfolding_all rfl) ?_) | (with_reducible refine w_stc (by with_unfolding_all rfl) ?_) | (with_reducible refine w_tr (by with_unfolding_all rfl) ?_) | (with_reducible refine w_str (by with_unfolding_all rfl) ?_) | (with_reducible refine w_idxT (by with_unfolding_all rfl) ?_) | (with_reducible refine w_idxL (by with_unfolding_all rfl) ?_) | (with_reducible refine w_isi (by with_unfolding_all rfl) ?_) | ((with_reducible first | refine w_addT ?_ ?_ | refine w_addL ?_ ?_ | refine w_mulI ?_ ?_ | refine w_mulT ?_ ?_ | refine w_mulL ?_ ?_ | refine w_mod ?_ ?_ | refine w_div ?_ ?_ | refine w_pow ?_ ?_ | refine w_rng ?_ ?_); (first | decide | omega | (refine ⟨?_, ?_⟩ <;> omega) | (refine ⟨?_, ?_, ?_⟩ <;> omega) | (simp only [List.length_cons, List.length_nil, List.length_append, List.length_reverse, BL.cD_len, BL.iD_len, BL.mkx_len, BL.sizeL]; omega) | (refine ⟨List.cons_ne_nil _ _, ?_⟩; simp only [List.length_cons, List.length_nil]; omega))) | ((with_reducible first | refine w_eqD ?_ ?_ ?_ | refine w_neD ?_ ?_ ?_ | refine w_inT ?_ ?_ ?_ | refine w_inL ?_ ?_ ?_); (first | rfl | with_unfolding_all rfl); (first | rfl | with_unfolding_all rfl)) | ((with_reducible refine ift_of ?_ ?_); (with_unfolding_all rfl)) | ((with_reducible refine iff_of ?_ ?_); (with_unfolding_all rfl)) | ((with_reducible refine ift2_of ?_ ?_); (with_unfolding_all rfl)) | ((with_reducible refine iff2_of ?_ ?_); (with_unfolding_all rfl)) | ((with_reducible refine ift_of ?_ ?_); exact decide_eq_true (by omega)) | ((with_reducible refine iff_of ?_ ?_); exact decide_eq_false (by omega)) | ((with_reducible refine ift2_of ?_ ?_); exact decide_eq_true (by omega)) | ((with_reducible refine iff2_of ?_ ?_); exact decide_eq_false (by omega)))
    rw [h2, e]
    refine ⟨?_, rfl⟩
    show D.bl _ = D.bl (true && decide _)
    rw [Bool.true_and]
    congr 2
    exact propext ⟨fun h => by omega, fun h => by omega⟩
theorem ddp_nodup : ∀ {l : List Int}, l.Nodup → ddp l = l
  | [], _ => rfl
  | x :: r, h => by
    rw [List.nodup_cons] at h
    unfold ddp
    rw [if_neg (by rw [List.contains_iff_mem]; exact h.1), ddp_nodup h.2]
theorem ddp_len : ∀ {l : List Int}, (ddp l).length ≤ l.length
  | [] => Nat.le_refl _
  | x :: r => by
    unfold ddp
    have := ddp_len (l := r)
    split
    · rw [List.length_cons]; omega
    · rw [List.length_cons, List.length_cons]; omega
theorem ddp_dup : ∀ {l : List Int}, ¬ l.Nodup → (ddp l).length < l.length
  | [], h => absurd List.nodup_nil h
  | x :: r, h => by
    rw [List.nodup_cons] at h
    have := ddp_len (l := r)
    unfold ddp
    split
    · rw [List.length_cons]; omega
    · rename_i hc
      rw [List.contains_iff_mem] at hc
      have := ddp_dup (l := r) fun z => h ⟨hc, z⟩
      rw [List.length_cons, List.length_cons]; omega
/-- an exchange -/
def IsX (ws : List Nat) : Prop := ws.Perm (List.range 8)
theorem IsX.len {ws : List Nat} (h : IsX ws) : ws.length = 8 := by have := h.length_eq; rw [List.length_range] at this; exact this
theorem IsX.lt {ws : List Nat} (h : IsX ws) {w : Nat} (hw : w ∈ ws) : w < 8 := List.mem_range.mp (h.mem_iff.mp hw)
theorem IsX.nodup {ws : List Nat} (h : IsX ws) : ws.Nodup := h.nodup_iff.mpr List.nodup_range
theorem intsD_iD (ws : List Nat) : intsD (iD ws) = some (ws.map fun (w : Nat) => (w : Int)) := by
  have := intsD_map (ws.map fun (w : Nat) => (w : Int))
  rw [List.map_map] at this
  exact this
theorem nodup_cast {ws : List Nat} (h : ws.Nodup) : (ws.map fun (w : Nat) => (w : Int)).Nodup := List.Pairwise.map _ (fun a b hab e => hab (by omega)) h
theorem mem_iD {d : D} {ws : List Nat} (h : d ∈ iD ws) : ∃ w ∈ ws, d = .int (w : Int) := by
  obtain ⟨w, hw, rfl⟩ := List.mem_map.mp h; exact ⟨w, hw, rfl⟩
end BL
set_option Elab.async false
set_option linter.all false
set_option maxRecDepth 100000
set_option maxHeartbeats 4000000
namespace BL
open PySem BG L2
/-- gate number i -/
def gk (i : Nat) : D := gts.getD i .non
def apT : List (List Nat) := [[0, 1, 2, 7, 4, 5, 6, 3], [0, 1, 2, 3, 4, 7, 6, 5], [0, 1, 2, 3, 4, 5, 7, 6], [0, 3, 2, 1, 4, 7, 6, 5], [0, 5, 2, 7, 4, 1, 6, 3], [0, 1, 3, 2, 4, 5, 7, 6], [0, 1, 6, 7, 4, 5, 2, 3], [0, 1, 2, 3, 5, 4, 7, 6], [0, 1, 2, 3, 6, 7, 4, 5], [1, 0, 3, 2, 5, 4, 7, 6], [2, 3, 0, 1, 6, 7, 4, 5], [4, 5, 6, 7, 0, 1, 2, 3], [0, 1, 2, 5, 4, 3, 6, 7], [0, 1, 2, 6, 4, 5, 3, 7], [0, 1, 2, 3, 4, 6, 5, 7], [0, 2, 1, 3, 4, 6, 5, 7], [0, 4, 2, 6, 1, 5, 3, 7], [0, 1, 4, 5, 2, 3, 6, 7]]
def ap (i w : Nat) : Nat := (apT.getD i []).getD w 0
theorem gk_mem {i : Nat} (h : i < 18) : gk i ∈ gts := by
  have hl : i < gts.length := by rw [gts_len]; exact h
  unfold gk
  rw [List.getD_eq_getElem?_getD, List.getElem?_eq_getElem hl]
  exact List.getElem_mem hl
abbrev Gs (c : List Nat) : Prop := ∀ i ∈ c, i < 18
def cD (c : List Nat) : List D := c.map gk
theorem cD_len (c : List Nat) : (cD c).length = c.length := List.length_map _
theorem cD_mem {c : List Nat} (h : Gs c) : ∀ g ∈ cD c, g ∈ gts := fun g hg => by
  obtain ⟨i, hi, rfl⟩ := List.mem_map.mp hg
  exact gk_mem (h i hi)
theorem IsC.of {c : List Nat} (h : Gs c) (hl : c.length ≤ 20) : IsC (cD c) := ⟨by rw [cD_len]; exact hl, cD_mem h⟩
theorem Gs.app {a b : List Nat} (ha : Gs a) (hb : Gs b) : Gs (a ++ b) := fun i hi => (List.mem_append.mp hi).elim (ha i) (hb i)
theorem Gs.take {a : List Nat} (ha : Gs a) (n : Nat) : Gs (a.take n) := fun i hi => ha i (List.mem_of_mem_take hi)
theorem Gs.drop {a : List Nat} (ha : Gs a) (n : Nat) : Gs (a.drop n) := fun i hi => ha i (List.mem_of_mem_drop hi)
/-- what a circuit makes of a word -/
def mkw (c : List Nat) (w : Nat) : Nat := c.foldl (fun w i => ap i w) w
/-- the exchange that a circuit makes -/
def mkx (c : List Nat) : List Nat := (List.range 8).map (mkw c)
theorem mkx_len (c : List Nat) : (mkx c).length = 8 := by unfold mkx; rw [List.length_map, List.length_range]
theorem atI_iD {ws : List Nat} {w y : Nat} (h : ws[w]? = some y) : atI (iD ws) (w : Int) = some (.int (y : Int)) := atI_nat (by unfold iD; rw [List.getElem?_map, h]; rfl)
end BL
set_option Elab.async false
set_option linter.all false
set_option maxRecDepth 100000
set_option maxHeartbeats 1000000
namespace BL
open PySem BG L2
theorem w_lbegun {Q : D → Tn → Prop} (h : Q .town (some (0, []))) : W (f_law_begun [] none) Q := h
theorem w_eq_yes {p q : D} {t : Tn} {Q : D → Tn → Prop} (e : p = q) (h1 : okD p 60 = true) (h2 : nobl p = true) (h : Q (.bl true) t) : W (pEq p q t) Q := by
  subst e
  refine w_eqD h1 h1 ?_
  rw [(eqv_iff h2 h2).mpr rfl]; exact h
theorem w_ne_no {p q : D} {t : Tn} {Q : D → Tn → Prop} (e : p = q) (h1 : okD p 60 = true) (h2 : nobl p = true) (h : Q (.bl false) t) : W (pNe p q t) Q := by
  subst e
  refine w_neD h1 h1 ?_
  rw [(eqv_iff h2 h2).mpr rfl]; exact h
theorem ok_iD (ws : List Nat) : okD (.tup (iD ws)) 60 = true := okA_of (n := 59) fun d hd => by obtain ⟨w, _, rfl⟩ := mem_iD hd; rfl
theorem nobl_iD (ws : List Nat) : nobl (.tup (iD ws)) = true := noblA_of fun d hd => by obtain ⟨w, _, rfl⟩ := mem_iD hd; rfl
abbrev leN : Nat → Nat → Bool := fun a b => decide (a ≤ b)
theorem insrN (v u : Nat) (r : List Nat) : insr leN v (u :: r) = if v ≤ u then v :: u :: r else u :: insr leN v r := by
  show (if decide (v ≤ u) = true then _ else _) = _
  by_cases h : v ≤ u
  · rw [if_pos h, if_pos (decide_eq_true h)]
  · rw [if_neg h, if_neg (by rw [decide_eq_true_eq]; exact h)]
theorem insr_comm (x y : Nat) : ∀ l : List Nat, insr leN x (insr leN y l) = insr leN y (insr leN x l)
  | [] => by
    show insr leN x [y] = insr leN y [x]
    rw [insrN, insrN]
    by_cases h1 : x ≤ y <;> by_cases h2 : y ≤ x
    · have : x = y := by omega
      subst this; rfl
    · rw [if_pos h1, if_neg h2]; rfl
    · rw [if_neg h1, if_pos h2]; rfl
    · omega
  | z :: l => by
    have ih := insr_comm x y l
    rw [insrN x z, insrN y z]
    by_cases hx : x ≤ z <;> by_cases hy : y ≤ z
    · simp only [insrN, hx, hy, if_true]
      by_cases h1 : x ≤ y <;> by_cases h2 : y ≤ x
      · have : x = y := by omega
        subst this; rfl
      · rw [if_pos h1, if_neg h2]
      · rw [if_neg h1, if_pos h2]
      · omega
    · simp only [insrN, hx, hy, if_true, if_false, show ¬ y ≤ x by omega]
    · simp only [insrN, hx, hy, if_true, if_false, show ¬ x ≤ y by omega]
    · simp only [insrN, hx, hy, if_false, ih]
theorem isrt_perm {a b : List Nat} (h : a.Perm b) : isrt leN a = isrt leN b := by
  induction h with
  | nil => rfl
  | cons x _ ih =>
    show insr _ x (isrt _ _) = insr _ x (isrt _ _)
    rw [ih]
  | swap x y l => exact insr_comm y x (isrt _ l)
  | trans _ _ h1 h2 => rw [h1, h2]
/-- the end of a law -/
theorem law_of {F : Fn} {ns : List Int} (h : W (F [.scr ns] none) fun d _ => d = .bl true) : ∃ t', F [.scr ns] none = some (.ok (.bl true) t') := by
  obtain ⟨a, t, e, rfl⟩ := h.ex
  exact ⟨t, e⟩
end BL
set_option Elab.async false
set_option linter.all false
set_option maxRecDepth 100000
set_option maxHeartbeats 1000000
namespace BL
open PySem BG L2
end BL
set_option Elab.async false
set_option linter.all false
set_option maxRecDepth 100000
set_option maxHeartbeats 1000000
namespace BM
section
variable (cm : Nat → Nat → Bool)
/-- the pair is watched -/
def tk (a b : Nat) : Bool := !cm a b || decide (a = b)
abbrev Fm := Nat → Nat → List Nat
def hit (g a b : Nat) : Bool := tk cm a b && (decide (a = g) || decide (b = g))
/-- all watched pairs with g end with g -/
def rmv (g : Nat) (f : Fm) : Prop := ∀ a b, hit cm g a b = true → (f a b).getLast? = some g
def addF (g : Nat) (f : Fm) : Fm := fun a b => if hit cm g a b = true then f a b ++ [g] else f a b
def dropF (g : Nat) (f : Fm) : Fm := fun a b => if hit cm g a b = true then (f a b).dropLast else f a b
open Classical in
noncomputable def act (g : Nat) (f : Fm) : Fm := if rmv cm g f then dropF cm g f else addF cm g f
/-- no two letters cancel -/
def Red (w : List Nat) : Prop := ∀ u g m v, w = u ++ g :: (m ++ g :: v) → ∃ x ∈ m, cm g x = false
theorem Red.nil : Red cm [] := fun u g m v e => by
  have := congrArg List.length e
  simp at this
noncomputable def run (w : List Nat) (f : Fm) : Fm := w.foldl (fun f g => act cm g f) f
end
end BM
set_option Elab.async false
set_option linter.all false
set_option maxRecDepth 100000
set_option maxHeartbeats 1000000
namespace BL
open PySem BG L2
theorem w_itE {f : Ex} {S : Sl} {t : Tn} {Q : List D → Tn → Prop} (h : W (f S t) (Tp fun ds t1 => Q (enumD ds) t1)) : W (itEnum f S t) Q := w_bnd (h.mono fun d t1 q => by
  cases d with
  | tup ds => exact q
  | _ => exact q.elim)
theorem mem_enumD {ds : List D} {d : D} (h : d ∈ enumD ds) : ∃ (k : Nat) (x : D), d = .tup [.int (k : Int), x] ∧ ds[k]? = some x := by
  obtain ⟨k, hk⟩ := List.mem_iff_getElem?.mp h
  obtain ⟨x, hx, e⟩ := enumD_get hk
  exact ⟨k, x, e, hx⟩
end BL
set_option Elab.async false
set_option linter.all false
set_option maxRecDepth 100000
set_option maxHeartbeats 1000000
namespace BL
open PySem BG L2
def IsF (ws : List Nat) : Prop := ws.length = 8 ∧ ∀ w ∈ ws, w < 8
theorem IsX.f {ws : List Nat} (h : IsX ws) : IsF ws := ⟨h.len, fun _ hw => h.lt hw⟩
theorem iD_of : ∀ {ds : List D}, (∀ d ∈ ds, ∃ n : Nat, n < 8 ∧ d = .int (n : Int)) → ∃ ws, ds = iD ws ∧ ∀ w ∈ ws, w < 8
  | [], _ => ⟨[], rfl, fun _ h => nomatch h⟩
  | d :: ds, h => by
    obtain ⟨n, hn, rfl⟩ := h d (List.mem_cons_self ..)
    obtain ⟨ws, rfl, hw⟩ := iD_of fun d hd => h d (List.mem_cons_of_mem _ hd)
    exact ⟨n :: ws, rfl, fun w hw' => (List.mem_cons.mp hw').elim (fun e => e ▸ hn) (hw w)⟩
theorem w_function {ns : List Int} {t : Tn} {Q : D → Tn → Prop} (hl : ns.length ≤ 63) (ht : TOk t) (hQ : ∀ ws t', IsF ws → TOk t' → Q (.tup (iD ws)) t') : W (f_law_function [.scr ns, .town] t) Q := by
  unfold f_law_function
  with_reducible refine w_fn ?_
  rw [show slots0 5 [D.scr ns, .town] = [.val (.scr ns), .val .town, .un, .un, .un] from rfl]
  unfold b_law_function
  repeat (first | (with_reducible refine w_draw hl ht (by decide) (by decide) fun r t1 r0 r1 ht1 => ?_) | (with_reducible first | refine w_seq ?_ | refine w_asg ?_ | refine w_asgP ?_ | refine pr_i ?_ | refine w_eqI ?_ | refine w_neI ?_ | refine w_own ?_ | refine w_par ?_ | refine w_parO ?_ | refine w_expr ?_ | refine w_if ?_ | refine w_sret ?_ | refine w_nil ?_ | refine w_for ?_ | refine w_bin ?_ | refine w_un ?_ | refine w_tup ?_ | refine w_lst ?_ | refine w_call ?_ | refine w_and ?_ | refine w_or ?_ | refine w_ife ?_ | refine w_chain ?_ | refine w_slice ?_ | refine w_oN ?_ | refine w_oS ?_ | refine w_comp ?_ | refine w_itSeq ?_ | refine w_itR ?_ | refine w_evnil ?_ | refine w_evcons ?_ | refine w_evc1 ?_ | refine w_evc0 ?_ | refine w_c ?_ | refine nx_nx ?_ | refine nx_ret ?_ | refine bl_i ?_ | refine in_i ?_ | refine sq_t ?_ | refine sq_l ?_ | refine ls_l ?_ | refine tp_t ?_ | refine w_not ?_ | refine w_addI ?_ | refine w_sub ?_ | refine w_xor ?_ | refine w_ltI ?_ | refine w_leI ?_ | refine w_gtI ?_ | refine w_geI ?_ | refine w_slT ?_ | refine w_slL ?_ | refine w_lenT ?_ | refine w_lenL ?_ | refine w_lenS ?_ | refine w_tupL ?_ | refine w_tupT ?_ | refine w_lstL ?_ | refine w_lstT ?_ | refine w_neg ?_ | refine w_isn ?_ | refine w_isnn ?_ | refine w_begun ?_ | refine w_ret ?_ | refine w_resE ?_) | (with_reducible refine w_var (by with_unfolding_all rfl) ?_) | (with_reducible refine w_peekV (by with_unfolding_all rfl) ?_) | (with_reducible refine w_peekO (by with_unfolding_all rfl) ?_) | (with_reducible refine w_app (by with_unfolding_all rfl) ?_) | (with_reducible refine w_frz (by with_unfolding_all rfl) ?_) | (with_reducible refine w_scr (by with_unfolding_all rfl) ?_) | (with_reducible refine w_tc (by with_unfolding_all rfl) ?_) | (with_reducible refine w_stc (by with_unfolding_all rfl) ?_) | (with_reducible refine w_tr (by with_unfolding_all rfl) ?_) | (with_reducible refine w_str (by with_unfolding_all rfl) ?_) | (with_reducible refine w_idxT (by with_unfolding_all rfl) ?_) | (with_reducible refine w_idxL (by with_unfolding_all rfl) ?_) | (with_reducible refine w_isi (by with_unfolding_all rfl) ?_) | ((with_reducible first | refine w_addT ?_ ?_ | refine w_addL ?_ ?_ | refine w_mulI ?_ ?_ | refine w_mulT ?_ ?_ | refine w_mulL ?_ ?_ | refine w_mod ?_ ?_ | refine w_div ?_ ?_ | refine w_pow ?_ ?_ | refine w_rng ?_ ?_); (first | decide | omega | (refine ⟨?_, ?_⟩ <;> omega) | (refine ⟨?_, ?_, ?_⟩ <;> omega) | (simp only [List.length_cons, List.length_nil, List.length_append, List.length_reverse, BL.cD_len, BL.iD_len, BL.mkx_len, BL.sizeL]; omega) | (refine ⟨List.cons_ne_nil _ _, ?_⟩; simp only [List.length_cons, List.length_nil]; omega))) | ((with_reducible first | refine w_eqD ?_ ?_ ?_ | refine w_neD ?_ ?_ ?_ | refine w_inT ?_ ?_ ?_ | refine w_inL ?_ ?_ ?_); (first | rfl | with_unfolding_all rfl); (first | rfl | with_unfolding_all rfl)) | ((with_reducible refine ift_of ?_ ?_); (with_unfolding_all rfl)) | ((with_reducible refine iff_of ?_ ?_); (with_unfolding_all rfl)) | ((with_reducible refine ift2_of ?_ ?_); (with_unfolding_all rfl)) | ((with_reducible refine iff2_of ?_ ?_); (with_unfolding_all rfl)) | ((with_reducible refine ift_of ?_ ?_); exact decide_eq_true (by omega)) | ((with_reducible refine iff_of ?_ ?_); exact decide_eq_false (by omega)) | ((with_reducible refine ift2_of ?_ ?_); exact decide_eq_true (by omega)) | ((with_reducible refine iff2_of ?_ ?_); exact decide_eq_false (by omega)))
  by_cases h0 : r = 0
  · subst h0
    with_reducible refine ift_of (decide_eq_true rfl) ?_
    repeat (first | (with_reducible refine w_exchange hl ht1 fun ws t' hw ht' => ?_) | (with_reducible first | refine w_seq ?_ | refine w_asg ?_ | refine w_asgP ?_ | refine pr_i ?_ | refine w_eqI ?_ | refine w_neI ?_ | refine w_own ?_ | refine w_par ?_ | refine w_parO ?_ | refine w_expr ?_ | refine w_if ?_ | refine w_sret ?_ | refine w_nil ?_ | refine w_for ?_ | refine w_bin ?_ | refine w_un ?_ | refine w_tup ?_ | refine w_lst ?_ | refine w_call ?_ | refine w_and ?_ | refine w_or ?_ | refine w_ife ?_ | refine w_chain ?_ | refine w_slice ?_ | refine w_oN ?_ | refine w_oS ?_ | refine w_comp ?_ | refine w_itSeq ?_ | refine w_itR ?_ | refine w_evnil ?_ | refine w_evcons ?_ | refine w_evc1 ?_ | refine w_evc0 ?_ | refine w_c ?_ | refine nx_nx ?_ | refine nx_ret ?_ | refine bl_i ?_ | refine in_i ?_ | refine sq_t ?_ | refine sq_l ?_ | refine ls_l ?_ | refine tp_t ?_ | refine w_not ?_ | refine w_addI ?_ | refine w_sub ?_ | refine w_xor ?_ | refine w_ltI ?_ | refine w_leI ?_ | refine w_gtI ?_ | refine w_geI ?_ | refine w_slT ?_ | refine w_slL ?_ | refine w_lenT ?_ | refine w_lenL ?_ | refine w_lenS ?_ | refine w_tupL ?_ | refine w_tupT ?_ | refine w_lstL ?_ | refine w_lstT ?_ | refine w_neg ?_ | refine w_isn ?_ | refine w_isnn ?_ | refine w_begun ?_ | refine w_ret ?_ | refine w_resE ?_) | (with_reducible refine w_var (by with_unfolding_all rfl) ?_) | (with_reducible refine w_peekV (by with_unfolding_all rfl) ?_) | (with_reducible refine w_peekO (by with_unfolding_all rfl) ?_) | (with_reducible refine w_app (by with_unfolding_all rfl) ?_) | (with_reducible refine w_frz (by with_unfolding_all rfl) ?_) | (with_reducible refine w_scr (by with_unfolding_all rfl) ?_) | (with_reducible refine w_tc (by with_unfolding_all rfl) ?_) | (with_reducible refine w_stc (by with_unfolding_all rfl) ?_) | (with_reducible refine w_tr (by with_unfolding_all rfl) ?_) | (with_reducible refine w_str (by with_unfolding_all rfl) ?_) | (with_reducible refine w_idxT (by with_unfolding_all rfl) ?_) | (with_reducible refine w_idxL (by with_unfolding_all rfl) ?_) | (with_reducible refine w_isi (by with_unfolding_all rfl) ?_) | ((with_reducible first | refine w_addT ?_ ?_ | refine w_addL ?_ ?_ | refine w_mulI ?_ ?_ | refine w_mulT ?_ ?_ | refine w_mulL ?_ ?_ | refine w_mod ?_ ?_ | refine w_div ?_ ?_ | refine w_pow ?_ ?_ | refine w_rng ?_ ?_); (first | decide | omega | (refine ⟨?_, ?_⟩ <;> omega) | (refine ⟨?_, ?_, ?_⟩ <;> omega) | (simp only [List.length_cons, List.length_nil, List.length_append, List.length_reverse, BL.cD_len, BL.iD_len, BL.mkx_len, BL.sizeL]; omega) | (refine ⟨List.cons_ne_nil _ _, ?_⟩; simp only [List.length_cons, List.length_nil]; omega))) | ((with_reducible first | refine w_eqD ?_ ?_ ?_ | refine w_neD ?_ ?_ ?_ | refine w_inT ?_ ?_ ?_ | refine w_inL ?_ ?_ ?_); (first | rfl | with_unfolding_all rfl); (first | rfl | with_unfolding_all rfl)) | ((with_reducible refine ift_of ?_ ?_); (with_unfolding_all rfl)) | ((with_reducible refine iff_of ?_ ?_); (with_unfolding_all rfl)) | ((with_reducible refine ift2_of ?_ ?_); (with_unfolding_all rfl)) | ((with_reducible refine iff2_of ?_ ?_); (with_unfolding_all rfl)) | ((with_reducible refine ift_of ?_ ?_); exact decide_eq_true (by omega)) | ((with_reducible refine iff_of ?_ ?_); exact decide_eq_false (by omega)) | ((with_reducible refine ift2_of ?_ ?_); exact decide_eq_true (by omega)) | ((with_reducible refine iff2_of ?_ ?_); exact decide_eq_false (by omega)))
    exact hQ ws t' (IsX.f hw) ht'
  · with_reducible refine iff_of (decide_eq_false h0) ?_
    have key : ∃ m : Int, atI [D.int 8, .int 4, .int 2] (r - 1) = some (.int m) ∧ 0 < m ∧ m ≤ 8 := by
      have : r = 1 ∨ r = 2 ∨ r = 3 := by omega
      rcases this with rfl | rfl | rfl
      · exact ⟨8, rfl, by decide, by decide⟩
      · exact ⟨4, rfl, by decide, by decide⟩
      · exact ⟨2, rfl, by decide, by decide⟩
    obtain ⟨m, em, m0, m8⟩ := key
    repeat (first | (with_reducible refine w_idxT em ?_) | (with_reducible first | refine w_seq ?_ | refine w_asg ?_ | refine w_asgP ?_ | refine pr_i ?_ | refine w_eqI ?_ | refine w_neI ?_ | refine w_own ?_ | refine w_par ?_ | refine w_parO ?_ | refine w_expr ?_ | refine w_if ?_ | refine w_sret ?_ | refine w_nil ?_ | refine w_for ?_ | refine w_bin ?_ | refine w_un ?_ | refine w_tup ?_ | refine w_lst ?_ | refine w_call ?_ | refine w_and ?_ | refine w_or ?_ | refine w_ife ?_ | refine w_chain ?_ | refine w_slice ?_ | refine w_oN ?_ | refine w_oS ?_ | refine w_comp ?_ | refine w_itSeq ?_ | refine w_itR ?_ | refine w_evnil ?_ | refine w_evcons ?_ | refine w_evc1 ?_ | refine w_evc0 ?_ | refine w_c ?_ | refine nx_nx ?_ | refine nx_ret ?_ | refine bl_i ?_ | refine in_i ?_ | refine sq_t ?_ | refine sq_l ?_ | refine ls_l ?_ | refine tp_t ?_ | refine w_not ?_ | refine w_addI ?_ | refine w_sub ?_ | refine w_xor ?_ | refine w_ltI ?_ | refine w_leI ?_ | refine w_gtI ?_ | refine w_geI ?_ | refine w_slT ?_ | refine w_slL ?_ | refine w_lenT ?_ | refine w_lenL ?_ | refine w_lenS ?_ | refine w_tupL ?_ | refine w_tupT ?_ | refine w_lstL ?_ | refine w_lstT ?_ | refine w_neg ?_ | refine w_isn ?_ | refine w_isnn ?_ | refine w_begun ?_ | refine w_ret ?_ | refine w_resE ?_) | (with_reducible refine w_var (by with_unfolding_all rfl) ?_) | (with_reducible refine w_peekV (by with_unfolding_all rfl) ?_) | (with_reducible refine w_peekO (by with_unfolding_all rfl) ?_) | (with_reducible refine w_app (by with_unfolding_all rfl) ?_) | (with_reducible refine w_frz (by with_unfolding_all rfl) ?_) | (with_reducible refine w_scr (by with_unfolding_all rfl) ?_) | (with_reducible refine w_tc (by with_unfolding_all rfl) ?_) | (with_reducible refine w_stc (by with_unfolding_all rfl) ?_) | (with_reducible refine w_tr (by with_unfolding_all rfl) ?_) | (with_reducible refine w_str (by with_unfolding_all rfl) ?_) | (with_reducible refine w_idxT (by with_unfolding_all rfl) ?_) | (with_reducible refine w_idxL (by with_unfolding_all rfl) ?_) | (with_reducible refine w_isi (by with_unfolding_all rfl) ?_) | ((with_reducible first | refine w_addT ?_ ?_ | refine w_addL ?_ ?_ | refine w_mulI ?_ ?_ | refine w_mulT ?_ ?_ | refine w_mulL ?_ ?_ | refine w_mod ?_ ?_ | refine w_div ?_ ?_ | refine w_pow ?_ ?_ | refine w_rng ?_ ?_); (first | decide | omega | (refine ⟨?_, ?_⟩ <;> omega) | (refine ⟨?_, ?_, ?_⟩ <;> omega) | (simp only [List.length_cons, List.length_nil, List.length_append, List.length_reverse, BL.cD_len, BL.iD_len, BL.mkx_len, BL.sizeL]; omega) | (refine ⟨List.cons_ne_nil _ _, ?_⟩; simp only [List.length_cons, List.length_nil]; omega))) | ((with_reducible first | refine w_eqD ?_ ?_ ?_ | refine w_neD ?_ ?_ ?_ | refine w_inT ?_ ?_ ?_ | refine w_inL ?_ ?_ ?_); (first | rfl | with_unfolding_all rfl); (first | rfl | with_unfolding_all rfl)) | ((with_reducible refine ift_of ?_ ?_); (with_unfolding_all rfl)) | ((with_reducible refine iff_of ?_ ?_); (with_unfolding_all rfl)) | ((with_reducible refine ift2_of ?_ ?_); (with_unfolding_all rfl)) | ((with_reducible refine iff2_of ?_ ?_); (with_unfolding_all rfl)) | ((with_reducible refine ift_of ?_ ?_); exact decide_eq_true (by omega)) | ((with_reducible refine iff_of ?_ ?_); exact decide_eq_false (by omega)) | ((with_reducible refine ift2_of ?_ ?_); exact decide_eq_true (by omega)) | ((with_reducible refine iff2_of ?_ ?_); exact decide_eq_false (by omega)))
    with_reducible refine and_ri (by decide) (by decide) ?_
    with_reducible refine and_le (by decide) ?_
    refine w_cmpL (T := TOk) (R := fun _ r => ∃ n : Nat, n < 8 ∧ r = .int (n : Int)) ht1 (fun d hd t ht => ⟨_, rfl, rfl, ?_⟩) fun rs t2 ht2 hlen hR => ?_
    · repeat (first | (with_reducible refine w_draw hl ht (by omega) (by omega) fun r t3 q0 q1 ht3 => ?_) | (with_reducible first | refine w_seq ?_ | refine w_asg ?_ | refine w_asgP ?_ | refine pr_i ?_ | refine w_eqI ?_ | refine w_neI ?_ | refine w_own ?_ | refine w_par ?_ | refine w_parO ?_ | refine w_expr ?_ | refine w_if ?_ | refine w_sret ?_ | refine w_nil ?_ | refine w_for ?_ | refine w_bin ?_ | refine w_un ?_ | refine w_tup ?_ | refine w_lst ?_ | refine w_call ?_ | refine w_and ?_ | refine w_or ?_ | refine w_ife ?_ | refine w_chain ?_ | refine w_slice ?_ | refine w_oN ?_ | refine w_oS ?_ | refine w_comp ?_ | refine w_itSeq ?_ | refine w_itR ?_ | refine w_evnil ?_ | refine w_evcons ?_ | refine w_evc1 ?_ | refine w_evc0 ?_ | refine w_c ?_ | refine nx_nx ?_ | refine nx_ret ?_ | refine bl_i ?_ | refine in_i ?_ | refine sq_t ?_ | refine sq_l ?_ | refine ls_l ?_ | refine tp_t ?_ | refine w_not ?_ | refine w_addI ?_ | refine w_sub ?_ | refine w_xor ?_ | refine w_ltI ?_ | refine w_leI ?_ | refine w_gtI ?_ | refine w_geI ?_ | refine w_slT ?_ | refine w_slL ?_ | refine w_lenT ?_ | refine w_lenL ?_ | refine w_lenS ?_ | refine w_tupL ?_ | refine w_tupT ?_ | refine w_lstL ?_ | refine w_lstT ?_ | refine w_neg ?_ | refine w_isn ?_ | refine w_isnn ?_ | refine w_begun ?_ | refine w_ret ?_ | refine w_resE ?_) | (with_reducible refine w_var (by with_unfolding_all rfl) ?_) | (with_reducible refine w_peekV (by with_unfolding_all rfl) ?_) | (with_reducible refine w_peekO (by with_unfolding_all rfl) ?_) | (with_reducible refine w_app (by with_unfolding_all rfl) ?_) | (with_reducible refine w_frz (by with_unfolding_all rfl) ?_) | (with_reducible refine w_scr (by with_unfolding_all rfl) ?_) | (with_reducible refine w_tc (by with_unfolding_all rfl) ?_) | (with_reducible refine w_stc (by with_unfolding_all rfl) ?_) | (with_reducible refine w_tr (by with_unfolding_all rfl) ?_) | (with_reducible refine w_str (by with_unfolding_all rfl) ?_) | (with_reducible refine w_idxT (by with_unfolding_all rfl) ?_) | (with_reducible refine w_idxL (by with_unfolding_all rfl) ?_) | (with_reducible refine w_isi (by with_unfolding_all rfl) ?_) | ((with_reducible first | refine w_addT ?_ ?_ | refine w_addL ?_ ?_ | refine w_mulI ?_ ?_ | refine w_mulT ?_ ?_ | refine w_mulL ?_ ?_ | refine w_mod ?_ ?_ | refine w_div ?_ ?_ | refine w_pow ?_ ?_ | refine w_rng ?_ ?_); (first | decide | omega | (refine ⟨?_, ?_⟩ <;> omega) | (refine ⟨?_, ?_, ?_⟩ <;> omega) | (simp only [List.length_cons, List.length_nil, List.length_append, List.length_reverse, BL.cD_len, BL.iD_len, BL.mkx_len, BL.sizeL]; omega) | (refine ⟨List.cons_ne_nil _ _, ?_⟩; simp only [List.length_cons, List.length_nil]; omega))) | ((with_reducible first | refine w_eqD ?_ ?_ ?_ | refine w_neD ?_ ?_ ?_ | refine w_inT ?_ ?_ ?_ | refine w_inL ?_ ?_ ?_); (first | rfl | with_unfolding_all rfl); (first | rfl | with_unfolding_all rfl)) | ((with_reducible refine ift_of ?_ ?_); (with_unfolding_all rfl)) | ((with_reducible refine iff_of ?_ ?_); (with_unfolding_all rfl)) | ((with_reducible refine ift2_of ?_ ?_); (with_unfolding_all rfl)) | ((with_reducible refine iff2_of ?_ ?_); (with_unfolding_all rfl)) | ((with_reducible refine ift_of ?_ ?_); exact decide_eq_true (by omega)) | ((with_reducible refine iff_of ?_ ?_); exact decide_eq_false (by omega)) | ((with_reducible refine ift2_of ?_ ?_); exact decide_eq_true (by omega)) | ((with_reducible refine iff2_of ?_ ?_); exact decide_eq_false (by omega)))
      exact ⟨ht3, r.toNat, by omega, by rw [Int.toNat_of_nonneg q0]⟩
    · repeat (first | (with_reducible first | refine w_seq ?_ | refine w_asg ?_ | refine w_asgP ?_ | refine pr_i ?_ | refine w_eqI ?_ | refine w_neI ?_ | refine w_own ?_ | refine w_par ?_ | refine w_parO ?_ | refine w_expr ?_ | refine w_if ?_ | refine w_sret ?_ | refine w_nil ?_ | refine w_for ?_ | refine w_bin ?_ | refine w_un ?_ | refine w_tup ?_ | refine w_lst ?_ | refine w_call ?_ | refine w_and ?_ | refine w_or ?_ | refine w_ife ?_ | refine w_chain ?_ | refine w_slice ?_ | refine w_oN ?_ | refine w_oS ?_ | refine w_comp ?_ | refine w_itSeq ?_ | refine w_itR ?_ | refine w_evnil ?_ | refine w_evcons ?_ | refine w_evc1 ?_ | refine w_evc0 ?_ | refine w_c ?_ | refine nx_nx ?_ | refine nx_ret ?_ | refine bl_i ?_ | refine in_i ?_ | refine sq_t ?_ | refine sq_l ?_ | refine ls_l ?_ | refine tp_t ?_ | refine w_not ?_ | refine w_addI ?_ | refine w_sub ?_ | refine w_xor ?_ | refine w_ltI ?_ | refine w_leI ?_ | refine w_gtI ?_ | refine w_geI ?_ | refine w_slT ?_ | refine w_slL ?_ | refine w_lenT ?_ | refine w_lenL ?_ | refine w_lenS ?_ | refine w_tupL ?_ | refine w_tupT ?_ | refine w_lstL ?_ | refine w_lstT ?_ | refine w_neg ?_ | refine w_isn ?_ | refine w_isnn ?_ | refine w_begun ?_ | refine w_ret ?_ | refine w_resE ?_) | (with_reducible refine w_var (by with_unfolding_all rfl) ?_) | (with_reducible refine w_peekV (by with_unfolding_all rfl) ?_) | (with_reducible refine w_peekO (by with_unfolding_all rfl) ?_) | (with_reducible refine w_app (by with_unfolding_all rfl) ?_) | (with_reducible refine w_frz (by with_unfolding_all rfl) ?_) | (with_reducible refine w_scr (by with_unfolding_all rfl) ?_) | (with_reducible refine w_tc (by with_unfolding_all rfl) ?_) | (with_reducible refine w_stc (by with_unfolding_all rfl) ?_) | (with_reducible refine w_tr (by with_unfolding_all rfl) ?_) | (with_reducible refine w_str (by with_unfolding_all rfl) ?_) | (with_reducible refine w_idxT (by with_unfolding_all rfl) ?_) | (with_reducible refine w_idxL (by with_unfolding_all rfl) ?_) | (with_reducible refine w_isi (by with_unfolding_all rfl) ?_) | ((with_reducible first | refine w_addT ?_ ?_ | refine w_addL ?_ ?_ | refine w_mulI ?_ ?_ | refine w_mulT ?_ ?_ | refine w_mulL ?_ ?_ | refine w_mod ?_ ?_ | refine w_div ?_ ?_ | refine w_pow ?_ ?_ | refine w_rng ?_ ?_); (first | decide | omega | (refine ⟨?_, ?_⟩ <;> omega) | (refine ⟨?_, ?_, ?_⟩ <;> omega) | (simp only [List.length_cons, List.length_nil, List.length_append, List.length_reverse, BL.cD_len, BL.iD_len, BL.mkx_len, BL.sizeL]; omega) | (refine ⟨List.cons_ne_nil _ _, ?_⟩; simp only [List.length_cons, List.length_nil]; omega))) | ((with_reducible first | refine w_eqD ?_ ?_ ?_ | refine w_neD ?_ ?_ ?_ | refine w_inT ?_ ?_ ?_ | refine w_inL ?_ ?_ ?_); (first | rfl | with_unfolding_all rfl); (first | rfl | with_unfolding_all rfl)) | ((with_reducible refine ift_of ?_ ?_); (with_unfolding_all rfl)) | ((with_reducible refine iff_of ?_ ?_); (with_unfolding_all rfl)) | ((with_reducible refine ift2_of ?_ ?_); (with_unfolding_all rfl)) | ((with_reducible refine iff2_of ?_ ?_); (with_unfolding_all rfl)) | ((with_reducible refine ift_of ?_ ?_); exact decide_eq_true (by omega)) | ((with_reducible refine iff_of ?_ ?_); exact decide_eq_false (by omega)) | ((with_reducible refine ift2_of ?_ ?_); exact decide_eq_true (by omega)) | ((with_reducible refine iff2_of ?_ ?_); exact decide_eq_false (by omega)))
      obtain ⟨ws, rfl, hw⟩ := iD_of (ds := rs) fun d hd => by
        obtain ⟨i, hi⟩ := List.mem_iff_getElem?.mp hd
        have hil : i < (rng (Int.toNat 8)).length := by rw [hlen]; exact (List.getElem?_eq_some_iff.mp hi).1
        exact hR i _ d (List.getElem?_eq_getElem hil) hi
      refine hQ ws t2 ⟨?_, hw⟩ ht2
      rw [iD_len] at hlen
      rw [← hlen]; rfl
theorem w_par3 {i j l : Nat} {a b c : Ex} {S : Sl} {t : Tn} {Q : Fl → Tn → Prop} (h : W (a S t) fun x t1 => W (b S t1) fun y t2 => W (c S t2) fun z t3 => Q (.nx (((S.set i (.val x)).set j (.val y)).set l (.val z))) t3) : W (sPar3 i j l a b c S t) Q :=
  w_bnd (h.mono fun x t1 h => w_bnd (h.mono fun y t2 h => w_bnd h))
theorem check_function_yes {ws : List Nat} (h : IsF ws) : f_check_function [.tup (iD ws)] = ret .non := by
  refine eq_of_W fun t => ?_
  unfold f_check_function
  with_reducible refine w_fn ?_
  rw [show slots0 2 [D.tup (iD ws)] = [.val (.tup (iD ws)), .un] from rfl]
  unfold b_check_function
  have hl := iD_len ws
  have h8 := h.1
  have hd : decide (((iD ws).length : Int) ≠ 8) = false := decide_eq_false (by rw [hl, h8]; decide)
  repeat (first | (with_reducible first | refine w_seq ?_ | refine w_asg ?_ | refine w_asgP ?_ | refine pr_i ?_ | refine w_eqI ?_ | refine w_neI ?_ | refine w_own ?_ | refine w_par ?_ | refine w_parO ?_ | refine w_expr ?_ | refine w_if ?_ | refine w_sret ?_ | refine w_nil ?_ | refine w_for ?_ | refine w_bin ?_ | refine w_un ?_ | refine w_tup ?_ | refine w_lst ?_ | refine w_call ?_ | refine w_and ?_ | refine w_or ?_ | refine w_ife ?_ | refine w_chain ?_ | refine w_slice ?_ | refine w_oN ?_ | refine w_oS ?_ | refine w_comp ?_ | refine w_itSeq ?_ | refine w_itR ?_ | refine w_evnil ?_ | refine w_evcons ?_ | refine w_evc1 ?_ | refine w_evc0 ?_ | refine w_c ?_ | refine nx_nx ?_ | refine nx_ret ?_ | refine bl_i ?_ | refine in_i ?_ | refine sq_t ?_ | refine sq_l ?_ | refine ls_l ?_ | refine tp_t ?_ | refine w_not ?_ | refine w_addI ?_ | refine w_sub ?_ | refine w_xor ?_ | refine w_ltI ?_ | refine w_leI ?_ | refine w_gtI ?_ | refine w_geI ?_ | refine w_slT ?_ | refine w_slL ?_ | refine w_lenT ?_ | refine w_lenL ?_ | refine w_lenS ?_ | refine w_tupL ?_ | refine w_tupT ?_ | refine w_lstL ?_ | refine w_lstT ?_ | refine w_neg ?_ | refine w_isn ?_ | refine w_isnn ?_ | refine w_begun ?_ | refine w_ret ?_ | refine w_resE ?_) | (with_reducible refine w_var (by with_unfolding_all rfl) ?_) | (with_reducible refine w_peekV (by with_unfolding_all rfl) ?_) | (with_reducible refine w_peekO (by with_unfolding_all rfl) ?_) | (with_reducible refine w_app (by with_unfolding_all rfl) ?_) | (with_reducible refine w_frz (by with_unfolding_all rfl) ?_) | (with_reducible refine w_scr (by with_unfolding_all rfl) ?_) | (with_reducible refine w_tc (by with_unfolding_all rfl) ?_) | (with_reducible refine w_stc (by with_unfolding_all rfl) ?_) | (with_reducible refine w_tr (by with_unfolding_all rfl) ?_) | (with_reducible refine w_str (by with_unfolding_all rfl) ?_) | (with_reducible refine w_idxT (by with_unfolding_all rfl) ?_) | (with_reducible refine w_idxL (by with_unfolding_all rfl) ?_) | (with_reducible refine w_isi (by with_unfolding_all rfl) ?_) | ((with_reducible first | refine w_addT ?_ ?_ | refine w_addL ?_ ?_ | refine w_mulI ?_ ?_ | refine w_mulT ?_ ?_ | refine w_mulL ?_ ?_ | refine w_mod ?_ ?_ | refine w_div ?_ ?_ | refine w_pow ?_ ?_ | refine w_rng ?_ ?_); (first | decide | omega | (refine ⟨?_, ?_⟩ <;> omega) | (refine ⟨?_, ?_, ?_⟩ <;> omega) | (simp only [List.length_cons, List.length_nil, List.length_append, List.length_reverse, BL.cD_len, BL.iD_len, BL.mkx_len, BL.sizeL]; omega) | (refine ⟨List.cons_ne_nil _ _, ?_⟩; simp only [List.length_cons, List.length_nil]; omega))) | ((with_reducible first | refine w_eqD ?_ ?_ ?_ | refine w_neD ?_ ?_ ?_ | refine w_inT ?_ ?_ ?_ | refine w_inL ?_ ?_ ?_); (first | rfl | with_unfolding_all rfl); (first | rfl | with_unfolding_all rfl)) | ((with_reducible refine ift_of ?_ ?_); (with_unfolding_all rfl)) | ((with_reducible refine iff_of ?_ ?_); (with_unfolding_all rfl)) | ((with_reducible refine ift2_of ?_ ?_); (with_unfolding_all rfl)) | ((with_reducible refine iff2_of ?_ ?_); (with_unfolding_all rfl)) | ((with_reducible refine ift_of ?_ ?_); exact decide_eq_true (by omega)) | ((with_reducible refine iff_of ?_ ?_); exact decide_eq_false (by omega)) | ((with_reducible refine ift2_of ?_ ?_); exact decide_eq_true (by omega)) | ((with_reducible refine iff2_of ?_ ?_); exact decide_eq_false (by omega)))
  with_reducible refine and_le (by rw [hl, h8, sizeL]; decide) ?_
  refine w_cmpM (fun _ => .bl true) (fun d hd => ?_) ?_
  · obtain ⟨w, hw, rfl⟩ := mem_iD hd
    refine ⟨_, rfl, ?_⟩
    have := is_between_eq (d := .int (w : Int)) (lo := 0) (hi := 7) rfl
    refine Eq.trans (b := f_is_between [.int (w : Int), .int 0, .int 7]) rfl (this.trans ?_)
    have hw8 := h.2 w hw
    rw [show btw 0 7 (.int (w : Int)) = true from by show (decide (0 ≤ (w : Int)) && decide ((w : Int) ≤ 7)) = true; rw [decide_eq_true (by omega), decide_eq_true (by omega)]; rfl]
  · have e : (iD ws).map (fun _ => D.bl true) = ws.map fun _ => D.bl true := by unfold iD; rw [List.map_map]; rfl
    rw [e]
    refine w_allL (bools_map (fun _ => true) ws) ?_
    rw [all_map, show ws.all (fun _ => true) = true from List.all_eq_true.mpr fun _ _ => rfl]
    repeat (first | (with_reducible first | refine w_seq ?_ | refine w_asg ?_ | refine w_asgP ?_ | refine pr_i ?_ | refine w_eqI ?_ | refine w_neI ?_ | refine w_own ?_ | refine w_par ?_ | refine w_parO ?_ | refine w_expr ?_ | refine w_if ?_ | refine w_sret ?_ | refine w_nil ?_ | refine w_for ?_ | refine w_bin ?_ | refine w_un ?_ | refine w_tup ?_ | refine w_lst ?_ | refine w_call ?_ | refine w_and ?_ | refine w_or ?_ | refine w_ife ?_ | refine w_chain ?_ | refine w_slice ?_ | refine w_oN ?_ | refine w_oS ?_ | refine w_comp ?_ | refine w_itSeq ?_ | refine w_itR ?_ | refine w_evnil ?_ | refine w_evcons ?_ | refine w_evc1 ?_ | refine w_evc0 ?_ | refine w_c ?_ | refine nx_nx ?_ | refine nx_ret ?_ | refine bl_i ?_ | refine in_i ?_ | refine sq_t ?_ | refine sq_l ?_ | refine ls_l ?_ | refine tp_t ?_ | refine w_not ?_ | refine w_addI ?_ | refine w_sub ?_ | refine w_xor ?_ | refine w_ltI ?_ | refine w_leI ?_ | refine w_gtI ?_ | refine w_geI ?_ | refine w_slT ?_ | refine w_slL ?_ | refine w_lenT ?_ | refine w_lenL ?_ | refine w_lenS ?_ | refine w_tupL ?_ | refine w_tupT ?_ | refine w_lstL ?_ | refine w_lstT ?_ | refine w_neg ?_ | refine w_isn ?_ | refine w_isnn ?_ | refine w_begun ?_ | refine w_ret ?_ | refine w_resE ?_) | (with_reducible refine w_var (by with_unfolding_all rfl) ?_) | (with_reducible refine w_peekV (by with_unfolding_all rfl) ?_) | (with_reducible refine w_peekO (by with_unfolding_all rfl) ?_) | (with_reducible refine w_app (by with_unfolding_all rfl) ?_) | (with_reducible refine w_frz (by with_unfolding_all rfl) ?_) | (with_reducible refine w_scr (by with_unfolding_all rfl) ?_) | (with_reducible refine w_tc (by with_unfolding_all rfl) ?_) | (with_reducible refine w_stc (by with_unfolding_all rfl) ?_) | (with_reducible refine w_tr (by with_unfolding_all rfl) ?_) | (with_reducible refine w_str (by with_unfolding_all rfl) ?_) | (with_reducible refine w_idxT (by with_unfolding_all rfl) ?_) | (with_reducible refine w_idxL (by with_unfolding_all rfl) ?_) | (with_reducible refine w_isi (by with_unfolding_all rfl) ?_) | ((with_reducible first | refine w_addT ?_ ?_ | refine w_addL ?_ ?_ | refine w_mulI ?_ ?_ | refine w_mulT ?_ ?_ | refine w_mulL ?_ ?_ | refine w_mod ?_ ?_ | refine w_div ?_ ?_ | refine w_pow ?_ ?_ | refine w_rng ?_ ?_); (first | decide | omega | (refine ⟨?_, ?_⟩ <;> omega) | (refine ⟨?_, ?_, ?_⟩ <;> omega) | (simp only [List.length_cons, List.length_nil, List.length_append, List.length_reverse, BL.cD_len, BL.iD_len, BL.mkx_len, BL.sizeL]; omega) | (refine ⟨List.cons_ne_nil _ _, ?_⟩; simp only [List.length_cons, List.length_nil]; omega))) | ((with_reducible first | refine w_eqD ?_ ?_ ?_ | refine w_neD ?_ ?_ ?_ | refine w_inT ?_ ?_ ?_ | refine w_inL ?_ ?_ ?_); (first | rfl | with_unfolding_all rfl); (first | rfl | with_unfolding_all rfl)) | ((with_reducible refine ift_of ?_ ?_); (with_unfolding_all rfl)) | ((with_reducible refine iff_of ?_ ?_); (with_unfolding_all rfl)) | ((with_reducible refine ift2_of ?_ ?_); (with_unfolding_all rfl)) | ((with_reducible refine iff2_of ?_ ?_); (with_unfolding_all rfl)) | ((with_reducible refine ift_of ?_ ?_); exact decide_eq_true (by omega)) | ((with_reducible refine iff_of ?_ ?_); exact decide_eq_false (by omega)) | ((with_reducible refine ift2_of ?_ ?_); exact decide_eq_true (by omega)) | ((with_reducible refine iff2_of ?_ ?_); exact decide_eq_false (by omega)))
    exact ⟨rfl, rfl⟩
theorem cnt_iD (ws : List Nat) (v : Nat) : cntD (iD ws) (.int (v : Int)) = ws.count v := by
  unfold cntD iD
  rw [List.countP_map, List.count]
  congr 1
  funext w
  show PyData.eqv (D.int (w : Int)).py (D.int (v : Int)).py = (w == v)
  rw [eqvI, Bool.eq_iff_iff, decide_eq_true_eq, beq_iff_eq]
  omega
theorem okA_iD (ws : List Nat) (n : Nat) : okA (iD ws) n = true := okA_of fun d hd => by obtain ⟨w, _, rfl⟩ := mem_iD hd; rfl
theorem w_tm {op : List D → D → M D} {a b : Ex} {S : Sl} {t : Tn} {Q : D → Tn → Prop} (h : W (a S t) (Tp fun ds t1 => W (b S t1) fun y t2 => W (op ds y t2) Q)) : W (eTM op a b S t) Q := w_bnd (h.mono fun d t1 q => by
  cases d with
  | tup ds => exact w_bnd q
  | _ => exact q.elim)
theorem w_cnt {ws : List Nat} {v : Nat} {t : Tn} {Q : D → Tn → Prop} (h : Q (.int (ws.count v : Nat)) t) : W (pCnt (iD ws) (.int (v : Int)) t) Q := by
  unfold pCnt
  rw [if_pos ⟨okA_iD ws 59, rfl⟩, cnt_iD]; exact h
/-- how often the most frequent value occurs -/
def mxc (ws : List Nat) : Int := maxI (ws.count 0 : Nat) ((List.range' 1 7).map fun v => ((ws.count v : Nat) : Int))
theorem w_max {n : Int} {r : List Int} {ds : List D} {t : Tn} {Q : D → Tn → Prop} (e : intsD ds = some (n :: r)) (h : Q (.int (maxI n r)) t) : W (bMax (.lst ds) t) Q := by
  show W ((match intsD ds with | some (n :: r) => ret (D.int (maxI n r)) | _ => stuck) t) Q
  rw [e]; exact h
theorem mxc_spec {ws : List Nat} (h : IsF ws) : (∃ v, v ∈ ws ∧ mxc ws = (ws.count v : Nat)) ∧ (∀ v, ((ws.count v : Nat) : Int) ≤ mxc ws) ∧ 1 ≤ mxc ws ∧ mxc ws ≤ 8 := by
  obtain ⟨h1, h2⟩ := maxI_spec ((List.range' 1 7).map fun v => ((ws.count v : Nat) : Int)) (ws.count 0 : Nat)
  have all : ∀ v, ((ws.count v : Nat) : Int) ≤ mxc ws := fun v => by
    by_cases hv : v < 8
    · by_cases h0 : v = 0
      · subst h0; exact h2 _ (List.mem_cons_self ..)
      · exact h2 _ (List.mem_cons_of_mem _ (List.mem_map.mpr ⟨v, List.mem_range'_1.mpr (by omega), rfl⟩))
    · have : ws.count v = 0 := List.count_eq_zero_of_not_mem fun hm => hv (h.2 v hm)
      rw [this]
      have := h2 _ (List.mem_cons_self ..)
      have e : ((0 : Nat) : Int) = 0 := rfl
      show ((0 : Nat) : Int) ≤ maxI _ _
      omega
  have one : 1 ≤ mxc ws := by
    cases ws with
    | nil => have := h.1; cases this
    | cons x r =>
      have := all x
      rw [List.count_cons_self] at this
      omega
  have ex : ∃ v, mxc ws = (ws.count v : Nat) := by
    rcases List.mem_cons.mp h1 with e | e
    · exact ⟨0, e⟩
    · obtain ⟨v, _, e⟩ := List.mem_map.mp e
      exact ⟨v, e.symm⟩
  obtain ⟨v, ev⟩ := ex
  refine ⟨⟨v, ?_, ev⟩, all, one, ?_⟩
  · apply Classical.byContradiction
    intro hn
    rw [List.count_eq_zero_of_not_mem hn] at ev
    omega
  · have := List.count_le_length (a := v) (l := ws)
    rw [h.1] at this
    omega
def fb (m : Int) : Int := if m ≤ 1 then 0 else if m ≤ 2 then 1 else if m ≤ 4 then 2 else 3
theorem further_bits_eq {ws : List Nat} (h : IsF ws) : f_further_bits [.tup (iD ws)] = ret (.int (fb (mxc ws))) := by
  refine eq_of_W fun t => ?_
  unfold f_further_bits
  with_reducible refine w_fn ?_
  rw [show slots0 5 [D.tup (iD ws)] = [.val (.tup (iD ws)), .un, .un, .un, .un] from rfl]
  unfold b_further_bits c_SAME
  repeat (first | (with_reducible refine w_eq (check_function_yes h) ?_) | (with_reducible refine w_par3 ?_) | (with_reducible first | refine w_seq ?_ | refine w_asg ?_ | refine w_asgP ?_ | refine pr_i ?_ | refine w_eqI ?_ | refine w_neI ?_ | refine w_own ?_ | refine w_par ?_ | refine w_parO ?_ | refine w_expr ?_ | refine w_if ?_ | refine w_sret ?_ | refine w_nil ?_ | refine w_for ?_ | refine w_bin ?_ | refine w_un ?_ | refine w_tup ?_ | refine w_lst ?_ | refine w_call ?_ | refine w_and ?_ | refine w_or ?_ | refine w_ife ?_ | refine w_chain ?_ | refine w_slice ?_ | refine w_oN ?_ | refine w_oS ?_ | refine w_comp ?_ | refine w_itSeq ?_ | refine w_itR ?_ | refine w_evnil ?_ | refine w_evcons ?_ | refine w_evc1 ?_ | refine w_evc0 ?_ | refine w_c ?_ | refine nx_nx ?_ | refine nx_ret ?_ | refine bl_i ?_ | refine in_i ?_ | refine sq_t ?_ | refine sq_l ?_ | refine ls_l ?_ | refine tp_t ?_ | refine w_not ?_ | refine w_addI ?_ | refine w_sub ?_ | refine w_xor ?_ | refine w_ltI ?_ | refine w_leI ?_ | refine w_gtI ?_ | refine w_geI ?_ | refine w_slT ?_ | refine w_slL ?_ | refine w_lenT ?_ | refine w_lenL ?_ | refine w_lenS ?_ | refine w_tupL ?_ | refine w_tupT ?_ | refine w_lstL ?_ | refine w_lstT ?_ | refine w_neg ?_ | refine w_isn ?_ | refine w_isnn ?_ | refine w_begun ?_ | refine w_ret ?_ | refine w_resE ?_) | (with_reducible refine w_var (by with_unfolding_all rfl) ?_) | (with_reducible refine w_peekV (by with_unfolding_all rfl) ?_) | (with_reducible refine w_peekO (by with_unfolding_all rfl) ?_) | (with_reducible refine w_app (by with_unfolding_all rfl) ?_) | (with_reducible refine w_frz (by with_unfolding_all rfl) ?_) | (with_reducible refine w_scr (by with_unfolding_all rfl) ?_) | (with_reducible refine w_tc (by with_unfolding_all rfl) ?_) | (with_reducible refine w_stc (by with_unfolding_all rfl) ?_) | (with_reducible refine w_tr (by with_unfolding_all rfl) ?_) | (with_reducible refine w_str (by with_unfolding_all rfl) ?_) | (with_reducible refine w_idxT (by with_unfolding_all rfl) ?_) | (with_reducible refine w_idxL (by with_unfolding_all rfl) ?_) | (with_reducible refine w_isi (by with_unfolding_all rfl) ?_) | ((with_reducible first | refine w_addT ?_ ?_ | refine w_addL ?_ ?_ | refine w_mulI ?_ ?_ | refine w_mulT ?_ ?_ | refine w_mulL ?_ ?_ | refine w_mod ?_ ?_ | refine w_div ?_ ?_ | refine w_pow ?_ ?_ | refine w_rng ?_ ?_); (first | decide | omega | (refine ⟨?_, ?_⟩ <;> omega) | (refine ⟨?_, ?_, ?_⟩ <;> omega) | (simp only [List.length_cons, List.length_nil, List.length_append, List.length_reverse, BL.cD_len, BL.iD_len, BL.mkx_len, BL.sizeL]; omega) | (refine ⟨List.cons_ne_nil _ _, ?_⟩; simp only [List.length_cons, List.length_nil]; omega))) | ((with_reducible first | refine w_eqD ?_ ?_ ?_ | refine w_neD ?_ ?_ ?_ | refine w_inT ?_ ?_ ?_ | refine w_inL ?_ ?_ ?_); (first | rfl | with_unfolding_all rfl); (first | rfl | with_unfolding_all rfl)) | ((with_reducible refine ift_of ?_ ?_); (with_unfolding_all rfl)) | ((with_reducible refine iff_of ?_ ?_); (with_unfolding_all rfl)) | ((with_reducible refine ift2_of ?_ ?_); (with_unfolding_all rfl)) | ((with_reducible refine iff2_of ?_ ?_); (with_unfolding_all rfl)) | ((with_reducible refine ift_of ?_ ?_); exact decide_eq_true (by omega)) | ((with_reducible refine iff_of ?_ ?_); exact decide_eq_false (by omega)) | ((with_reducible refine ift2_of ?_ ?_); exact decide_eq_true (by omega)) | ((with_reducible refine iff2_of ?_ ?_); exact decide_eq_false (by omega)))
  with_reducible refine and_le (by decide) ?_
  refine w_cmpM (fun d => match d with | .int z => .int ((ws.count z.toNat : Nat) : Int) | _ => .non) (fun d hd => ?_) ?_
  · obtain ⟨w, hw, rfl⟩ := mem_iD (ws := List.range 8) hd
    refine ⟨_, rfl, eq_of_W fun t => ?_⟩
    repeat (first | (with_reducible refine w_tm ?_) | (with_reducible refine w_cnt ?_) | (with_reducible first | refine w_seq ?_ | refine w_asg ?_ | refine w_asgP ?_ | refine pr_i ?_ | refine w_eqI ?_ | refine w_neI ?_ | refine w_own ?_ | refine w_par ?_ | refine w_parO ?_ | refine w_expr ?_ | refine w_if ?_ | refine w_sret ?_ | refine w_nil ?_ | refine w_for ?_ | refine w_bin ?_ | refine w_un ?_ | refine w_tup ?_ | refine w_lst ?_ | refine w_call ?_ | refine w_and ?_ | refine w_or ?_ | refine w_ife ?_ | refine w_chain ?_ | refine w_slice ?_ | refine w_oN ?_ | refine w_oS ?_ | refine w_comp ?_ | refine w_itSeq ?_ | refine w_itR ?_ | refine w_evnil ?_ | refine w_evcons ?_ | refine w_evc1 ?_ | refine w_evc0 ?_ | refine w_c ?_ | refine nx_nx ?_ | refine nx_ret ?_ | refine bl_i ?_ | refine in_i ?_ | refine sq_t ?_ | refine sq_l ?_ | refine ls_l ?_ | refine tp_t ?_ | refine w_not ?_ | refine w_addI ?_ | refine w_sub ?_ | refine w_xor ?_ | refine w_ltI ?_ | refine w_leI ?_ | refine w_gtI ?_ | refine w_geI ?_ | refine w_slT ?_ | refine w_slL ?_ | refine w_lenT ?_ | refine w_lenL ?_ | refine w_lenS ?_ | refine w_tupL ?_ | refine w_tupT ?_ | refine w_lstL ?_ | refine w_lstT ?_ | refine w_neg ?_ | refine w_isn ?_ | refine w_isnn ?_ | refine w_begun ?_ | refine w_ret ?_ | refine w_resE ?_) | (with_reducible refine w_var (by with_unfolding_all rfl) ?_) | (with_reducible refine w_peekV (by with_unfolding_all rfl) ?_) | (with_reducible refine w_peekO (by with_unfolding_all rfl) ?_) | (with_reducible refine w_app (by with_unfolding_all rfl) ?_) | (with_reducible refine w_frz (by with_unfolding_all rfl) ?_) | (with_reducible refine w_scr (by with_unfolding_all rfl) ?_) | (with_reducible refine w_tc (by with_unfolding_all rfl) ?_) | (with_reducible refine w_stc (by with_unfolding_all rfl) ?_) | (with_reducible refine w_tr (by with_unfolding_all rfl) ?_) | (with_reducible refine w_str (by with_unfolding_all rfl) ?_) | (with_reducible refine w_idxT (by with_unfolding_all rfl) ?_) | (with_reducible refine w_idxL (by with_unfolding_all rfl) ?_) | (with_reducible refine w_isi (by with_unfolding_all rfl) ?_) | ((with_reducible first | refine w_addT ?_ ?_ | refine w_addL ?_ ?_ | refine w_mulI ?_ ?_ | refine w_mulT ?_ ?_ | refine w_mulL ?_ ?_ | refine w_mod ?_ ?_ | refine w_div ?_ ?_ | refine w_pow ?_ ?_ | refine w_rng ?_ ?_); (first | decide | omega | (refine ⟨?_, ?_⟩ <;> omega) | (refine ⟨?_, ?_, ?_⟩ <;> omega) | (simp only [List.length_cons, List.length_nil, List.length_append, List.length_reverse, BL.cD_len, BL.iD_len, BL.mkx_len, BL.sizeL]; omega) | (refine ⟨List.cons_ne_nil _ _, ?_⟩; simp only [List.length_cons, List.length_nil]; omega))) | ((with_reducible first | refine w_eqD ?_ ?_ ?_ | refine w_neD ?_ ?_ ?_ | refine w_inT ?_ ?_ ?_ | refine w_inL ?_ ?_ ?_); (first | rfl | with_unfolding_all rfl); (first | rfl | with_unfolding_all rfl)) | ((with_reducible refine ift_of ?_ ?_); (with_unfolding_all rfl)) | ((with_reducible refine iff_of ?_ ?_); (with_unfolding_all rfl)) | ((with_reducible refine ift2_of ?_ ?_); (with_unfolding_all rfl)) | ((with_reducible refine iff2_of ?_ ?_); (with_unfolding_all rfl)) | ((with_reducible refine ift_of ?_ ?_); exact decide_eq_true (by omega)) | ((with_reducible refine iff_of ?_ ?_); exact decide_eq_false (by omega)) | ((with_reducible refine ift2_of ?_ ?_); exact decide_eq_true (by omega)) | ((with_reducible refine iff2_of ?_ ?_); exact decide_eq_false (by omega)))
    exact ⟨by show _ = D.int ((ws.count ((w : Int).toNat) : Nat) : Int); rw [Int.toNat_natCast], rfl⟩
  refine w_max (n := (ws.count 0 : Nat)) (r := (List.range' 1 7).map fun v => ((ws.count v : Nat) : Int)) rfl ?_
  have ⟨_, _, h1, h8⟩ := mxc_spec h
  show W (sSeq (sWhile 1000000 (eBin pLt (eVar 3) (eVar 1)) (sPar 2 3 (eBin pAdd (eVar 2) (eC (.int 1))) (eBin pMul (eC (.int 2)) (eVar 3)))) (sRet (eVar 2)) [.val (.tup (iD ws)), .val (.int (mxc ws)), .val (.int 0), .val (.int 1), .un] t) _
  generalize mxc ws = m at *
  have key : ∀ m : Int, 1 ≤ m → m ≤ 8 → ∀ x : SV, sSeq (sWhile 1000000 (eBin pLt (eVar 3) (eVar 1)) (sPar 2 3 (eBin pAdd (eVar 2) (eC (.int 1))) (eBin pMul (eC (.int 2)) (eVar 3)))) (sRet (eVar 2)) [x, .val (.int m), .val (.int 0), .val (.int 1), .un] = ret (.ret (.int (fb m))) := by
    intro m h1 h8 x
    have : m = 1 ∨ m = 2 ∨ m = 3 ∨ m = 4 ∨ m = 5 ∨ m = 6 ∨ m = 7 ∨ m = 8 := by omega
    rcases this with rfl | rfl | rfl | rfl | rfl | rfl | rfl | rfl <;> with_unfolding_all rfl
  exact w_eq (key m h1 h8 _) ⟨rfl, rfl⟩
/-- where a value occurs -/
def posN (ws : List Nat) (v : Nat) : List Nat := (List.range 8).filter fun w => decide (ws.getD w 0 = v)
/-- the values that occur, ascending -/
def valsN (ws : List Nat) : List Nat := (List.range 8).filter fun v => decide (v ∈ ws)
theorem range_pair : ∀ n, (List.range n).Pairwise (· < ·) := fun n => List.pairwise_lt_range
theorem dsort_vals {ws : List Nat} (h : IsF ws) : dsort (ws.map fun (w : Nat) => (w : Int)) = (valsN ws).map fun (w : Nat) => (w : Int) := by
  refine pair_unique (dsort_pair _) ?_ fun z => ?_
  · exact List.Pairwise.map _ (fun a b hab => by omega) ((range_pair 8).filter _)
  · rw [dsort_mem]
    simp only [List.mem_map, valsN, List.mem_filter, List.mem_range, decide_eq_true_eq]
    exact ⟨fun ⟨w, hw, e⟩ => ⟨w, ⟨h.2 w hw, hw⟩, e⟩, fun ⟨w, ⟨_, hw⟩, e⟩ => ⟨w, hw, e⟩⟩
theorem w_srtSet {ws : List Nat} {t : Tn} {Q : D → Tn → Prop} (h : IsF ws) (q : Q (.lst (iD (valsN ws))) t) : W (pSrtSet (.tup (iD ws)) t) Q := by
  show W ((match intsD (iD ws) with | some ns => if ns.length < 64 then ret (D.lst ((dsort ns).map D.int)) else stuck | none => stuck) t) Q
  rw [intsD_iD]
  show W ((if (ws.map fun (w : Nat) => (w : Int)).length < 64 then ret (D.lst ((dsort (ws.map fun (w : Nat) => (w : Int))).map D.int)) else stuck) t) Q
  rw [if_pos (by rw [List.length_map, h.1]; decide), dsort_vals h, List.map_map]
  exact q
theorem getF {ws : List Nat} (h : IsF ws) {w : Nat} (hw : w < 8) : ws[w]? = some (ws.getD w 0) := by
  rw [List.getD_eq_getElem?_getD, List.getElem?_eq_getElem (by rw [h.1]; exact hw)]; rfl
theorem getF_lt {ws : List Nat} (h : IsF ws) {w : Nat} (hw : w < 8) : ws.getD w 0 < 8 := h.2 _ (List.mem_of_getElem? (getF h hw))
def partD (ws : List Nat) (v : Nat) : D := .tup [.int (v : Int), .tup (iD (posN ws v))]
theorem parts_eq {ws : List Nat} (h : IsF ws) : f_parts [.tup (iD ws)] = ret (.tup ((valsN ws).map (partD ws))) := by
  refine eq_of_W fun t => ?_
  unfold f_parts
  with_reducible refine w_fn ?_
  rw [show slots0 4 [D.tup (iD ws)] = [.val (.tup (iD ws)), .un, .un, .un] from rfl]
  unfold b_parts c_SAME
  have hvl : (valsN ws).length ≤ 8 := by have := List.length_filter_le (fun v => decide (v ∈ ws)) (List.range 8); rw [List.length_range] at this; exact this
  have hsz := sizeL
  repeat (first | (with_reducible refine w_eq (check_function_yes h) ?_) | (with_reducible refine w_srtSet h ?_) | (with_reducible first | refine w_seq ?_ | refine w_asg ?_ | refine w_asgP ?_ | refine pr_i ?_ | refine w_eqI ?_ | refine w_neI ?_ | refine w_own ?_ | refine w_par ?_ | refine w_parO ?_ | refine w_expr ?_ | refine w_if ?_ | refine w_sret ?_ | refine w_nil ?_ | refine w_for ?_ | refine w_bin ?_ | refine w_un ?_ | refine w_tup ?_ | refine w_lst ?_ | refine w_call ?_ | refine w_and ?_ | refine w_or ?_ | refine w_ife ?_ | refine w_chain ?_ | refine w_slice ?_ | refine w_oN ?_ | refine w_oS ?_ | refine w_comp ?_ | refine w_itSeq ?_ | refine w_itR ?_ | refine w_evnil ?_ | refine w_evcons ?_ | refine w_evc1 ?_ | refine w_evc0 ?_ | refine w_c ?_ | refine nx_nx ?_ | refine nx_ret ?_ | refine bl_i ?_ | refine in_i ?_ | refine sq_t ?_ | refine sq_l ?_ | refine ls_l ?_ | refine tp_t ?_ | refine w_not ?_ | refine w_addI ?_ | refine w_sub ?_ | refine w_xor ?_ | refine w_ltI ?_ | refine w_leI ?_ | refine w_gtI ?_ | refine w_geI ?_ | refine w_slT ?_ | refine w_slL ?_ | refine w_lenT ?_ | refine w_lenL ?_ | refine w_lenS ?_ | refine w_tupL ?_ | refine w_tupT ?_ | refine w_lstL ?_ | refine w_lstT ?_ | refine w_neg ?_ | refine w_isn ?_ | refine w_isnn ?_ | refine w_begun ?_ | refine w_ret ?_ | refine w_resE ?_) | (with_reducible refine w_var (by with_unfolding_all rfl) ?_) | (with_reducible refine w_peekV (by with_unfolding_all rfl) ?_) | (with_reducible refine w_peekO (by with_unfolding_all rfl) ?_) | (with_reducible refine w_app (by with_unfolding_all rfl) ?_) | (with_reducible refine w_frz (by with_unfolding_all rfl) ?_) | (with_reducible refine w_scr (by with_unfolding_all rfl) ?_) | (with_reducible refine w_tc (by with_unfolding_all rfl) ?_) | (with_reducible refine w_stc (by with_unfolding_all rfl) ?_) | (with_reducible refine w_tr (by with_unfolding_all rfl) ?_) | (with_reducible refine w_str (by with_unfolding_all rfl) ?_) | (with_reducible refine w_idxT (by with_unfolding_all rfl) ?_) | (with_reducible refine w_idxL (by with_unfolding_all rfl) ?_) | (with_reducible refine w_isi (by with_unfolding_all rfl) ?_) | ((with_reducible first | refine w_addT ?_ ?_ | refine w_addL ?_ ?_ | refine w_mulI ?_ ?_ | refine w_mulT ?_ ?_ | refine w_mulL ?_ ?_ | refine w_mod ?_ ?_ | refine w_div ?_ ?_ | refine w_pow ?_ ?_ | refine w_rng ?_ ?_); (first | decide | omega | (refine ⟨?_, ?_⟩ <;> omega) | (refine ⟨?_, ?_, ?_⟩ <;> omega) | (simp only [List.length_cons, List.length_nil, List.length_append, List.length_reverse, BL.cD_len, BL.iD_len, BL.mkx_len, BL.sizeL]; omega) | (refine ⟨List.cons_ne_nil _ _, ?_⟩; simp only [List.length_cons, List.length_nil]; omega))) | ((with_reducible first | refine w_eqD ?_ ?_ ?_ | refine w_neD ?_ ?_ ?_ | refine w_inT ?_ ?_ ?_ | refine w_inL ?_ ?_ ?_); (first | rfl | with_unfolding_all rfl); (first | rfl | with_unfolding_all rfl)) | ((with_reducible refine ift_of ?_ ?_); (with_unfolding_all rfl)) | ((with_reducible refine iff_of ?_ ?_); (with_unfolding_all rfl)) | ((with_reducible refine ift2_of ?_ ?_); (with_unfolding_all rfl)) | ((with_reducible refine iff2_of ?_ ?_); (with_unfolding_all rfl)) | ((with_reducible refine ift_of ?_ ?_); exact decide_eq_true (by omega)) | ((with_reducible refine iff_of ?_ ?_); exact decide_eq_false (by omega)) | ((with_reducible refine ift2_of ?_ ?_); exact decide_eq_true (by omega)) | ((with_reducible refine iff2_of ?_ ?_); exact decide_eq_false (by omega)))
  with_reducible refine w_forI (fun k S t' => (∃ x2 x3, S = [.val (.tup (iD ws)), .own (((valsN ws).take k).map (partD ws)), x2, x3]) ∧ t' = t) (k := 0) ⟨⟨_, _, rfl⟩, rfl⟩ (fun k d hd S t' ⟨⟨x2, x3, hS⟩, ht⟩ => ?_) fun S t' ⟨⟨x2, x3, hS⟩, ht⟩ => ?_
  · subst hS ht
    rw [Nat.zero_add]
    unfold iD at hd
    rw [List.getElem?_map] at hd
    cases hv : (valsN ws)[k]? with
    | none => rw [hv] at hd; cases hd
    | some v =>
      rw [hv] at hd
      cases hd
      refine ⟨_, rfl, ?_⟩
      repeat (first | (with_reducible first | refine w_seq ?_ | refine w_asg ?_ | refine w_asgP ?_ | refine pr_i ?_ | refine w_eqI ?_ | refine w_neI ?_ | refine w_own ?_ | refine w_par ?_ | refine w_parO ?_ | refine w_expr ?_ | refine w_if ?_ | refine w_sret ?_ | refine w_nil ?_ | refine w_for ?_ | refine w_bin ?_ | refine w_un ?_ | refine w_tup ?_ | refine w_lst ?_ | refine w_call ?_ | refine w_and ?_ | refine w_or ?_ | refine w_ife ?_ | refine w_chain ?_ | refine w_slice ?_ | refine w_oN ?_ | refine w_oS ?_ | refine w_comp ?_ | refine w_itSeq ?_ | refine w_itR ?_ | refine w_evnil ?_ | refine w_evcons ?_ | refine w_evc1 ?_ | refine w_evc0 ?_ | refine w_c ?_ | refine nx_nx ?_ | refine nx_ret ?_ | refine bl_i ?_ | refine in_i ?_ | refine sq_t ?_ | refine sq_l ?_ | refine ls_l ?_ | refine tp_t ?_ | refine w_not ?_ | refine w_addI ?_ | refine w_sub ?_ | refine w_xor ?_ | refine w_ltI ?_ | refine w_leI ?_ | refine w_gtI ?_ | refine w_geI ?_ | refine w_slT ?_ | refine w_slL ?_ | refine w_lenT ?_ | refine w_lenL ?_ | refine w_lenS ?_ | refine w_tupL ?_ | refine w_tupT ?_ | refine w_lstL ?_ | refine w_lstT ?_ | refine w_neg ?_ | refine w_isn ?_ | refine w_isnn ?_ | refine w_begun ?_ | refine w_ret ?_ | refine w_resE ?_) | (with_reducible refine w_var (by with_unfolding_all rfl) ?_) | (with_reducible refine w_peekV (by with_unfolding_all rfl) ?_) | (with_reducible refine w_peekO (by with_unfolding_all rfl) ?_) | (with_reducible refine w_app (by with_unfolding_all rfl) ?_) | (with_reducible refine w_frz (by with_unfolding_all rfl) ?_) | (with_reducible refine w_scr (by with_unfolding_all rfl) ?_) | (with_reducible refine w_tc (by with_unfolding_all rfl) ?_) | (with_reducible refine w_stc (by with_unfolding_all rfl) ?_) | (with_reducible refine w_tr (by with_unfolding_all rfl) ?_) | (with_reducible refine w_str (by with_unfolding_all rfl) ?_) | (with_reducible refine w_idxT (by with_unfolding_all rfl) ?_) | (with_reducible refine w_idxL (by with_unfolding_all rfl) ?_) | (with_reducible refine w_isi (by with_unfolding_all rfl) ?_) | ((with_reducible first | refine w_addT ?_ ?_ | refine w_addL ?_ ?_ | refine w_mulI ?_ ?_ | refine w_mulT ?_ ?_ | refine w_mulL ?_ ?_ | refine w_mod ?_ ?_ | refine w_div ?_ ?_ | refine w_pow ?_ ?_ | refine w_rng ?_ ?_); (first | decide | omega | (refine ⟨?_, ?_⟩ <;> omega) | (refine ⟨?_, ?_, ?_⟩ <;> omega) | (simp only [List.length_cons, List.length_nil, List.length_append, List.length_reverse, BL.cD_len, BL.iD_len, BL.mkx_len, BL.sizeL]; omega) | (refine ⟨List.cons_ne_nil _ _, ?_⟩; simp only [List.length_cons, List.length_nil]; omega))) | ((with_reducible first | refine w_eqD ?_ ?_ ?_ | refine w_neD ?_ ?_ ?_ | refine w_inT ?_ ?_ ?_ | refine w_inL ?_ ?_ ?_); (first | rfl | with_unfolding_all rfl); (first | rfl | with_unfolding_all rfl)) | ((with_reducible refine ift_of ?_ ?_); (with_unfolding_all rfl)) | ((with_reducible refine iff_of ?_ ?_); (with_unfolding_all rfl)) | ((with_reducible refine ift2_of ?_ ?_); (with_unfolding_all rfl)) | ((with_reducible refine iff2_of ?_ ?_); (with_unfolding_all rfl)) | ((with_reducible refine ift_of ?_ ?_); exact decide_eq_true (by omega)) | ((with_reducible refine iff_of ?_ ?_); exact decide_eq_false (by omega)) | ((with_reducible refine ift2_of ?_ ?_); exact decide_eq_true (by omega)) | ((with_reducible refine iff2_of ?_ ?_); exact decide_eq_false (by omega)))
      with_reducible refine and_le (by decide) ?_
      refine w_cmpP (fun d => match d with | .int z => decide (ws.getD z.toNat 0 = v) | _ => false) id (fun d hd => ?_) ?_
      · obtain ⟨w, hw, rfl⟩ := mem_iD (ws := List.range 8) hd
        have hw8 := List.mem_range.mp hw
        refine ⟨_, rfl, eq_of_W fun t => ?_, fun _ => rfl⟩
        repeat (first | (with_reducible refine w_idxT (atI_iD (getF h hw8)) ?_) | (with_reducible first | refine w_seq ?_ | refine w_asg ?_ | refine w_asgP ?_ | refine pr_i ?_ | refine w_eqI ?_ | refine w_neI ?_ | refine w_own ?_ | refine w_par ?_ | refine w_parO ?_ | refine w_expr ?_ | refine w_if ?_ | refine w_sret ?_ | refine w_nil ?_ | refine w_for ?_ | refine w_bin ?_ | refine w_un ?_ | refine w_tup ?_ | refine w_lst ?_ | refine w_call ?_ | refine w_and ?_ | refine w_or ?_ | refine w_ife ?_ | refine w_chain ?_ | refine w_slice ?_ | refine w_oN ?_ | refine w_oS ?_ | refine w_comp ?_ | refine w_itSeq ?_ | refine w_itR ?_ | refine w_evnil ?_ | refine w_evcons ?_ | refine w_evc1 ?_ | refine w_evc0 ?_ | refine w_c ?_ | refine nx_nx ?_ | refine nx_ret ?_ | refine bl_i ?_ | refine in_i ?_ | refine sq_t ?_ | refine sq_l ?_ | refine ls_l ?_ | refine tp_t ?_ | refine w_not ?_ | refine w_addI ?_ | refine w_sub ?_ | refine w_xor ?_ | refine w_ltI ?_ | refine w_leI ?_ | refine w_gtI ?_ | refine w_geI ?_ | refine w_slT ?_ | refine w_slL ?_ | refine w_lenT ?_ | refine w_lenL ?_ | refine w_lenS ?_ | refine w_tupL ?_ | refine w_tupT ?_ | refine w_lstL ?_ | refine w_lstT ?_ | refine w_neg ?_ | refine w_isn ?_ | refine w_isnn ?_ | refine w_begun ?_ | refine w_ret ?_ | refine w_resE ?_) | (with_reducible refine w_var (by with_unfolding_all rfl) ?_) | (with_reducible refine w_peekV (by with_unfolding_all rfl) ?_) | (with_reducible refine w_peekO (by with_unfolding_all rfl) ?_) | (with_reducible refine w_app (by with_unfolding_all rfl) ?_) | (with_reducible refine w_frz (by with_unfolding_all rfl) ?_) | (with_reducible refine w_scr (by with_unfolding_all rfl) ?_) | (with_reducible refine w_tc (by with_unfolding_all rfl) ?_) | (with_reducible refine w_stc (by with_unfolding_all rfl) ?_) | (with_reducible refine w_tr (by with_unfolding_all rfl) ?_) | (with_reducible refine w_str (by with_unfolding_all rfl) ?_) | (with_reducible refine w_idxT (by with_unfolding_all rfl) ?_) | (with_reducible refine w_idxL (by with_unfolding_all rfl) ?_) | (with_reducible refine w_isi (by with_unfolding_all rfl) ?_) | ((with_reducible first | refine w_addT ?_ ?_ | refine w_addL ?_ ?_ | refine w_mulI ?_ ?_ | refine w_mulT ?_ ?_ | refine w_mulL ?_ ?_ | refine w_mod ?_ ?_ | refine w_div ?_ ?_ | refine w_pow ?_ ?_ | refine w_rng ?_ ?_); (first | decide | omega | (refine ⟨?_, ?_⟩ <;> omega) | (refine ⟨?_, ?_, ?_⟩ <;> omega) | (simp only [List.length_cons, List.length_nil, List.length_append, List.length_reverse, BL.cD_len, BL.iD_len, BL.mkx_len, BL.sizeL]; omega) | (refine ⟨List.cons_ne_nil _ _, ?_⟩; simp only [List.length_cons, List.length_nil]; omega))) | ((with_reducible first | refine w_eqD ?_ ?_ ?_ | refine w_neD ?_ ?_ ?_ | refine w_inT ?_ ?_ ?_ | refine w_inL ?_ ?_ ?_); (first | rfl | with_unfolding_all rfl); (first | rfl | with_unfolding_all rfl)) | ((with_reducible refine ift_of ?_ ?_); (with_unfolding_all rfl)) | ((with_reducible refine iff_of ?_ ?_); (with_unfolding_all rfl)) | ((with_reducible refine ift2_of ?_ ?_); (with_unfolding_all rfl)) | ((with_reducible refine iff2_of ?_ ?_); (with_unfolding_all rfl)) | ((with_reducible refine ift_of ?_ ?_); exact decide_eq_true (by omega)) | ((with_reducible refine iff_of ?_ ?_); exact decide_eq_false (by omega)) | ((with_reducible refine ift2_of ?_ ?_); exact decide_eq_true (by omega)) | ((with_reducible refine iff2_of ?_ ?_); exact decide_eq_false (by omega)))
        refine ⟨?_, rfl⟩
        show D.bl (decide (((ws.getD w 0 : Nat) : Int) = (v : Int))) = D.bl (decide (ws.getD ((w : Int).toNat) 0 = v))
        rw [Int.toNat_natCast]
        congr 1
        rw [Bool.eq_iff_iff, decide_eq_true_eq, decide_eq_true_eq]
        omega
      · have e : ((([D.int 0, .int 1, .int 2, .int 3, .int 4, .int 5, .int 6, .int 7] : List D).filter (fun d => match d with | .int z => decide (ws.getD z.toNat 0 = v) | _ => false)).map id) = iD (posN ws v) := by
          rw [List.map_id, show ([D.int 0, .int 1, .int 2, .int 3, .int 4, .int 5, .int 6, .int 7] : List D) = (List.range 8).map (fun (w : Nat) => D.int (w : Int)) from rfl, List.filter_map]
          unfold posN iD
          congr 1
        rw [e]
        repeat (first | (with_reducible first | refine w_seq ?_ | refine w_asg ?_ | refine w_asgP ?_ | refine pr_i ?_ | refine w_eqI ?_ | refine w_neI ?_ | refine w_own ?_ | refine w_par ?_ | refine w_parO ?_ | refine w_expr ?_ | refine w_if ?_ | refine w_sret ?_ | refine w_nil ?_ | refine w_for ?_ | refine w_bin ?_ | refine w_un ?_ | refine w_tup ?_ | refine w_lst ?_ | refine w_call ?_ | refine w_and ?_ | refine w_or ?_ | refine w_ife ?_ | refine w_chain ?_ | refine w_slice ?_ | refine w_oN ?_ | refine w_oS ?_ | refine w_comp ?_ | refine w_itSeq ?_ | refine w_itR ?_ | refine w_evnil ?_ | refine w_evcons ?_ | refine w_evc1 ?_ | refine w_evc0 ?_ | refine w_c ?_ | refine nx_nx ?_ | refine nx_ret ?_ | refine bl_i ?_ | refine in_i ?_ | refine sq_t ?_ | refine sq_l ?_ | refine ls_l ?_ | refine tp_t ?_ | refine w_not ?_ | refine w_addI ?_ | refine w_sub ?_ | refine w_xor ?_ | refine w_ltI ?_ | refine w_leI ?_ | refine w_gtI ?_ | refine w_geI ?_ | refine w_slT ?_ | refine w_slL ?_ | refine w_lenT ?_ | refine w_lenL ?_ | refine w_lenS ?_ | refine w_tupL ?_ | refine w_tupT ?_ | refine w_lstL ?_ | refine w_lstT ?_ | refine w_neg ?_ | refine w_isn ?_ | refine w_isnn ?_ | refine w_begun ?_ | refine w_ret ?_ | refine w_resE ?_) | (with_reducible refine w_var (by with_unfolding_all rfl) ?_) | (with_reducible refine w_peekV (by with_unfolding_all rfl) ?_) | (with_reducible refine w_peekO (by with_unfolding_all rfl) ?_) | (with_reducible refine w_app (by with_unfolding_all rfl) ?_) | (with_reducible refine w_frz (by with_unfolding_all rfl) ?_) | (with_reducible refine w_scr (by with_unfolding_all rfl) ?_) | (with_reducible refine w_tc (by with_unfolding_all rfl) ?_) | (with_reducible refine w_stc (by with_unfolding_all rfl) ?_) | (with_reducible refine w_tr (by with_unfolding_all rfl) ?_) | (with_reducible refine w_str (by with_unfolding_all rfl) ?_) | (with_reducible refine w_idxT (by with_unfolding_all rfl) ?_) | (with_reducible refine w_idxL (by with_unfolding_all rfl) ?_) | (with_reducible refine w_isi (by with_unfolding_all rfl) ?_) | ((with_reducible first | refine w_addT ?_ ?_ | refine w_addL ?_ ?_ | refine w_mulI ?_ ?_ | refine w_mulT ?_ ?_ | refine w_mulL ?_ ?_ | refine w_mod ?_ ?_ | refine w_div ?_ ?_ | refine w_pow ?_ ?_ | refine w_rng ?_ ?_); (first | decide | omega | (refine ⟨?_, ?_⟩ <;> omega) | (refine ⟨?_, ?_, ?_⟩ <;> omega) | (simp only [List.length_cons, List.length_nil, List.length_append, List.length_reverse, BL.cD_len, BL.iD_len, BL.mkx_len, BL.sizeL]; omega) | (refine ⟨List.cons_ne_nil _ _, ?_⟩; simp only [List.length_cons, List.length_nil]; omega))) | ((with_reducible first | refine w_eqD ?_ ?_ ?_ | refine w_neD ?_ ?_ ?_ | refine w_inT ?_ ?_ ?_ | refine w_inL ?_ ?_ ?_); (first | rfl | with_unfolding_all rfl); (first | rfl | with_unfolding_all rfl)) | ((with_reducible refine ift_of ?_ ?_); (with_unfolding_all rfl)) | ((with_reducible refine iff_of ?_ ?_); (with_unfolding_all rfl)) | ((with_reducible refine ift2_of ?_ ?_); (with_unfolding_all rfl)) | ((with_reducible refine iff2_of ?_ ?_); (with_unfolding_all rfl)) | ((with_reducible refine ift_of ?_ ?_); exact decide_eq_true (by omega)) | ((with_reducible refine iff_of ?_ ?_); exact decide_eq_false (by omega)) | ((with_reducible refine ift2_of ?_ ?_); exact decide_eq_true (by omega)) | ((with_reducible refine iff2_of ?_ ?_); exact decide_eq_false (by omega)))
        refine ⟨by rw [List.length_map, List.length_take]; omega, ⟨.val (.int (v : Int)), x3, ?_⟩, rfl⟩
        rw [List.take_add_one, hv, List.map_append]
        rfl
  · subst hS ht
    rw [iD_len, Nat.zero_add, List.take_length]
    repeat (first | (with_reducible first | refine w_seq ?_ | refine w_asg ?_ | refine w_asgP ?_ | refine pr_i ?_ | refine w_eqI ?_ | refine w_neI ?_ | refine w_own ?_ | refine w_par ?_ | refine w_parO ?_ | refine w_expr ?_ | refine w_if ?_ | refine w_sret ?_ | refine w_nil ?_ | refine w_for ?_ | refine w_bin ?_ | refine w_un ?_ | refine w_tup ?_ | refine w_lst ?_ | refine w_call ?_ | refine w_and ?_ | refine w_or ?_ | refine w_ife ?_ | refine w_chain ?_ | refine w_slice ?_ | refine w_oN ?_ | refine w_oS ?_ | refine w_comp ?_ | refine w_itSeq ?_ | refine w_itR ?_ | refine w_evnil ?_ | refine w_evcons ?_ | refine w_evc1 ?_ | refine w_evc0 ?_ | refine w_c ?_ | refine nx_nx ?_ | refine nx_ret ?_ | refine bl_i ?_ | refine in_i ?_ | refine sq_t ?_ | refine sq_l ?_ | refine ls_l ?_ | refine tp_t ?_ | refine w_not ?_ | refine w_addI ?_ | refine w_sub ?_ | refine w_xor ?_ | refine w_ltI ?_ | refine w_leI ?_ | refine w_gtI ?_ | refine w_geI ?_ | refine w_slT ?_ | refine w_slL ?_ | refine w_lenT ?_ | refine w_lenL ?_ | refine w_lenS ?_ | refine w_tupL ?_ | refine w_tupT ?_ | refine w_lstL ?_ | refine w_lstT ?_ | refine w_neg ?_ | refine w_isn ?_ | refine w_isnn ?_ | refine w_begun ?_ | refine w_ret ?_ | refine w_resE ?_) | (with_reducible refine w_var (by with_unfolding_all rfl) ?_) | (with_reducible refine w_peekV (by with_unfolding_all rfl) ?_) | (with_reducible refine w_peekO (by with_unfolding_all rfl) ?_) | (with_reducible refine w_app (by with_unfolding_all rfl) ?_) | (with_reducible refine w_frz (by with_unfolding_all rfl) ?_) | (with_reducible refine w_scr (by with_unfolding_all rfl) ?_) | (with_reducible refine w_tc (by with_unfolding_all rfl) ?_) | (with_reducible refine w_stc (by with_unfolding_all rfl) ?_) | (with_reducible refine w_tr (by with_unfolding_all rfl) ?_) | (with_reducible refine w_str (by with_unfolding_all rfl) ?_) | (with_reducible refine w_idxT (by with_unfolding_all rfl) ?_) | (with_reducible refine w_idxL (by with_unfolding_all rfl) ?_) | (with_reducible refine w_isi (by with_unfolding_all rfl) ?_) | ((with_reducible first | refine w_addT ?_ ?_ | refine w_addL ?_ ?_ | refine w_mulI ?_ ?_ | refine w_mulT ?_ ?_ | refine w_mulL ?_ ?_ | refine w_mod ?_ ?_ | refine w_div ?_ ?_ | refine w_pow ?_ ?_ | refine w_rng ?_ ?_); (first | decide | omega | (refine ⟨?_, ?_⟩ <;> omega) | (refine ⟨?_, ?_, ?_⟩ <;> omega) | (simp only [List.length_cons, List.length_nil, List.length_append, List.length_reverse, BL.cD_len, BL.iD_len, BL.mkx_len, BL.sizeL]; omega) | (refine ⟨List.cons_ne_nil _ _, ?_⟩; simp only [List.length_cons, List.length_nil]; omega))) | ((with_reducible first | refine w_eqD ?_ ?_ ?_ | refine w_neD ?_ ?_ ?_ | refine w_inT ?_ ?_ ?_ | refine w_inL ?_ ?_ ?_); (first | rfl | with_unfolding_all rfl); (first | rfl | with_unfolding_all rfl)) | ((with_reducible refine ift_of ?_ ?_); (with_unfolding_all rfl)) | ((with_reducible refine iff_of ?_ ?_); (with_unfolding_all rfl)) | ((with_reducible refine ift2_of ?_ ?_); (with_unfolding_all rfl)) | ((with_reducible refine iff2_of ?_ ?_); (with_unfolding_all rfl)) | ((with_reducible refine ift_of ?_ ?_); exact decide_eq_true (by omega)) | ((with_reducible refine iff_of ?_ ?_); exact decide_eq_false (by omega)) | ((with_reducible refine ift2_of ?_ ?_); exact decide_eq_true (by omega)) | ((with_reducible refine iff2_of ?_ ?_); exact decide_eq_false (by omega)))
    exact ⟨rfl, rfl⟩
def compD (ws : List Nat) (w : Nat) : D := .tup [.int (ws.getD w 0 : Int), .int ((ws.take w).count (ws.getD w 0) : Nat)]
theorem completed_eq {ws : List Nat} (h : IsF ws) : f_completed [.tup (iD ws)] = ret (.tup ((List.range 8).map (compD ws))) := by
  refine eq_of_W fun t => ?_
  unfold f_completed
  with_reducible refine w_fn ?_
  rw [show slots0 3 [D.tup (iD ws)] = [.val (.tup (iD ws)), .un, .un] from rfl]
  unfold b_completed
  have hl := iD_len ws
  have h8 := h.1
  have hsz := sizeL
  repeat (first | (with_reducible refine w_eq (check_function_yes h) ?_) | (with_reducible refine w_itE ?_) | (with_reducible first | refine w_seq ?_ | refine w_asg ?_ | refine w_asgP ?_ | refine pr_i ?_ | refine w_eqI ?_ | refine w_neI ?_ | refine w_own ?_ | refine w_par ?_ | refine w_parO ?_ | refine w_expr ?_ | refine w_if ?_ | refine w_sret ?_ | refine w_nil ?_ | refine w_for ?_ | refine w_bin ?_ | refine w_un ?_ | refine w_tup ?_ | refine w_lst ?_ | refine w_call ?_ | refine w_and ?_ | refine w_or ?_ | refine w_ife ?_ | refine w_chain ?_ | refine w_slice ?_ | refine w_oN ?_ | refine w_oS ?_ | refine w_comp ?_ | refine w_itSeq ?_ | refine w_itR ?_ | refine w_evnil ?_ | refine w_evcons ?_ | refine w_evc1 ?_ | refine w_evc0 ?_ | refine w_c ?_ | refine nx_nx ?_ | refine nx_ret ?_ | refine bl_i ?_ | refine in_i ?_ | refine sq_t ?_ | refine sq_l ?_ | refine ls_l ?_ | refine tp_t ?_ | refine w_not ?_ | refine w_addI ?_ | refine w_sub ?_ | refine w_xor ?_ | refine w_ltI ?_ | refine w_leI ?_ | refine w_gtI ?_ | refine w_geI ?_ | refine w_slT ?_ | refine w_slL ?_ | refine w_lenT ?_ | refine w_lenL ?_ | refine w_lenS ?_ | refine w_tupL ?_ | refine w_tupT ?_ | refine w_lstL ?_ | refine w_lstT ?_ | refine w_neg ?_ | refine w_isn ?_ | refine w_isnn ?_ | refine w_begun ?_ | refine w_ret ?_ | refine w_resE ?_) | (with_reducible refine w_var (by with_unfolding_all rfl) ?_) | (with_reducible refine w_peekV (by with_unfolding_all rfl) ?_) | (with_reducible refine w_peekO (by with_unfolding_all rfl) ?_) | (with_reducible refine w_app (by with_unfolding_all rfl) ?_) | (with_reducible refine w_frz (by with_unfolding_all rfl) ?_) | (with_reducible refine w_scr (by with_unfolding_all rfl) ?_) | (with_reducible refine w_tc (by with_unfolding_all rfl) ?_) | (with_reducible refine w_stc (by with_unfolding_all rfl) ?_) | (with_reducible refine w_tr (by with_unfolding_all rfl) ?_) | (with_reducible refine w_str (by with_unfolding_all rfl) ?_) | (with_reducible refine w_idxT (by with_unfolding_all rfl) ?_) | (with_reducible refine w_idxL (by with_unfolding_all rfl) ?_) | (with_reducible refine w_isi (by with_unfolding_all rfl) ?_) | ((with_reducible first | refine w_addT ?_ ?_ | refine w_addL ?_ ?_ | refine w_mulI ?_ ?_ | refine w_mulT ?_ ?_ | refine w_mulL ?_ ?_ | refine w_mod ?_ ?_ | refine w_div ?_ ?_ | refine w_pow ?_ ?_ | refine w_rng ?_ ?_); (first | decide | omega | (refine ⟨?_, ?_⟩ <;> omega) | (refine ⟨?_, ?_, ?_⟩ <;> omega) | (simp only [List.length_cons, List.length_nil, List.length_append, List.length_reverse, BL.cD_len, BL.iD_len, BL.mkx_len, BL.sizeL]; omega) | (refine ⟨List.cons_ne_nil _ _, ?_⟩; simp only [List.length_cons, List.length_nil]; omega))) | ((with_reducible first | refine w_eqD ?_ ?_ ?_ | refine w_neD ?_ ?_ ?_ | refine w_inT ?_ ?_ ?_ | refine w_inL ?_ ?_ ?_); (first | rfl | with_unfolding_all rfl); (first | rfl | with_unfolding_all rfl)) | ((with_reducible refine ift_of ?_ ?_); (with_unfolding_all rfl)) | ((with_reducible refine iff_of ?_ ?_); (with_unfolding_all rfl)) | ((with_reducible refine ift2_of ?_ ?_); (with_unfolding_all rfl)) | ((with_reducible refine iff2_of ?_ ?_); (with_unfolding_all rfl)) | ((with_reducible refine ift_of ?_ ?_); exact decide_eq_true (by omega)) | ((with_reducible refine iff_of ?_ ?_); exact decide_eq_false (by omega)) | ((with_reducible refine ift2_of ?_ ?_); exact decide_eq_true (by omega)) | ((with_reducible refine iff2_of ?_ ?_); exact decide_eq_false (by omega)))
  with_reducible refine and_le (by rw [enumD_len, hl, h8, hsz]; decide) ?_
  refine w_cmpM (fun d => match d with | .tup [.int z, _] => compD ws z.toNat | _ => .non) (fun d hd => ?_) ?_
  · obtain ⟨k, x, rfl, hx⟩ := mem_enumD hd
    unfold iD at hx
    rw [List.getElem?_map] at hx
    have hk : k < 8 := by
      rw [← h8]
      cases e : ws[k]? with
      | none => rw [e] at hx; cases hx
      | some v => exact (List.getElem?_eq_some_iff.mp e).1
    rw [getF h hk] at hx
    cases hx
    refine ⟨_, rfl, eq_of_W fun t => ?_⟩
    have c1 : cutD (iD ws) none (some (k : Int)) = iD (ws.take k) := by rw [cutD_take (by omega)]; unfold iD; rw [List.map_take]
    repeat (first | (with_reducible refine w_tm ?_) | (with_reducible first | refine w_seq ?_ | refine w_asg ?_ | refine w_asgP ?_ | refine pr_i ?_ | refine w_eqI ?_ | refine w_neI ?_ | refine w_own ?_ | refine w_par ?_ | refine w_parO ?_ | refine w_expr ?_ | refine w_if ?_ | refine w_sret ?_ | refine w_nil ?_ | refine w_for ?_ | refine w_bin ?_ | refine w_un ?_ | refine w_tup ?_ | refine w_lst ?_ | refine w_call ?_ | refine w_and ?_ | refine w_or ?_ | refine w_ife ?_ | refine w_chain ?_ | refine w_slice ?_ | refine w_oN ?_ | refine w_oS ?_ | refine w_comp ?_ | refine w_itSeq ?_ | refine w_itR ?_ | refine w_evnil ?_ | refine w_evcons ?_ | refine w_evc1 ?_ | refine w_evc0 ?_ | refine w_c ?_ | refine nx_nx ?_ | refine nx_ret ?_ | refine bl_i ?_ | refine in_i ?_ | refine sq_t ?_ | refine sq_l ?_ | refine ls_l ?_ | refine tp_t ?_ | refine w_not ?_ | refine w_addI ?_ | refine w_sub ?_ | refine w_xor ?_ | refine w_ltI ?_ | refine w_leI ?_ | refine w_gtI ?_ | refine w_geI ?_ | refine w_slT ?_ | refine w_slL ?_ | refine w_lenT ?_ | refine w_lenL ?_ | refine w_lenS ?_ | refine w_tupL ?_ | refine w_tupT ?_ | refine w_lstL ?_ | refine w_lstT ?_ | refine w_neg ?_ | refine w_isn ?_ | refine w_isnn ?_ | refine w_begun ?_ | refine w_ret ?_ | refine w_resE ?_) | (with_reducible refine w_var (by with_unfolding_all rfl) ?_) | (with_reducible refine w_peekV (by with_unfolding_all rfl) ?_) | (with_reducible refine w_peekO (by with_unfolding_all rfl) ?_) | (with_reducible refine w_app (by with_unfolding_all rfl) ?_) | (with_reducible refine w_frz (by with_unfolding_all rfl) ?_) | (with_reducible refine w_scr (by with_unfolding_all rfl) ?_) | (with_reducible refine w_tc (by with_unfolding_all rfl) ?_) | (with_reducible refine w_stc (by with_unfolding_all rfl) ?_) | (with_reducible refine w_tr (by with_unfolding_all rfl) ?_) | (with_reducible refine w_str (by with_unfolding_all rfl) ?_) | (with_reducible refine w_idxT (by with_unfolding_all rfl) ?_) | (with_reducible refine w_idxL (by with_unfolding_all rfl) ?_) | (with_reducible refine w_isi (by with_unfolding_all rfl) ?_) | ((with_reducible first | refine w_addT ?_ ?_ | refine w_addL ?_ ?_ | refine w_mulI ?_ ?_ | refine w_mulT ?_ ?_ | refine w_mulL ?_ ?_ | refine w_mod ?_ ?_ | refine w_div ?_ ?_ | refine w_pow ?_ ?_ | refine w_rng ?_ ?_); (first | decide | omega | (refine ⟨?_, ?_⟩ <;> omega) | (refine ⟨?_, ?_, ?_⟩ <;> omega) | (simp only [List.length_cons, List.length_nil, List.length_append, List.length_reverse, BL.cD_len, BL.iD_len, BL.mkx_len, BL.sizeL]; omega) | (refine ⟨List.cons_ne_nil _ _, ?_⟩; simp only [List.length_cons, List.length_nil]; omega))) | ((with_reducible first | refine w_eqD ?_ ?_ ?_ | refine w_neD ?_ ?_ ?_ | refine w_inT ?_ ?_ ?_ | refine w_inL ?_ ?_ ?_); (first | rfl | with_unfolding_all rfl); (first | rfl | with_unfolding_all rfl)) | ((with_reducible refine ift_of ?_ ?_); (with_unfolding_all rfl)) | ((with_reducible refine iff_of ?_ ?_); (with_unfolding_all rfl)) | ((with_reducible refine ift2_of ?_ ?_); (with_unfolding_all rfl)) | ((with_reducible refine iff2_of ?_ ?_); (with_unfolding_all rfl)) | ((with_reducible refine ift_of ?_ ?_); exact decide_eq_true (by omega)) | ((with_reducible refine iff_of ?_ ?_); exact decide_eq_false (by omega)) | ((with_reducible refine ift2_of ?_ ?_); exact decide_eq_true (by omega)) | ((with_reducible refine iff2_of ?_ ?_); exact decide_eq_false (by omega)))
    rw [c1]
    repeat (first | (with_reducible refine w_cnt ?_) | (with_reducible first | refine w_seq ?_ | refine w_asg ?_ | refine w_asgP ?_ | refine pr_i ?_ | refine w_eqI ?_ | refine w_neI ?_ | refine w_own ?_ | refine w_par ?_ | refine w_parO ?_ | refine w_expr ?_ | refine w_if ?_ | refine w_sret ?_ | refine w_nil ?_ | refine w_for ?_ | refine w_bin ?_ | refine w_un ?_ | refine w_tup ?_ | refine w_lst ?_ | refine w_call ?_ | refine w_and ?_ | refine w_or ?_ | refine w_ife ?_ | refine w_chain ?_ | refine w_slice ?_ | refine w_oN ?_ | refine w_oS ?_ | refine w_comp ?_ | refine w_itSeq ?_ | refine w_itR ?_ | refine w_evnil ?_ | refine w_evcons ?_ | refine w_evc1 ?_ | refine w_evc0 ?_ | refine w_c ?_ | refine nx_nx ?_ | refine nx_ret ?_ | refine bl_i ?_ | refine in_i ?_ | refine sq_t ?_ | refine sq_l ?_ | refine ls_l ?_ | refine tp_t ?_ | refine w_not ?_ | refine w_addI ?_ | refine w_sub ?_ | refine w_xor ?_ | refine w_ltI ?_ | refine w_leI ?_ | refine w_gtI ?_ | refine w_geI ?_ | refine w_slT ?_ | refine w_slL ?_ | refine w_lenT ?_ | refine w_lenL ?_ | refine w_lenS ?_ | refine w_tupL ?_ | refine w_tupT ?_ | refine w_lstL ?_ | refine w_lstT ?_ | refine w_neg ?_ | refine w_isn ?_ | refine w_isnn ?_ | refine w_begun ?_ | refine w_ret ?_ | refine w_resE ?_) | (with_reducible refine w_var (by with_unfolding_all rfl) ?_) | (with_reducible refine w_peekV (by with_unfolding_all rfl) ?_) | (with_reducible refine w_peekO (by with_unfolding_all rfl) ?_) | (with_reducible refine w_app (by with_unfolding_all rfl) ?_) | (with_reducible refine w_frz (by with_unfolding_all rfl) ?_) | (with_reducible refine w_scr (by with_unfolding_all rfl) ?_) | (with_reducible refine w_tc (by with_unfolding_all rfl) ?_) | (with_reducible refine w_stc (by with_unfolding_all rfl) ?_) | (with_reducible refine w_tr (by with_unfolding_all rfl) ?_) | (with_reducible refine w_str (by with_unfolding_all rfl) ?_) | (with_reducible refine w_idxT (by with_unfolding_all rfl) ?_) | (with_reducible refine w_idxL (by with_unfolding_all rfl) ?_) | (with_reducible refine w_isi (by with_unfolding_all rfl) ?_) | ((with_reducible first | refine w_addT ?_ ?_ | refine w_addL ?_ ?_ | refine w_mulI ?_ ?_ | refine w_mulT ?_ ?_ | refine w_mulL ?_ ?_ | refine w_mod ?_ ?_ | refine w_div ?_ ?_ | refine w_pow ?_ ?_ | refine w_rng ?_ ?_); (first | decide | omega | (refine ⟨?_, ?_⟩ <;> omega) | (refine ⟨?_, ?_, ?_⟩ <;> omega) | (simp only [List.length_cons, List.length_nil, List.length_append, List.length_reverse, BL.cD_len, BL.iD_len, BL.mkx_len, BL.sizeL]; omega) | (refine ⟨List.cons_ne_nil _ _, ?_⟩; simp only [List.length_cons, List.length_nil]; omega))) | ((with_reducible first | refine w_eqD ?_ ?_ ?_ | refine w_neD ?_ ?_ ?_ | refine w_inT ?_ ?_ ?_ | refine w_inL ?_ ?_ ?_); (first | rfl | with_unfolding_all rfl); (first | rfl | with_unfolding_all rfl)) | ((with_reducible refine ift_of ?_ ?_); (with_unfolding_all rfl)) | ((with_reducible refine iff_of ?_ ?_); (with_unfolding_all rfl)) | ((with_reducible refine ift2_of ?_ ?_); (with_unfolding_all rfl)) | ((with_reducible refine iff2_of ?_ ?_); (with_unfolding_all rfl)) | ((with_reducible refine ift_of ?_ ?_); exact decide_eq_true (by omega)) | ((with_reducible refine iff_of ?_ ?_); exact decide_eq_false (by omega)) | ((with_reducible refine ift2_of ?_ ?_); exact decide_eq_true (by omega)) | ((with_reducible refine iff2_of ?_ ?_); exact decide_eq_false (by omega)))
    refine ⟨?_, rfl⟩
    show _ = compD ws ((k : Int).toNat)
    rw [Int.toNat_natCast]
    rfl
  · have e : (enumD (iD ws)).map (fun d => match d with | .tup [.int z, _] => compD ws z.toNat | _ => .non) = (List.range 8).map (compD ws) := by
      refine List.ext_getElem? fun k => ?_
      rw [List.getElem?_map, List.getElem?_map]
      by_cases hk : k < 8
      · rw [List.getElem?_range hk]
        have hke : k < (enumD (iD ws)).length := by rw [enumD_len, hl, h8]; exact hk
        rw [List.getElem?_eq_getElem hke]
        obtain ⟨x, hx, e⟩ := enumD_get (List.getElem?_eq_getElem hke)
        rw [e]
        show some (compD ws ((k : Int).toNat)) = _
        rw [Int.toNat_natCast]; rfl
      · rw [List.getElem?_eq_none (by rw [enumD_len, hl, h8]; omega), List.getElem?_eq_none (by rw [List.length_range]; omega)]; rfl
    rw [e]
    repeat (first | (with_reducible first | refine w_seq ?_ | refine w_asg ?_ | refine w_asgP ?_ | refine pr_i ?_ | refine w_eqI ?_ | refine w_neI ?_ | refine w_own ?_ | refine w_par ?_ | refine w_parO ?_ | refine w_expr ?_ | refine w_if ?_ | refine w_sret ?_ | refine w_nil ?_ | refine w_for ?_ | refine w_bin ?_ | refine w_un ?_ | refine w_tup ?_ | refine w_lst ?_ | refine w_call ?_ | refine w_and ?_ | refine w_or ?_ | refine w_ife ?_ | refine w_chain ?_ | refine w_slice ?_ | refine w_oN ?_ | refine w_oS ?_ | refine w_comp ?_ | refine w_itSeq ?_ | refine w_itR ?_ | refine w_evnil ?_ | refine w_evcons ?_ | refine w_evc1 ?_ | refine w_evc0 ?_ | refine w_c ?_ | refine nx_nx ?_ | refine nx_ret ?_ | refine bl_i ?_ | refine in_i ?_ | refine sq_t ?_ | refine sq_l ?_ | refine ls_l ?_ | refine tp_t ?_ | refine w_not ?_ | refine w_addI ?_ | refine w_sub ?_ | refine w_xor ?_ | refine w_ltI ?_ | refine w_leI ?_ | refine w_gtI ?_ | refine w_geI ?_ | refine w_slT ?_ | refine w_slL ?_ | refine w_lenT ?_ | refine w_lenL ?_ | refine w_lenS ?_ | refine w_tupL ?_ | refine w_tupT ?_ | refine w_lstL ?_ | refine w_lstT ?_ | refine w_neg ?_ | refine w_isn ?_ | refine w_isnn ?_ | refine w_begun ?_ | refine w_ret ?_ | refine w_resE ?_) | (with_reducible refine w_var (by with_unfolding_all rfl) ?_) | (with_reducible refine w_peekV (by with_unfolding_all rfl) ?_) | (with_reducible refine w_peekO (by with_unfolding_all rfl) ?_) | (with_reducible refine w_app (by with_unfolding_all rfl) ?_) | (with_reducible refine w_frz (by with_unfolding_all rfl) ?_) | (with_reducible refine w_scr (by with_unfolding_all rfl) ?_) | (with_reducible refine w_tc (by with_unfolding_all rfl) ?_) | (with_reducible refine w_stc (by with_unfolding_all rfl) ?_) | (with_reducible refine w_tr (by with_unfolding_all rfl) ?_) | (with_reducible refine w_str (by with_unfolding_all rfl) ?_) | (with_reducible refine w_idxT (by with_unfolding_all rfl) ?_) | (with_reducible refine w_idxL (by with_unfolding_all rfl) ?_) | (with_reducible refine w_isi (by with_unfolding_all rfl) ?_) | ((with_reducible first | refine w_addT ?_ ?_ | refine w_addL ?_ ?_ | refine w_mulI ?_ ?_ | refine w_mulT ?_ ?_ | refine w_mulL ?_ ?_ | refine w_mod ?_ ?_ | refine w_div ?_ ?_ | refine w_pow ?_ ?_ | refine w_rng ?_ ?_); (first | decide | omega | (refine ⟨?_, ?_⟩ <;> omega) | (refine ⟨?_, ?_, ?_⟩ <;> omega) | (simp only [List.length_cons, List.length_nil, List.length_append, List.length_reverse, BL.cD_len, BL.iD_len, BL.mkx_len, BL.sizeL]; omega) | (refine ⟨List.cons_ne_nil _ _, ?_⟩; simp only [List.length_cons, List.length_nil]; omega))) | ((with_reducible first | refine w_eqD ?_ ?_ ?_ | refine w_neD ?_ ?_ ?_ | refine w_inT ?_ ?_ ?_ | refine w_inL ?_ ?_ ?_); (first | rfl | with_unfolding_all rfl); (first | rfl | with_unfolding_all rfl)) | ((with_reducible refine ift_of ?_ ?_); (with_unfolding_all rfl)) | ((with_reducible refine iff_of ?_ ?_); (with_unfolding_all rfl)) | ((with_reducible refine ift2_of ?_ ?_); (with_unfolding_all rfl)) | ((with_reducible refine iff2_of ?_ ?_); (with_unfolding_all rfl)) | ((with_reducible refine ift_of ?_ ?_); exact decide_eq_true (by omega)) | ((with_reducible refine iff_of ?_ ?_); exact decide_eq_false (by omega)) | ((with_reducible refine ift2_of ?_ ?_); exact decide_eq_true (by omega)) | ((with_reducible refine iff2_of ?_ ?_); exact decide_eq_false (by omega)))
    exact ⟨rfl, rfl⟩
end BL
set_option Elab.async false
set_option linter.all false
set_option maxRecDepth 100000
set_option maxHeartbeats 1000000
namespace BL
open PySem BG L2
theorem leD_int (a b : Int) : leD (.int a) (.int b) = decide (a ≤ b) := by
  show (!(decide (b < a) || (!decide (a < b) && false))) = decide (a ≤ b)
  rw [Bool.and_false, Bool.or_false, Bool.eq_iff_iff, Bool.not_eq_true', decide_eq_false_iff_not, decide_eq_true_eq]
  omega
theorem srt_ints (ws : List Nat) : srtOk (iD ws) = true := by
  unfold srtOk
  rw [okA_iD, Bool.true_and, Bool.and_eq_true, Bool.or_eq_true]
  refine ⟨List.all_eq_true.mpr fun a ha => List.all_eq_true.mpr fun b hb => ?_, .inr (List.all_eq_true.mpr fun a ha => ?_)⟩
  · obtain ⟨x, _, rfl⟩ := mem_iD ha
    obtain ⟨y, _, rfl⟩ := mem_iD hb
    rfl
  · obtain ⟨x, _, rfl⟩ := mem_iD ha
    rfl
theorem insr_iD (x : Nat) : ∀ l : List Nat, insr leD (.int (x : Int)) (iD l) = iD (insr leN x l)
  | [] => rfl
  | y :: l => by
    show (if leD (.int (x : Int)) (.int (y : Int)) = true then _ else .int (y : Int) :: insr leD (.int (x : Int)) (iD l)) = _
    rw [leD_int, insr_iD x l, insrN]
    by_cases h : x ≤ y
    · rw [if_pos (by rw [decide_eq_true_eq]; omega), if_pos h]; rfl
    · rw [if_neg (by rw [decide_eq_true_eq]; omega), if_neg h]; rfl
theorem isrt_iD : ∀ l : List Nat, isrt leD (iD l) = iD (isrt leN l)
  | [] => rfl
  | x :: l => by
    show insr leD (.int (x : Int)) (isrt leD (iD l)) = _
    rw [isrt_iD l, insr_iD]; rfl
theorem insr_le {x : Nat} {l : List Nat} (h : ∀ y ∈ l, x ≤ y) : insr leN x l = x :: l := by
  cases l with
  | nil => rfl
  | cons y r => rw [insrN, if_pos (h y (List.mem_cons_self ..))]
theorem isrt_sorted : ∀ {l : List Nat}, l.Pairwise (· ≤ ·) → isrt leN l = l
  | [], _ => rfl
  | x :: l, h => by
    obtain ⟨h1, h2⟩ := List.pairwise_cons.mp h
    show insr leN x (isrt leN l) = _
    rw [isrt_sorted h2, insr_le h1]
theorem w_sortedI {l m : List Nat} {t : Tn} {Q : D → Tn → Prop} (hp : l.Perm m) (hm : m.Pairwise (· ≤ ·)) (hl : l.length ≤ 1000000) (h : Q (.lst (iD m)) t) : W (bSortedA (.lst (iD l)) t) Q := by
  show W ((if srtOk (iD l) = true ∧ (iD l).length ≤ 1000000 then ret (D.lst (isrt leD (iD l))) else stuck) t) Q
  rw [if_pos ⟨srt_ints l, by rw [iD_len]; exact hl⟩, isrt_iD, isrt_perm hp, isrt_sorted hm]
  exact h
theorem count_pos {ws : List Nat} (h : IsF ws) (v : Nat) : ∀ n, n ≤ 8 → ((List.range n).filter fun w => decide (ws.getD w 0 = v)).length = (ws.take n).count v := by
  intro n
  induction n with
  | zero => intro _; rfl
  | succ n ih =>
    intro hn
    rw [List.range_succ, List.filter_append, List.length_append, ih (by omega), List.take_add_one, getF h (by omega), List.count_append]
    congr 1
    show (List.filter (fun w => decide (ws.getD w 0 = v)) [n]).length = List.count v [ws.getD n 0]
    by_cases e : ws.getD n 0 = v
    · rw [List.filter_cons, if_pos (decide_eq_true e), e, List.count_singleton_self]; rfl
    · rw [List.filter_cons, if_neg (by rw [decide_eq_true_eq]; exact e), List.count_cons, if_neg (by rw [beq_iff_eq]; exact e)]; rfl
theorem take8 {ws : List Nat} (h : IsF ws) : ws.take 8 = ws := List.take_of_length_le (by rw [h.1]; exact Nat.le_refl _)
theorem posN_len {ws : List Nat} (h : IsF ws) (v : Nat) : (posN ws v).length = ws.count v := by
  have := count_pos h v 8 (Nat.le_refl _)
  rw [take8 h] at this
  exact this
/-- the number of the word among those with its value -/
def nrN (ws : List Nat) (w : Nat) : Nat := (ws.take w).count (ws.getD w 0)
theorem nr_map {ws : List Nat} (h : IsF ws) (v : Nat) : ∀ n, n ≤ 8 → ((List.range n).filter fun w => decide (ws.getD w 0 = v)).map (nrN ws) = List.range ((ws.take n).count v) := by
  intro n
  induction n with
  | zero => intro _; rfl
  | succ n ih =>
    intro hn
    rw [List.range_succ, List.filter_append, List.map_append, ih (by omega), List.take_add_one, getF h (by omega), List.count_append]
    show _ ++ (List.filter (fun w => decide (ws.getD w 0 = v)) [n]).map (nrN ws) = List.range (_ + List.count v [ws.getD n 0])
    by_cases e : ws.getD n 0 = v
    · rw [List.filter_cons, if_pos (decide_eq_true e), e, List.count_singleton_self, List.range_succ, List.filter_nil]
      show _ ++ [nrN ws n] = _
      unfold nrN
      rw [e]
    · rw [List.filter_cons, if_neg (by rw [decide_eq_true_eq]; exact e), List.count_cons, if_neg (by rw [beq_iff_eq]; exact e)]
      simp
theorem nr_pos {ws : List Nat} (h : IsF ws) (v : Nat) : (posN ws v).map (nrN ws) = List.range (ws.count v) := by
  have := nr_map h v 8 (Nat.le_refl _)
  rw [take8 h] at this
  exact this
theorem nr_lt {ws : List Nat} (h : IsF ws) {w : Nat} (hw : w < 8) : nrN ws w < ws.count (ws.getD w 0) := by
  have hm : w ∈ posN ws (ws.getD w 0) := List.mem_filter.mpr ⟨List.mem_range.mpr hw, decide_eq_true rfl⟩
  have : nrN ws w ∈ (posN ws (ws.getD w 0)).map (nrN ws) := List.mem_map.mpr ⟨w, hm, rfl⟩
  rw [nr_pos h] at this
  exact List.mem_range.mp this
/-- value and number tell the word -/
theorem nr_inj {ws : List Nat} (h : IsF ws) {a b : Nat} (ha : a < 8) (hb : b < 8) (e1 : ws.getD a 0 = ws.getD b 0) (e2 : nrN ws a = nrN ws b) : a = b := by
  have nd : ((posN ws (ws.getD a 0)).map (nrN ws)).Nodup := by rw [nr_pos h]; exact List.nodup_range
  have ma : a ∈ posN ws (ws.getD a 0) := List.mem_filter.mpr ⟨List.mem_range.mpr ha, decide_eq_true rfl⟩
  have mb : b ∈ posN ws (ws.getD a 0) := List.mem_filter.mpr ⟨List.mem_range.mpr hb, decide_eq_true e1.symm⟩
  have key : ∀ {l : List Nat}, (l.map (nrN ws)).Nodup → ∀ {a b : Nat}, a ∈ l → b ∈ l → nrN ws a = nrN ws b → a = b := by
    intro l
    induction l with
    | nil => intro _ a b h; cases h
    | cons x l ih =>
      intro hn a b ha hb e
      rw [List.map_cons, List.nodup_cons] at hn
      rcases List.mem_cons.mp ha with ha | ha
      · rcases List.mem_cons.mp hb with hb | hb
        · rw [ha, hb]
        · exact absurd (List.mem_map.mpr ⟨b, hb, by rw [← e, ha]⟩) hn.1
      · rcases List.mem_cons.mp hb with hb | hb
        · exact absurd (List.mem_map.mpr ⟨a, ha, by rw [e, hb]⟩) hn.1
        · exact ih hn.2 ha hb e
  exact key nd ma mb e2
theorem mem_vals {ws : List Nat} (h : IsF ws) {v : Nat} : v ∈ valsN ws ↔ v ∈ ws := by
  unfold valsN
  rw [List.mem_filter, decide_eq_true_eq, List.mem_range]
  exact ⟨fun q => q.2, fun q => ⟨h.2 v q, q⟩⟩
theorem maxI_eq {n m : Int} {r : List Int} (h1 : m ∈ n :: r) (h2 : ∀ y ∈ n :: r, y ≤ m) : maxI n r = m := by
  obtain ⟨k1, k2⟩ := maxI_spec r n
  exact Int.le_antisymm (h2 _ k1) (k2 m h1)
theorem mxc_eq {ws : List Nat} (h : IsF ws) {m : Int} (h1 : ∃ v, m = (ws.count v : Nat)) (h2 : ∀ v, ((ws.count v : Nat) : Int) ≤ m) : mxc ws = m := by
  obtain ⟨⟨v, hv, e⟩, all, _⟩ := mxc_spec h
  obtain ⟨u, eu⟩ := h1
  exact Int.le_antisymm (by rw [e]; exact h2 v) (by rw [eu]; exact all u)
end BL
set_option Elab.async false
set_option linter.all false
set_option maxRecDepth 100000
set_option maxHeartbeats 1000000
namespace K18
open PySem BG BL L2
theorem w_extT {i : Nat} {ds : List D} {e : Ex} {S : Sl} {t : Tn} {Q : Fl → Tn → Prop} (he : S[i]? = some (.own ds)) (h : W (e S t) (Tp fun es t1 => ds.length + es.length ≤ sizeLine ∧ Q (.nx (S.set i (.own (ds ++ es)))) t1)) : W (sExtT i e S t) Q := by
  unfold sExtT
  rw [he]
  refine w_bnd (h.mono fun d t1 q => ?_)
  cases d with
  | tup es =>
    obtain ⟨h1, h2⟩ := q
    show W ((if ds.length + es.length ≤ sizeLine then ret (Fl.nx (S.set i (.own (ds ++ es)))) else stuck) t1) Q
    rw [if_pos h1]; exact h2
  | _ => exact q.elim
theorem w_srtSetP {l : List Nat} {t : Tn} {Q : D → Tn → Prop} (hp : l.Pairwise (· < ·)) (hl : l.length < 64) (q : Q (.lst (iD l)) t) : W (pSrtSet (.tup (iD l)) t) Q := by
  show W ((match intsD (iD l) with | some ns => if ns.length < 64 then ret (D.lst ((dsort ns).map D.int)) else stuck | none => stuck) t) Q
  rw [intsD_iD]
  show W ((if (l.map fun (w : Nat) => (w : Int)).length < 64 then ret (D.lst ((dsort (l.map fun (w : Nat) => (w : Int))).map D.int)) else stuck) t) Q
  have e : dsort (l.map fun (w : Nat) => (w : Int)) = l.map fun (w : Nat) => (w : Int) := pair_unique (dsort_pair _) (List.Pairwise.map _ (fun a b hab => by omega) hp) fun z => dsort_mem
  rw [if_pos (by rw [List.length_map]; exact hl), e, List.map_map]
  exact q
theorem pos_pair (ws : List Nat) (v : Nat) : (posN ws v).Pairwise (· < ·) := (range_pair 8).filter _
theorem pos_le (ws : List Nat) (v : Nat) : (posN ws v).length ≤ 8 := by have := List.length_filter_le (fun w => decide (ws.getD w 0 = v)) (List.range 8); rw [List.length_range] at this; exact this
theorem mem_pos {ws : List Nat} {v w : Nat} : w ∈ posN ws v ↔ w < 8 ∧ ws.getD w 0 = v := by unfold posN; rw [List.mem_filter, decide_eq_true_eq, List.mem_range]
theorem flat_perm {ws : List Nat} (h : IsF ws) : ((valsN ws).flatMap (posN ws)).Perm (List.range 8) := by
  refine (List.perm_ext_iff_of_nodup ?_ List.nodup_range).mpr fun w => ?_
  · have : ∀ l : List Nat, l.Nodup → (l.flatMap (posN ws)).Nodup := by
      intro l
      induction l with
      | nil => intro _; exact .nil
      | cons v l ih =>
        intro hn
        rw [List.nodup_cons] at hn
        rw [List.flatMap_cons, List.nodup_append]
        refine ⟨(pos_pair ws v).imp fun hab => by omega, ih hn.2, fun a ha b hb e => ?_⟩
        subst e
        obtain ⟨u, hu, hb⟩ := List.mem_flatMap.mp hb
        have e1 := (mem_pos.mp ha).2
        have e2 := (mem_pos.mp hb).2
        exact hn.1 (by rw [← e1, e2]; exact hu)
    exact this _ (((range_pair 8).filter _).imp fun hab => by omega)
  · rw [List.mem_flatMap, List.mem_range]
    exact ⟨fun ⟨v, _, hw⟩ => (mem_pos.mp hw).1, fun hw => ⟨ws.getD w 0, (mem_vals h).mpr (List.mem_of_getElem? (getF h hw)), mem_pos.mpr ⟨hw, rfl⟩⟩⟩
theorem comp_get {ws : List Nat} {w : Nat} (hw : w < 8) : atI ((List.range 8).map (compD ws)) (w : Int) = some (.tup [.int (ws.getD w 0 : Int), .int (nrN ws w : Nat)]) := BL.atI_nat (by rw [List.getElem?_map, List.getElem?_range hw]; rfl)
theorem ok_iL (ws : List Nat) : okD (.lst (iD ws)) 60 = true := ok_iD ws
theorem nb_iL (ws : List Nat) : nobl (.lst (iD ws)) = true := nobl_iD ws
theorem vals_le (ws : List Nat) : (valsN ws).length ≤ 8 := by have := List.length_filter_le (fun v => decide (v ∈ ws)) (List.range 8); rw [List.length_range] at this; exact this
theorem parted_eq {ws : List Nat} (h : IsF ws) : f_law_parted [.tup (iD ws), .tup ((List.range 8).map (compD ws))] = ret (.bl true) := by
  refine eq_of_W fun t => ?_
  unfold f_law_parted
  with_reducible refine w_fn ?_
  rw [show slots0 6 [D.tup (iD ws), .tup ((List.range 8).map (compD ws))] = [.val (.tup (iD ws)), .val (.tup ((List.range 8).map (compD ws))), .un, .un, .un, .un] from rfl]
  unfold b_law_parted
  have hsz := sizeL
  have pe := parts_eq h
  have hvl := vals_le ws
  repeat (first | (with_reducible refine w_eq pe ?_) | (with_reducible first | refine w_seq ?_ | refine w_asg ?_ | refine w_asgP ?_ | refine pr_i ?_ | refine w_eqI ?_ | refine w_neI ?_ | refine w_own ?_ | refine w_par ?_ | refine w_parO ?_ | refine w_expr ?_ | refine w_if ?_ | refine w_sret ?_ | refine w_nil ?_ | refine w_for ?_ | refine w_bin ?_ | refine w_un ?_ | refine w_tup ?_ | refine w_lst ?_ | refine w_call ?_ | refine w_and ?_ | refine w_or ?_ | refine w_ife ?_ | refine w_chain ?_ | refine w_slice ?_ | refine w_oN ?_ | refine w_oS ?_ | refine w_comp ?_ | refine w_itSeq ?_ | refine w_itR ?_ | refine w_evnil ?_ | refine w_evcons ?_ | refine w_evc1 ?_ | refine w_evc0 ?_ | refine w_c ?_ | refine nx_nx ?_ | refine nx_ret ?_ | refine bl_i ?_ | refine in_i ?_ | refine sq_t ?_ | refine sq_l ?_ | refine ls_l ?_ | refine tp_t ?_ | refine w_not ?_ | refine w_addI ?_ | refine w_sub ?_ | refine w_xor ?_ | refine w_ltI ?_ | refine w_leI ?_ | refine w_gtI ?_ | refine w_geI ?_ | refine w_slT ?_ | refine w_slL ?_ | refine w_lenT ?_ | refine w_lenL ?_ | refine w_lenS ?_ | refine w_tupL ?_ | refine w_tupT ?_ | refine w_lstL ?_ | refine w_lstT ?_ | refine w_neg ?_ | refine w_isn ?_ | refine w_isnn ?_ | refine w_begun ?_ | refine w_ret ?_ | refine w_resE ?_) | (with_reducible refine w_var (by with_unfolding_all rfl) ?_) | (with_reducible refine w_peekV (by with_unfolding_all rfl) ?_) | (with_reducible refine w_peekO (by with_unfolding_all rfl) ?_) | (with_reducible refine w_app (by with_unfolding_all rfl) ?_) | (with_reducible refine w_frz (by with_unfolding_all rfl) ?_) | (with_reducible refine w_scr (by with_unfolding_all rfl) ?_) | (with_reducible refine w_tc (by with_unfolding_all rfl) ?_) | (with_reducible refine w_stc (by with_unfolding_all rfl) ?_) | (with_reducible refine w_tr (by with_unfolding_all rfl) ?_) | (with_reducible refine w_str (by with_unfolding_all rfl) ?_) | (with_reducible refine w_idxT (by with_unfolding_all rfl) ?_) | (with_reducible refine w_idxL (by with_unfolding_all rfl) ?_) | (with_reducible refine w_isi (by with_unfolding_all rfl) ?_) | ((with_reducible first | refine w_addT ?_ ?_ | refine w_addL ?_ ?_ | refine w_mulI ?_ ?_ | refine w_mulT ?_ ?_ | refine w_mulL ?_ ?_ | refine w_mod ?_ ?_ | refine w_div ?_ ?_ | refine w_pow ?_ ?_ | refine w_rng ?_ ?_); (first | decide | omega | (refine ⟨?_, ?_⟩ <;> omega) | (refine ⟨?_, ?_, ?_⟩ <;> omega) | (simp only [List.length_cons, List.length_nil, List.length_append, List.length_reverse, BL.cD_len, BL.iD_len, BL.mkx_len, BL.sizeL]; omega) | (refine ⟨List.cons_ne_nil _ _, ?_⟩; simp only [List.length_cons, List.length_nil]; omega))) | ((with_reducible first | refine w_eqD ?_ ?_ ?_ | refine w_neD ?_ ?_ ?_ | refine w_inT ?_ ?_ ?_ | refine w_inL ?_ ?_ ?_); (first | rfl | with_unfolding_all rfl); (first | rfl | with_unfolding_all rfl)) | ((with_reducible refine ift_of ?_ ?_); (with_unfolding_all rfl)) | ((with_reducible refine iff_of ?_ ?_); (with_unfolding_all rfl)) | ((with_reducible refine ift2_of ?_ ?_); (with_unfolding_all rfl)) | ((with_reducible refine iff2_of ?_ ?_); (with_unfolding_all rfl)) | ((with_reducible refine ift_of ?_ ?_); exact decide_eq_true (by omega)) | ((with_reducible refine iff_of ?_ ?_); exact decide_eq_false (by omega)) | ((with_reducible refine ift2_of ?_ ?_); exact decide_eq_true (by omega)) | ((with_reducible refine iff2_of ?_ ?_); exact decide_eq_false (by omega)))
  with_reducible refine w_forI (fun k S t' => (∃ x3 x4 x5, S = [.val (.tup (iD ws)), .val (.tup ((List.range 8).map (compD ws))), .own (iD (((valsN ws).take k).flatMap (posN ws))), x3, x4, x5]) ∧ t' = t) (k := 0) ⟨⟨_, _, _, rfl⟩, rfl⟩ (fun k d hd S t' ⟨⟨x3, x4, x5, hS⟩, ht⟩ => ?_) fun S t' ⟨⟨x3, x4, x5, hS⟩, ht⟩ => ?_
  · subst hS ht
    rw [Nat.zero_add]
    rw [List.getElem?_map] at hd
    cases hv : (valsN ws)[k]? with
    | none => rw [hv] at hd; cases hd
    | some v =>
      rw [hv] at hd
      cases hd
      refine ⟨_, rfl, ?_⟩
      have pl := pos_le ws v
      have fl : (iD (((valsN ws).take k).flatMap (posN ws))).length ≤ 64 := by
        rw [iD_len, List.length_flatMap]
        have : ∀ l : List Nat, (l.map fun v => (posN ws v).length).sum ≤ l.length * 8 := by
          intro l
          induction l with
          | nil => exact Nat.le_refl _
          | cons a l ih =>
            rw [List.map_cons, List.sum_cons, List.length_cons]
            have := pos_le ws a
            omega
        have := this ((valsN ws).take k)
        rw [List.length_take] at this
        have h8 : min k (valsN ws).length ≤ 8 := by omega
        have := Nat.mul_le_mul_right 8 h8
        omega
      with_reducible refine w_seq ?_
      refine w_extT rfl (w_var rfl ?_)
      refine ⟨by rw [iD_len (posN ws v)]; omega, ?_⟩
      dsimp only [List.set]
      with_reducible refine nx_nx ?_
      repeat (first | (with_reducible first | refine w_seq ?_ | refine w_asg ?_ | refine w_asgP ?_ | refine pr_i ?_ | refine w_eqI ?_ | refine w_neI ?_ | refine w_own ?_ | refine w_par ?_ | refine w_parO ?_ | refine w_expr ?_ | refine w_if ?_ | refine w_sret ?_ | refine w_nil ?_ | refine w_for ?_ | refine w_bin ?_ | refine w_un ?_ | refine w_tup ?_ | refine w_lst ?_ | refine w_call ?_ | refine w_and ?_ | refine w_or ?_ | refine w_ife ?_ | refine w_chain ?_ | refine w_slice ?_ | refine w_oN ?_ | refine w_oS ?_ | refine w_comp ?_ | refine w_itSeq ?_ | refine w_itR ?_ | refine w_evnil ?_ | refine w_evcons ?_ | refine w_evc1 ?_ | refine w_evc0 ?_ | refine w_c ?_ | refine nx_nx ?_ | refine nx_ret ?_ | refine bl_i ?_ | refine in_i ?_ | refine sq_t ?_ | refine sq_l ?_ | refine ls_l ?_ | refine tp_t ?_ | refine w_not ?_ | refine w_addI ?_ | refine w_sub ?_ | refine w_xor ?_ | refine w_ltI ?_ | refine w_leI ?_ | refine w_gtI ?_ | refine w_geI ?_ | refine w_slT ?_ | refine w_slL ?_ | refine w_lenT ?_ | refine w_lenL ?_ | refine w_lenS ?_ | refine w_tupL ?_ | refine w_tupT ?_ | refine w_lstL ?_ | refine w_lstT ?_ | refine w_neg ?_ | refine w_isn ?_ | refine w_isnn ?_ | refine w_begun ?_ | refine w_ret ?_ | refine w_resE ?_) | (with_reducible refine w_var (by with_unfolding_all rfl) ?_) | (with_reducible refine w_peekV (by with_unfolding_all rfl) ?_) | (with_reducible refine w_peekO (by with_unfolding_all rfl) ?_) | (with_reducible refine w_app (by with_unfolding_all rfl) ?_) | (with_reducible refine w_frz (by with_unfolding_all rfl) ?_) | (with_reducible refine w_scr (by with_unfolding_all rfl) ?_) | (with_reducible refine w_tc (by with_unfolding_all rfl) ?_) | (with_reducible refine w_stc (by with_unfolding_all rfl) ?_) | (with_reducible refine w_tr (by with_unfolding_all rfl) ?_) | (with_reducible refine w_str (by with_unfolding_all rfl) ?_) | (with_reducible refine w_idxT (by with_unfolding_all rfl) ?_) | (with_reducible refine w_idxL (by with_unfolding_all rfl) ?_) | (with_reducible refine w_isi (by with_unfolding_all rfl) ?_) | ((with_reducible first | refine w_addT ?_ ?_ | refine w_addL ?_ ?_ | refine w_mulI ?_ ?_ | refine w_mulT ?_ ?_ | refine w_mulL ?_ ?_ | refine w_mod ?_ ?_ | refine w_div ?_ ?_ | refine w_pow ?_ ?_ | refine w_rng ?_ ?_); (first | decide | omega | (refine ⟨?_, ?_⟩ <;> omega) | (refine ⟨?_, ?_, ?_⟩ <;> omega) | (simp only [List.length_cons, List.length_nil, List.length_append, List.length_reverse, BL.cD_len, BL.iD_len, BL.mkx_len, BL.sizeL]; omega) | (refine ⟨List.cons_ne_nil _ _, ?_⟩; simp only [List.length_cons, List.length_nil]; omega))) | ((with_reducible first | refine w_eqD ?_ ?_ ?_ | refine w_neD ?_ ?_ ?_ | refine w_inT ?_ ?_ ?_ | refine w_inL ?_ ?_ ?_); (first | rfl | with_unfolding_all rfl); (first | rfl | with_unfolding_all rfl)) | ((with_reducible refine ift_of ?_ ?_); (with_unfolding_all rfl)) | ((with_reducible refine iff_of ?_ ?_); (with_unfolding_all rfl)) | ((with_reducible refine ift2_of ?_ ?_); (with_unfolding_all rfl)) | ((with_reducible refine iff2_of ?_ ?_); (with_unfolding_all rfl)) | ((with_reducible refine ift_of ?_ ?_); exact decide_eq_true (by omega)) | ((with_reducible refine iff_of ?_ ?_); exact decide_eq_false (by omega)) | ((with_reducible refine ift2_of ?_ ?_); exact decide_eq_true (by omega)) | ((with_reducible refine iff2_of ?_ ?_); exact decide_eq_false (by omega)))
      with_reducible refine and_le (by rw [iD_len]; omega) ?_
      refine w_cmpP (fun _ => false) id (fun d hd => ?_) ?_
      · obtain ⟨w, hw, rfl⟩ := mem_iD hd
        obtain ⟨hw8, ew⟩ := mem_pos.mp hw
        refine ⟨_, rfl, eq_of_W fun t => ?_, fun z => by cases z⟩
        repeat (first | (with_reducible refine w_idxT (atI_iD (getF h hw8)) ?_) | (with_reducible first | refine w_seq ?_ | refine w_asg ?_ | refine w_asgP ?_ | refine pr_i ?_ | refine w_eqI ?_ | refine w_neI ?_ | refine w_own ?_ | refine w_par ?_ | refine w_parO ?_ | refine w_expr ?_ | refine w_if ?_ | refine w_sret ?_ | refine w_nil ?_ | refine w_for ?_ | refine w_bin ?_ | refine w_un ?_ | refine w_tup ?_ | refine w_lst ?_ | refine w_call ?_ | refine w_and ?_ | refine w_or ?_ | refine w_ife ?_ | refine w_chain ?_ | refine w_slice ?_ | refine w_oN ?_ | refine w_oS ?_ | refine w_comp ?_ | refine w_itSeq ?_ | refine w_itR ?_ | refine w_evnil ?_ | refine w_evcons ?_ | refine w_evc1 ?_ | refine w_evc0 ?_ | refine w_c ?_ | refine nx_nx ?_ | refine nx_ret ?_ | refine bl_i ?_ | refine in_i ?_ | refine sq_t ?_ | refine sq_l ?_ | refine ls_l ?_ | refine tp_t ?_ | refine w_not ?_ | refine w_addI ?_ | refine w_sub ?_ | refine w_xor ?_ | refine w_ltI ?_ | refine w_leI ?_ | refine w_gtI ?_ | refine w_geI ?_ | refine w_slT ?_ | refine w_slL ?_ | refine w_lenT ?_ | refine w_lenL ?_ | refine w_lenS ?_ | refine w_tupL ?_ | refine w_tupT ?_ | refine w_lstL ?_ | refine w_lstT ?_ | refine w_neg ?_ | refine w_isn ?_ | refine w_isnn ?_ | refine w_begun ?_ | refine w_ret ?_ | refine w_resE ?_) | (with_reducible refine w_var (by with_unfolding_all rfl) ?_) | (with_reducible refine w_peekV (by with_unfolding_all rfl) ?_) | (with_reducible refine w_peekO (by with_unfolding_all rfl) ?_) | (with_reducible refine w_app (by with_unfolding_all rfl) ?_) | (with_reducible refine w_frz (by with_unfolding_all rfl) ?_) | (with_reducible refine w_scr (by with_unfolding_all rfl) ?_) | (with_reducible refine w_tc (by with_unfolding_all rfl) ?_) | (with_reducible refine w_stc (by with_unfolding_all rfl) ?_) | (with_reducible refine w_tr (by with_unfolding_all rfl) ?_) | (with_reducible refine w_str (by with_unfolding_all rfl) ?_) | (with_reducible refine w_idxT (by with_unfolding_all rfl) ?_) | (with_reducible refine w_idxL (by with_unfolding_all rfl) ?_) | (with_reducible refine w_isi (by with_unfolding_all rfl) ?_) | ((with_reducible first | refine w_addT ?_ ?_ | refine w_addL ?_ ?_ | refine w_mulI ?_ ?_ | refine w_mulT ?_ ?_ | refine w_mulL ?_ ?_ | refine w_mod ?_ ?_ | refine w_div ?_ ?_ | refine w_pow ?_ ?_ | refine w_rng ?_ ?_); (first | decide | omega | (refine ⟨?_, ?_⟩ <;> omega) | (refine ⟨?_, ?_, ?_⟩ <;> omega) | (simp only [List.length_cons, List.length_nil, List.length_append, List.length_reverse, BL.cD_len, BL.iD_len, BL.mkx_len, BL.sizeL]; omega) | (refine ⟨List.cons_ne_nil _ _, ?_⟩; simp only [List.length_cons, List.length_nil]; omega))) | ((with_reducible first | refine w_eqD ?_ ?_ ?_ | refine w_neD ?_ ?_ ?_ | refine w_inT ?_ ?_ ?_ | refine w_inL ?_ ?_ ?_); (first | rfl | with_unfolding_all rfl); (first | rfl | with_unfolding_all rfl)) | ((with_reducible refine ift_of ?_ ?_); (with_unfolding_all rfl)) | ((with_reducible refine iff_of ?_ ?_); (with_unfolding_all rfl)) | ((with_reducible refine ift2_of ?_ ?_); (with_unfolding_all rfl)) | ((with_reducible refine iff2_of ?_ ?_); (with_unfolding_all rfl)) | ((with_reducible refine ift_of ?_ ?_); exact decide_eq_true (by omega)) | ((with_reducible refine iff_of ?_ ?_); exact decide_eq_false (by omega)) | ((with_reducible refine ift2_of ?_ ?_); exact decide_eq_true (by omega)) | ((with_reducible refine iff2_of ?_ ?_); exact decide_eq_false (by omega)))
        refine ⟨?_, rfl⟩
        rw [ew]; simp
      rw [show (iD (posN ws v)).filter (fun _ => false) = [] from List.filter_eq_nil_iff.mpr fun _ _ => by decide]
      repeat (first | (with_reducible refine w_srtSetP (pos_pair ws v) (by omega) ?_) | (with_reducible refine w_ne_no rfl (ok_iL _) (nb_iL _) ?_) | (with_reducible first | refine w_seq ?_ | refine w_asg ?_ | refine w_asgP ?_ | refine pr_i ?_ | refine w_eqI ?_ | refine w_neI ?_ | refine w_own ?_ | refine w_par ?_ | refine w_parO ?_ | refine w_expr ?_ | refine w_if ?_ | refine w_sret ?_ | refine w_nil ?_ | refine w_for ?_ | refine w_bin ?_ | refine w_un ?_ | refine w_tup ?_ | refine w_lst ?_ | refine w_call ?_ | refine w_and ?_ | refine w_or ?_ | refine w_ife ?_ | refine w_chain ?_ | refine w_slice ?_ | refine w_oN ?_ | refine w_oS ?_ | refine w_comp ?_ | refine w_itSeq ?_ | refine w_itR ?_ | refine w_evnil ?_ | refine w_evcons ?_ | refine w_evc1 ?_ | refine w_evc0 ?_ | refine w_c ?_ | refine nx_nx ?_ | refine nx_ret ?_ | refine bl_i ?_ | refine in_i ?_ | refine sq_t ?_ | refine sq_l ?_ | refine ls_l ?_ | refine tp_t ?_ | refine w_not ?_ | refine w_addI ?_ | refine w_sub ?_ | refine w_xor ?_ | refine w_ltI ?_ | refine w_leI ?_ | refine w_gtI ?_ | refine w_geI ?_ | refine w_slT ?_ | refine w_slL ?_ | refine w_lenT ?_ | refine w_lenL ?_ | refine w_lenS ?_ | refine w_tupL ?_ | refine w_tupT ?_ | refine w_lstL ?_ | refine w_lstT ?_ | refine w_neg ?_ | refine w_isn ?_ | refine w_isnn ?_ | refine w_begun ?_ | refine w_ret ?_ | refine w_resE ?_) | (with_reducible refine w_var (by with_unfolding_all rfl) ?_) | (with_reducible refine w_peekV (by with_unfolding_all rfl) ?_) | (with_reducible refine w_peekO (by with_unfolding_all rfl) ?_) | (with_reducible refine w_app (by with_unfolding_all rfl) ?_) | (with_reducible refine w_frz (by with_unfolding_all rfl) ?_) | (with_reducible refine w_scr (by with_unfolding_all rfl) ?_) | (with_reducible refine w_tc (by with_unfolding_all rfl) ?_) | (with_reducible refine w_stc (by with_unfolding_all rfl) ?_) | (with_reducible refine w_tr (by with_unfolding_all rfl) ?_) | (with_reducible refine w_str (by with_unfolding_all rfl) ?_) | (with_reducible refine w_idxT (by with_unfolding_all rfl) ?_) | (with_reducible refine w_idxL (by with_unfolding_all rfl) ?_) | (with_reducible refine w_isi (by with_unfolding_all rfl) ?_) | ((with_reducible first | refine w_addT ?_ ?_ | refine w_addL ?_ ?_ | refine w_mulI ?_ ?_ | refine w_mulT ?_ ?_ | refine w_mulL ?_ ?_ | refine w_mod ?_ ?_ | refine w_div ?_ ?_ | refine w_pow ?_ ?_ | refine w_rng ?_ ?_); (first | decide | omega | (refine ⟨?_, ?_⟩ <;> omega) | (refine ⟨?_, ?_, ?_⟩ <;> omega) | (simp only [List.length_cons, List.length_nil, List.length_append, List.length_reverse, BL.cD_len, BL.iD_len, BL.mkx_len, BL.sizeL]; omega) | (refine ⟨List.cons_ne_nil _ _, ?_⟩; simp only [List.length_cons, List.length_nil]; omega))) | ((with_reducible first | refine w_eqD ?_ ?_ ?_ | refine w_neD ?_ ?_ ?_ | refine w_inT ?_ ?_ ?_ | refine w_inL ?_ ?_ ?_); (first | rfl | with_unfolding_all rfl); (first | rfl | with_unfolding_all rfl)) | ((with_reducible refine ift_of ?_ ?_); (with_unfolding_all rfl)) | ((with_reducible refine iff_of ?_ ?_); (with_unfolding_all rfl)) | ((with_reducible refine ift2_of ?_ ?_); (with_unfolding_all rfl)) | ((with_reducible refine iff2_of ?_ ?_); (with_unfolding_all rfl)) | ((with_reducible refine ift_of ?_ ?_); exact decide_eq_true (by omega)) | ((with_reducible refine iff_of ?_ ?_); exact decide_eq_false (by omega)) | ((with_reducible refine ift2_of ?_ ?_); exact decide_eq_true (by omega)) | ((with_reducible refine iff2_of ?_ ?_); exact decide_eq_false (by omega)))
      with_reducible refine and_le (by rw [iD_len]; omega) ?_
      refine w_cmpM (fun d => match d with | .int z => .int ((nrN ws z.toNat : Nat) : Int) | _ => .non) (fun d hd => ?_) ?_
      · obtain ⟨w, hw, rfl⟩ := mem_iD hd
        obtain ⟨hw8, ew⟩ := mem_pos.mp hw
        refine ⟨_, rfl, eq_of_W fun t => ?_⟩
        repeat (first | (with_reducible refine w_idxT (comp_get hw8) ?_) | (with_reducible first | refine w_seq ?_ | refine w_asg ?_ | refine w_asgP ?_ | refine pr_i ?_ | refine w_eqI ?_ | refine w_neI ?_ | refine w_own ?_ | refine w_par ?_ | refine w_parO ?_ | refine w_expr ?_ | refine w_if ?_ | refine w_sret ?_ | refine w_nil ?_ | refine w_for ?_ | refine w_bin ?_ | refine w_un ?_ | refine w_tup ?_ | refine w_lst ?_ | refine w_call ?_ | refine w_and ?_ | refine w_or ?_ | refine w_ife ?_ | refine w_chain ?_ | refine w_slice ?_ | refine w_oN ?_ | refine w_oS ?_ | refine w_comp ?_ | refine w_itSeq ?_ | refine w_itR ?_ | refine w_evnil ?_ | refine w_evcons ?_ | refine w_evc1 ?_ | refine w_evc0 ?_ | refine w_c ?_ | refine nx_nx ?_ | refine nx_ret ?_ | refine bl_i ?_ | refine in_i ?_ | refine sq_t ?_ | refine sq_l ?_ | refine ls_l ?_ | refine tp_t ?_ | refine w_not ?_ | refine w_addI ?_ | refine w_sub ?_ | refine w_xor ?_ | refine w_ltI ?_ | refine w_leI ?_ | refine w_gtI ?_ | refine w_geI ?_ | refine w_slT ?_ | refine w_slL ?_ | refine w_lenT ?_ | refine w_lenL ?_ | refine w_lenS ?_ | refine w_tupL ?_ | refine w_tupT ?_ | refine w_lstL ?_ | refine w_lstT ?_ | refine w_neg ?_ | refine w_isn ?_ | refine w_isnn ?_ | refine w_begun ?_ | refine w_ret ?_ | refine w_resE ?_) | (with_reducible refine w_var (by with_unfolding_all rfl) ?_) | (with_reducible refine w_peekV (by with_unfolding_all rfl) ?_) | (with_reducible refine w_peekO (by with_unfolding_all rfl) ?_) | (with_reducible refine w_app (by with_unfolding_all rfl) ?_) | (with_reducible refine w_frz (by with_unfolding_all rfl) ?_) | (with_reducible refine w_scr (by with_unfolding_all rfl) ?_) | (with_reducible refine w_tc (by with_unfolding_all rfl) ?_) | (with_reducible refine w_stc (by with_unfolding_all rfl) ?_) | (with_reducible refine w_tr (by with_unfolding_all rfl) ?_) | (with_reducible refine w_str (by with_unfolding_all rfl) ?_) | (with_reducible refine w_idxT (by with_unfolding_all rfl) ?_) | (with_reducible refine w_idxL (by with_unfolding_all rfl) ?_) | (with_reducible refine w_isi (by with_unfolding_all rfl) ?_) | ((with_reducible first | refine w_addT ?_ ?_ | refine w_addL ?_ ?_ | refine w_mulI ?_ ?_ | refine w_mulT ?_ ?_ | refine w_mulL ?_ ?_ | refine w_mod ?_ ?_ | refine w_div ?_ ?_ | refine w_pow ?_ ?_ | refine w_rng ?_ ?_); (first | decide | omega | (refine ⟨?_, ?_⟩ <;> omega) | (refine ⟨?_, ?_, ?_⟩ <;> omega) | (simp only [List.length_cons, List.length_nil, List.length_append, List.length_reverse, BL.cD_len, BL.iD_len, BL.mkx_len, BL.sizeL]; omega) | (refine ⟨List.cons_ne_nil _ _, ?_⟩; simp only [List.length_cons, List.length_nil]; omega))) | ((with_reducible first | refine w_eqD ?_ ?_ ?_ | refine w_neD ?_ ?_ ?_ | refine w_inT ?_ ?_ ?_ | refine w_inL ?_ ?_ ?_); (first | rfl | with_unfolding_all rfl); (first | rfl | with_unfolding_all rfl)) | ((with_reducible refine ift_of ?_ ?_); (with_unfolding_all rfl)) | ((with_reducible refine iff_of ?_ ?_); (with_unfolding_all rfl)) | ((with_reducible refine ift2_of ?_ ?_); (with_unfolding_all rfl)) | ((with_reducible refine iff2_of ?_ ?_); (with_unfolding_all rfl)) | ((with_reducible refine ift_of ?_ ?_); exact decide_eq_true (by omega)) | ((with_reducible refine iff_of ?_ ?_); exact decide_eq_false (by omega)) | ((with_reducible refine ift2_of ?_ ?_); exact decide_eq_true (by omega)) | ((with_reducible refine iff2_of ?_ ?_); exact decide_eq_false (by omega)))
        refine ⟨?_, rfl⟩
        show _ = D.int ((nrN ws ((w : Int).toNat) : Nat) : Int)
        rw [Int.toNat_natCast]
      have en : (iD (posN ws v)).map (fun d => match d with | .int z => D.int ((nrN ws z.toNat : Nat) : Int) | _ => .non) = iD (List.range (ws.count v)) := by
        rw [← nr_pos h v]
        unfold iD
        rw [List.map_map, List.map_map]
        refine List.map_congr_left fun w _ => ?_
        show D.int ((nrN ws ((w : Int).toNat) : Nat) : Int) = _
        rw [Int.toNat_natCast]; rfl
      rw [en]
      have c8 : ws.count v ≤ 8 := by rw [← posN_len h v]; exact pl
      refine w_sortedI (List.Perm.refl _) ((range_pair _).imp fun hab => by omega) (by rw [List.length_range]; omega) ?_
      have el : (iD (posN ws v)).length = ws.count v := by rw [iD_len, posN_len h]
      repeat (first | (with_reducible refine w_rng ⟨by omega, by omega⟩ ?_) | (with_reducible first | refine w_seq ?_ | refine w_asg ?_ | refine w_asgP ?_ | refine pr_i ?_ | refine w_eqI ?_ | refine w_neI ?_ | refine w_own ?_ | refine w_par ?_ | refine w_parO ?_ | refine w_expr ?_ | refine w_if ?_ | refine w_sret ?_ | refine w_nil ?_ | refine w_for ?_ | refine w_bin ?_ | refine w_un ?_ | refine w_tup ?_ | refine w_lst ?_ | refine w_call ?_ | refine w_and ?_ | refine w_or ?_ | refine w_ife ?_ | refine w_chain ?_ | refine w_slice ?_ | refine w_oN ?_ | refine w_oS ?_ | refine w_comp ?_ | refine w_itSeq ?_ | refine w_itR ?_ | refine w_evnil ?_ | refine w_evcons ?_ | refine w_evc1 ?_ | refine w_evc0 ?_ | refine w_c ?_ | refine nx_nx ?_ | refine nx_ret ?_ | refine bl_i ?_ | refine in_i ?_ | refine sq_t ?_ | refine sq_l ?_ | refine ls_l ?_ | refine tp_t ?_ | refine w_not ?_ | refine w_addI ?_ | refine w_sub ?_ | refine w_xor ?_ | refine w_ltI ?_ | refine w_leI ?_ | refine w_gtI ?_ | refine w_geI ?_ | refine w_slT ?_ | refine w_slL ?_ | refine w_lenT ?_ | refine w_lenL ?_ | refine w_lenS ?_ | refine w_tupL ?_ | refine w_tupT ?_ | refine w_lstL ?_ | refine w_lstT ?_ | refine w_neg ?_ | refine w_isn ?_ | refine w_isnn ?_ | refine w_begun ?_ | refine w_ret ?_ | refine w_resE ?_) | (with_reducible refine w_var (by with_unfolding_all rfl) ?_) | (with_reducible refine w_peekV (by with_unfolding_all rfl) ?_) | (with_reducible refine w_peekO (by with_unfolding_all rfl) ?_) | (with_reducible refine w_app (by with_unfolding_all rfl) ?_) | (with_reducible refine w_frz (by with_unfolding_all rfl) ?_) | (with_reducible refine w_scr (by with_unfolding_all rfl) ?_) | (with_reducible refine w_tc (by with_unfolding_all rfl) ?_) | (with_reducible refine w_stc (by with_unfolding_all rfl) ?_) | (with_reducible refine w_tr (by with_unfolding_all rfl) ?_) | (with_reducible refine w_str (by with_unfolding_all rfl) ?_) | (with_reducible refine w_idxT (by with_unfolding_all rfl) ?_) | (with_reducible refine w_idxL (by with_unfolding_all rfl) ?_) | (with_reducible refine w_isi (by with_unfolding_all rfl) ?_) | ((with_reducible first | refine w_addT ?_ ?_ | refine w_addL ?_ ?_ | refine w_mulI ?_ ?_ | refine w_mulT ?_ ?_ | refine w_mulL ?_ ?_ | refine w_mod ?_ ?_ | refine w_div ?_ ?_ | refine w_pow ?_ ?_ | refine w_rng ?_ ?_); (first | decide | omega | (refine ⟨?_, ?_⟩ <;> omega) | (refine ⟨?_, ?_, ?_⟩ <;> omega) | (simp only [List.length_cons, List.length_nil, List.length_append, List.length_reverse, BL.cD_len, BL.iD_len, BL.mkx_len, BL.sizeL]; omega) | (refine ⟨List.cons_ne_nil _ _, ?_⟩; simp only [List.length_cons, List.length_nil]; omega))) | ((with_reducible first | refine w_eqD ?_ ?_ ?_ | refine w_neD ?_ ?_ ?_ | refine w_inT ?_ ?_ ?_ | refine w_inL ?_ ?_ ?_); (first | rfl | with_unfolding_all rfl); (first | rfl | with_unfolding_all rfl)) | ((with_reducible refine ift_of ?_ ?_); (with_unfolding_all rfl)) | ((with_reducible refine iff_of ?_ ?_); (with_unfolding_all rfl)) | ((with_reducible refine ift2_of ?_ ?_); (with_unfolding_all rfl)) | ((with_reducible refine iff2_of ?_ ?_); (with_unfolding_all rfl)) | ((with_reducible refine ift_of ?_ ?_); exact decide_eq_true (by omega)) | ((with_reducible refine iff_of ?_ ?_); exact decide_eq_false (by omega)) | ((with_reducible refine ift2_of ?_ ?_); exact decide_eq_true (by omega)) | ((with_reducible refine iff2_of ?_ ?_); exact decide_eq_false (by omega)))
      rw [show rng ((((iD (posN ws v)).length : Nat) : Int).toNat) = iD (List.range (ws.count v)) from by rw [Int.toNat_natCast, el]; rfl]
      repeat (first | (with_reducible refine w_ne_no rfl (ok_iL _) (nb_iL _) ?_) | (with_reducible first | refine w_seq ?_ | refine w_asg ?_ | refine w_asgP ?_ | refine pr_i ?_ | refine w_eqI ?_ | refine w_neI ?_ | refine w_own ?_ | refine w_par ?_ | refine w_parO ?_ | refine w_expr ?_ | refine w_if ?_ | refine w_sret ?_ | refine w_nil ?_ | refine w_for ?_ | refine w_bin ?_ | refine w_un ?_ | refine w_tup ?_ | refine w_lst ?_ | refine w_call ?_ | refine w_and ?_ | refine w_or ?_ | refine w_ife ?_ | refine w_chain ?_ | refine w_slice ?_ | refine w_oN ?_ | refine w_oS ?_ | refine w_comp ?_ | refine w_itSeq ?_ | refine w_itR ?_ | refine w_evnil ?_ | refine w_evcons ?_ | refine w_evc1 ?_ | refine w_evc0 ?_ | refine w_c ?_ | refine nx_nx ?_ | refine nx_ret ?_ | refine bl_i ?_ | refine in_i ?_ | refine sq_t ?_ | refine sq_l ?_ | refine ls_l ?_ | refine tp_t ?_ | refine w_not ?_ | refine w_addI ?_ | refine w_sub ?_ | refine w_xor ?_ | refine w_ltI ?_ | refine w_leI ?_ | refine w_gtI ?_ | refine w_geI ?_ | refine w_slT ?_ | refine w_slL ?_ | refine w_lenT ?_ | refine w_lenL ?_ | refine w_lenS ?_ | refine w_tupL ?_ | refine w_tupT ?_ | refine w_lstL ?_ | refine w_lstT ?_ | refine w_neg ?_ | refine w_isn ?_ | refine w_isnn ?_ | refine w_begun ?_ | refine w_ret ?_ | refine w_resE ?_) | (with_reducible refine w_var (by with_unfolding_all rfl) ?_) | (with_reducible refine w_peekV (by with_unfolding_all rfl) ?_) | (with_reducible refine w_peekO (by with_unfolding_all rfl) ?_) | (with_reducible refine w_app (by with_unfolding_all rfl) ?_) | (with_reducible refine w_frz (by with_unfolding_all rfl) ?_) | (with_reducible refine w_scr (by with_unfolding_all rfl) ?_) | (with_reducible refine w_tc (by with_unfolding_all rfl) ?_) | (with_reducible refine w_stc (by with_unfolding_all rfl) ?_) | (with_reducible refine w_tr (by with_unfolding_all rfl) ?_) | (with_reducible refine w_str (by with_unfolding_all rfl) ?_) | (with_reducible refine w_idxT (by with_unfolding_all rfl) ?_) | (with_reducible refine w_idxL (by with_unfolding_all rfl) ?_) | (with_reducible refine w_isi (by with_unfolding_all rfl) ?_) | ((with_reducible first | refine w_addT ?_ ?_ | refine w_addL ?_ ?_ | refine w_mulI ?_ ?_ | refine w_mulT ?_ ?_ | refine w_mulL ?_ ?_ | refine w_mod ?_ ?_ | refine w_div ?_ ?_ | refine w_pow ?_ ?_ | refine w_rng ?_ ?_); (first | decide | omega | (refine ⟨?_, ?_⟩ <;> omega) | (refine ⟨?_, ?_, ?_⟩ <;> omega) | (simp only [List.length_cons, List.length_nil, List.length_append, List.length_reverse, BL.cD_len, BL.iD_len, BL.mkx_len, BL.sizeL]; omega) | (refine ⟨List.cons_ne_nil _ _, ?_⟩; simp only [List.length_cons, List.length_nil]; omega))) | ((with_reducible first | refine w_eqD ?_ ?_ ?_ | refine w_neD ?_ ?_ ?_ | refine w_inT ?_ ?_ ?_ | refine w_inL ?_ ?_ ?_); (first | rfl | with_unfolding_all rfl); (first | rfl | with_unfolding_all rfl)) | ((with_reducible refine ift_of ?_ ?_); (with_unfolding_all rfl)) | ((with_reducible refine iff_of ?_ ?_); (with_unfolding_all rfl)) | ((with_reducible refine ift2_of ?_ ?_); (with_unfolding_all rfl)) | ((with_reducible refine iff2_of ?_ ?_); (with_unfolding_all rfl)) | ((with_reducible refine ift_of ?_ ?_); exact decide_eq_true (by omega)) | ((with_reducible refine iff_of ?_ ?_); exact decide_eq_false (by omega)) | ((with_reducible refine ift2_of ?_ ?_); exact decide_eq_true (by omega)) | ((with_reducible refine iff2_of ?_ ?_); exact decide_eq_false (by omega)))
      refine ⟨⟨.val (.int (v : Int)), .val (.tup (iD (posN ws v))), x5, ?_⟩, rfl⟩
      rw [List.take_add_one, hv, List.flatMap_append, iD_app]
      simp
  · subst hS ht
    rw [List.length_map, Nat.zero_add, List.take_length]
    have fp := flat_perm h
    have fl : ((valsN ws).flatMap (posN ws)).length = 8 := by rw [fp.length_eq, List.length_range]
    repeat (first | (with_reducible refine w_sortedI fp ((range_pair _).imp fun hab => by omega) (by omega) ?_) | (with_reducible first | refine w_seq ?_ | refine w_asg ?_ | refine w_asgP ?_ | refine pr_i ?_ | refine w_eqI ?_ | refine w_neI ?_ | refine w_own ?_ | refine w_par ?_ | refine w_parO ?_ | refine w_expr ?_ | refine w_if ?_ | refine w_sret ?_ | refine w_nil ?_ | refine w_for ?_ | refine w_bin ?_ | refine w_un ?_ | refine w_tup ?_ | refine w_lst ?_ | refine w_call ?_ | refine w_and ?_ | refine w_or ?_ | refine w_ife ?_ | refine w_chain ?_ | refine w_slice ?_ | refine w_oN ?_ | refine w_oS ?_ | refine w_comp ?_ | refine w_itSeq ?_ | refine w_itR ?_ | refine w_evnil ?_ | refine w_evcons ?_ | refine w_evc1 ?_ | refine w_evc0 ?_ | refine w_c ?_ | refine nx_nx ?_ | refine nx_ret ?_ | refine bl_i ?_ | refine in_i ?_ | refine sq_t ?_ | refine sq_l ?_ | refine ls_l ?_ | refine tp_t ?_ | refine w_not ?_ | refine w_addI ?_ | refine w_sub ?_ | refine w_xor ?_ | refine w_ltI ?_ | refine w_leI ?_ | refine w_gtI ?_ | refine w_geI ?_ | refine w_slT ?_ | refine w_slL ?_ | refine w_lenT ?_ | refine w_lenL ?_ | refine w_lenS ?_ | refine w_tupL ?_ | refine w_tupT ?_ | refine w_lstL ?_ | refine w_lstT ?_ | refine w_neg ?_ | refine w_isn ?_ | refine w_isnn ?_ | refine w_begun ?_ | refine w_ret ?_ | refine w_resE ?_) | (with_reducible refine w_var (by with_unfolding_all rfl) ?_) | (with_reducible refine w_peekV (by with_unfolding_all rfl) ?_) | (with_reducible refine w_peekO (by with_unfolding_all rfl) ?_) | (with_reducible refine w_app (by with_unfolding_all rfl) ?_) | (with_reducible refine w_frz (by with_unfolding_all rfl) ?_) | (with_reducible refine w_scr (by with_unfolding_all rfl) ?_) | (with_reducible refine w_tc (by with_unfolding_all rfl) ?_) | (with_reducible refine w_stc (by with_unfolding_all rfl) ?_) | (with_reducible refine w_tr (by with_unfolding_all rfl) ?_) | (with_reducible refine w_str (by with_unfolding_all rfl) ?_) | (with_reducible refine w_idxT (by with_unfolding_all rfl) ?_) | (with_reducible refine w_idxL (by with_unfolding_all rfl) ?_) | (with_reducible refine w_isi (by with_unfolding_all rfl) ?_) | ((with_reducible first | refine w_addT ?_ ?_ | refine w_addL ?_ ?_ | refine w_mulI ?_ ?_ | refine w_mulT ?_ ?_ | refine w_mulL ?_ ?_ | refine w_mod ?_ ?_ | refine w_div ?_ ?_ | refine w_pow ?_ ?_ | refine w_rng ?_ ?_); (first | decide | omega | (refine ⟨?_, ?_⟩ <;> omega) | (refine ⟨?_, ?_, ?_⟩ <;> omega) | (simp only [List.length_cons, List.length_nil, List.length_append, List.length_reverse, BL.cD_len, BL.iD_len, BL.mkx_len, BL.sizeL]; omega) | (refine ⟨List.cons_ne_nil _ _, ?_⟩; simp only [List.length_cons, List.length_nil]; omega))) | ((with_reducible first | refine w_eqD ?_ ?_ ?_ | refine w_neD ?_ ?_ ?_ | refine w_inT ?_ ?_ ?_ | refine w_inL ?_ ?_ ?_); (first | rfl | with_unfolding_all rfl); (first | rfl | with_unfolding_all rfl)) | ((with_reducible refine ift_of ?_ ?_); (with_unfolding_all rfl)) | ((with_reducible refine iff_of ?_ ?_); (with_unfolding_all rfl)) | ((with_reducible refine ift2_of ?_ ?_); (with_unfolding_all rfl)) | ((with_reducible refine iff2_of ?_ ?_); (with_unfolding_all rfl)) | ((with_reducible refine ift_of ?_ ?_); exact decide_eq_true (by omega)) | ((with_reducible refine iff_of ?_ ?_); exact decide_eq_false (by omega)) | ((with_reducible refine ift2_of ?_ ?_); exact decide_eq_true (by omega)) | ((with_reducible refine iff2_of ?_ ?_); exact decide_eq_false (by omega)))
    repeat (first | (with_reducible refine w_eq pe ?_) | (with_reducible first | refine w_seq ?_ | refine w_asg ?_ | refine w_asgP ?_ | refine pr_i ?_ | refine w_eqI ?_ | refine w_neI ?_ | refine w_own ?_ | refine w_par ?_ | refine w_parO ?_ | refine w_expr ?_ | refine w_if ?_ | refine w_sret ?_ | refine w_nil ?_ | refine w_for ?_ | refine w_bin ?_ | refine w_un ?_ | refine w_tup ?_ | refine w_lst ?_ | refine w_call ?_ | refine w_and ?_ | refine w_or ?_ | refine w_ife ?_ | refine w_chain ?_ | refine w_slice ?_ | refine w_oN ?_ | refine w_oS ?_ | refine w_comp ?_ | refine w_itSeq ?_ | refine w_itR ?_ | refine w_evnil ?_ | refine w_evcons ?_ | refine w_evc1 ?_ | refine w_evc0 ?_ | refine w_c ?_ | refine nx_nx ?_ | refine nx_ret ?_ | refine bl_i ?_ | refine in_i ?_ | refine sq_t ?_ | refine sq_l ?_ | refine ls_l ?_ | refine tp_t ?_ | refine w_not ?_ | refine w_addI ?_ | refine w_sub ?_ | refine w_xor ?_ | refine w_ltI ?_ | refine w_leI ?_ | refine w_gtI ?_ | refine w_geI ?_ | refine w_slT ?_ | refine w_slL ?_ | refine w_lenT ?_ | refine w_lenL ?_ | refine w_lenS ?_ | refine w_tupL ?_ | refine w_tupT ?_ | refine w_lstL ?_ | refine w_lstT ?_ | refine w_neg ?_ | refine w_isn ?_ | refine w_isnn ?_ | refine w_begun ?_ | refine w_ret ?_ | refine w_resE ?_) | (with_reducible refine w_var (by with_unfolding_all rfl) ?_) | (with_reducible refine w_peekV (by with_unfolding_all rfl) ?_) | (with_reducible refine w_peekO (by with_unfolding_all rfl) ?_) | (with_reducible refine w_app (by with_unfolding_all rfl) ?_) | (with_reducible refine w_frz (by with_unfolding_all rfl) ?_) | (with_reducible refine w_scr (by with_unfolding_all rfl) ?_) | (with_reducible refine w_tc (by with_unfolding_all rfl) ?_) | (with_reducible refine w_stc (by with_unfolding_all rfl) ?_) | (with_reducible refine w_tr (by with_unfolding_all rfl) ?_) | (with_reducible refine w_str (by with_unfolding_all rfl) ?_) | (with_reducible refine w_idxT (by with_unfolding_all rfl) ?_) | (with_reducible refine w_idxL (by with_unfolding_all rfl) ?_) | (with_reducible refine w_isi (by with_unfolding_all rfl) ?_) | ((with_reducible first | refine w_addT ?_ ?_ | refine w_addL ?_ ?_ | refine w_mulI ?_ ?_ | refine w_mulT ?_ ?_ | refine w_mulL ?_ ?_ | refine w_mod ?_ ?_ | refine w_div ?_ ?_ | refine w_pow ?_ ?_ | refine w_rng ?_ ?_); (first | decide | omega | (refine ⟨?_, ?_⟩ <;> omega) | (refine ⟨?_, ?_, ?_⟩ <;> omega) | (simp only [List.length_cons, List.length_nil, List.length_append, List.length_reverse, BL.cD_len, BL.iD_len, BL.mkx_len, BL.sizeL]; omega) | (refine ⟨List.cons_ne_nil _ _, ?_⟩; simp only [List.length_cons, List.length_nil]; omega))) | ((with_reducible first | refine w_eqD ?_ ?_ ?_ | refine w_neD ?_ ?_ ?_ | refine w_inT ?_ ?_ ?_ | refine w_inL ?_ ?_ ?_); (first | rfl | with_unfolding_all rfl); (first | rfl | with_unfolding_all rfl)) | ((with_reducible refine ift_of ?_ ?_); (with_unfolding_all rfl)) | ((with_reducible refine iff_of ?_ ?_); (with_unfolding_all rfl)) | ((with_reducible refine ift2_of ?_ ?_); (with_unfolding_all rfl)) | ((with_reducible refine iff2_of ?_ ?_); (with_unfolding_all rfl)) | ((with_reducible refine ift_of ?_ ?_); exact decide_eq_true (by omega)) | ((with_reducible refine iff_of ?_ ?_); exact decide_eq_false (by omega)) | ((with_reducible refine ift2_of ?_ ?_); exact decide_eq_true (by omega)) | ((with_reducible refine iff2_of ?_ ?_); exact decide_eq_false (by omega)))
    with_reducible refine and_le (by rw [List.length_map]; omega) ?_
    refine w_cmpM (fun d => match d with | .tup [x, _] => x | _ => .non) (fun d hd => ?_) ?_
    · obtain ⟨v, hv, rfl⟩ := List.mem_map.mp hd
      exact ⟨_, rfl, rfl⟩
    rw [List.map_map, show (valsN ws).map ((fun d => match d with | .tup [x, _] => x | _ => .non) ∘ partD ws) = iD (valsN ws) from rfl]
    repeat (first | (with_reducible refine w_srtSet h ?_) | (with_reducible refine w_eq_yes rfl (ok_iL _) (nb_iL _) ?_) | (with_reducible first | refine w_seq ?_ | refine w_asg ?_ | refine w_asgP ?_ | refine pr_i ?_ | refine w_eqI ?_ | refine w_neI ?_ | refine w_own ?_ | refine w_par ?_ | refine w_parO ?_ | refine w_expr ?_ | refine w_if ?_ | refine w_sret ?_ | refine w_nil ?_ | refine w_for ?_ | refine w_bin ?_ | refine w_un ?_ | refine w_tup ?_ | refine w_lst ?_ | refine w_call ?_ | refine w_and ?_ | refine w_or ?_ | refine w_ife ?_ | refine w_chain ?_ | refine w_slice ?_ | refine w_oN ?_ | refine w_oS ?_ | refine w_comp ?_ | refine w_itSeq ?_ | refine w_itR ?_ | refine w_evnil ?_ | refine w_evcons ?_ | refine w_evc1 ?_ | refine w_evc0 ?_ | refine w_c ?_ | refine nx_nx ?_ | refine nx_ret ?_ | refine bl_i ?_ | refine in_i ?_ | refine sq_t ?_ | refine sq_l ?_ | refine ls_l ?_ | refine tp_t ?_ | refine w_not ?_ | refine w_addI ?_ | refine w_sub ?_ | refine w_xor ?_ | refine w_ltI ?_ | refine w_leI ?_ | refine w_gtI ?_ | refine w_geI ?_ | refine w_slT ?_ | refine w_slL ?_ | refine w_lenT ?_ | refine w_lenL ?_ | refine w_lenS ?_ | refine w_tupL ?_ | refine w_tupT ?_ | refine w_lstL ?_ | refine w_lstT ?_ | refine w_neg ?_ | refine w_isn ?_ | refine w_isnn ?_ | refine w_begun ?_ | refine w_ret ?_ | refine w_resE ?_) | (with_reducible refine w_var (by with_unfolding_all rfl) ?_) | (with_reducible refine w_peekV (by with_unfolding_all rfl) ?_) | (with_reducible refine w_peekO (by with_unfolding_all rfl) ?_) | (with_reducible refine w_app (by with_unfolding_all rfl) ?_) | (with_reducible refine w_frz (by with_unfolding_all rfl) ?_) | (with_reducible refine w_scr (by with_unfolding_all rfl) ?_) | (with_reducible refine w_tc (by with_unfolding_all rfl) ?_) | (with_reducible refine w_stc (by with_unfolding_all rfl) ?_) | (with_reducible refine w_tr (by with_unfolding_all rfl) ?_) | (with_reducible refine w_str (by with_unfolding_all rfl) ?_) | (with_reducible refine w_idxT (by with_unfolding_all rfl) ?_) | (with_reducible refine w_idxL (by with_unfolding_all rfl) ?_) | (with_reducible refine w_isi (by with_unfolding_all rfl) ?_) | ((with_reducible first | refine w_addT ?_ ?_ | refine w_addL ?_ ?_ | refine w_mulI ?_ ?_ | refine w_mulT ?_ ?_ | refine w_mulL ?_ ?_ | refine w_mod ?_ ?_ | refine w_div ?_ ?_ | refine w_pow ?_ ?_ | refine w_rng ?_ ?_); (first | decide | omega | (refine ⟨?_, ?_⟩ <;> omega) | (refine ⟨?_, ?_, ?_⟩ <;> omega) | (simp only [List.length_cons, List.length_nil, List.length_append, List.length_reverse, BL.cD_len, BL.iD_len, BL.mkx_len, BL.sizeL]; omega) | (refine ⟨List.cons_ne_nil _ _, ?_⟩; simp only [List.length_cons, List.length_nil]; omega))) | ((with_reducible first | refine w_eqD ?_ ?_ ?_ | refine w_neD ?_ ?_ ?_ | refine w_inT ?_ ?_ ?_ | refine w_inL ?_ ?_ ?_); (first | rfl | with_unfolding_all rfl); (first | rfl | with_unfolding_all rfl)) | ((with_reducible refine ift_of ?_ ?_); (with_unfolding_all rfl)) | ((with_reducible refine iff_of ?_ ?_); (with_unfolding_all rfl)) | ((with_reducible refine ift2_of ?_ ?_); (with_unfolding_all rfl)) | ((with_reducible refine iff2_of ?_ ?_); (with_unfolding_all rfl)) | ((with_reducible refine ift_of ?_ ?_); exact decide_eq_true (by omega)) | ((with_reducible refine iff_of ?_ ?_); exact decide_eq_false (by omega)) | ((with_reducible refine ift2_of ?_ ?_); exact decide_eq_true (by omega)) | ((with_reducible refine iff2_of ?_ ?_); exact decide_eq_false (by omega)))
    exact ⟨rfl, rfl⟩
theorem get_range {ws : List Nat} (h : IsF ws) : (List.range 8).map (fun w => ws.getD w 0) = ws := by
  refine List.ext_getElem? fun k => ?_
  rw [List.getElem?_map]
  by_cases hk : k < 8
  · rw [List.getElem?_range hk, getF h hk]; rfl
  · rw [List.getElem?_eq_none (by rw [List.length_range]; omega), List.getElem?_eq_none (by rw [h.1]; omega)]; rfl
theorem ahead_f {ws xs : List Nat} (h : IsF ws) (hx : IsX xs) : IsF (xs.map fun w => ws.getD w 0) ∧ ∀ v, (xs.map fun w => ws.getD w 0).count v = ws.count v := by
  refine ⟨⟨by rw [List.length_map, hx.len], fun v hv => ?_⟩, fun v => ?_⟩
  · obtain ⟨w, hw, rfl⟩ := List.mem_map.mp hv
    exact getF_lt h (hx.lt hw)
  · have := (hx.map fun w => ws.getD w 0).count_eq v
    rw [get_range h] at this
    exact this
theorem x_inj {xs : List Nat} (hx : IsX xs) {a b : Nat} (ha : a < 8) (hb : b < 8) (e : xs.getD a 0 = xs.getD b 0) : a = b := by
  have nd := hx.nodup
  have ea := getF hx.f ha
  have eb := getF hx.f hb
  have la : a < xs.length := by rw [hx.len]; exact ha
  exact (List.getElem?_inj la nd).mp (by rw [ea, eb, e])
theorem behind_count {ws xs : List Nat} (h : IsF ws) (hx : IsX xs) {v : Nat} (hv : v < 8) : (ws.map fun w => xs.getD w 0).count (xs.getD v 0) = ws.count v := by
  have : ∀ l : List Nat, (∀ w ∈ l, w < 8) → (l.map fun w => xs.getD w 0).count (xs.getD v 0) = l.count v := by
    intro l
    induction l with
    | nil => intro _; rfl
    | cons a l ih =>
      intro hl
      rw [List.map_cons, List.count_cons, List.count_cons, ih fun w hw => hl w (List.mem_cons_of_mem _ hw)]
      congr 1
      by_cases e : a = v
      · subst e; simp
      · have n : xs.getD a 0 ≠ xs.getD v 0 := fun q => e (x_inj hx (hl a (List.mem_cons_self ..)) hv q)
        rw [if_neg (by rw [beq_iff_eq]; exact n), if_neg (by rw [beq_iff_eq]; exact e)]
  exact this ws h.2
theorem behind_f {ws xs : List Nat} (h : IsF ws) (hx : IsX xs) : IsF (ws.map fun w => xs.getD w 0) := ⟨by rw [List.length_map, h.1], fun v hv => by
  obtain ⟨w, hw, rfl⟩ := List.mem_map.mp hv
  exact getF_lt hx.f (h.2 w hw)⟩
theorem behind_mxc {ws xs : List Nat} (h : IsF ws) (hx : IsX xs) : mxc (ws.map fun w => xs.getD w 0) = mxc ws := by
  obtain ⟨⟨v, hv, e⟩, all, one, _⟩ := mxc_spec h
  refine mxc_eq (behind_f h hx) ⟨xs.getD v 0, by rw [behind_count h hx (h.2 v hv), e]⟩ fun u => ?_
  by_cases hu : u ∈ ws.map fun w => xs.getD w 0
  · obtain ⟨w, hw, rfl⟩ := List.mem_map.mp hu
    rw [behind_count h hx (h.2 w hw)]; exact all w
  · rw [List.count_eq_zero_of_not_mem hu]
    show (0 : Int) ≤ _
    omega
theorem behind_vals {ws xs : List Nat} (h : IsF ws) (hx : IsX xs) : (valsN (ws.map fun w => xs.getD w 0)).length = (valsN ws).length := by
  have p : (valsN (ws.map fun w => xs.getD w 0)).Perm ((valsN ws).map fun w => xs.getD w 0) := by
    refine (List.perm_ext_iff_of_nodup (((range_pair 8).filter _).imp fun hab => by omega) ?_).mpr fun u => ?_
    · have : ∀ l : List Nat, (∀ w ∈ l, w < 8) → l.Nodup → (l.map fun w => xs.getD w 0).Nodup := by
        intro l
        induction l with
        | nil => intro _ _; exact .nil
        | cons a l ih =>
          intro hl hn
          rw [List.nodup_cons] at hn
          rw [List.map_cons, List.nodup_cons]
          refine ⟨fun hm => ?_, ih (fun w hw => hl w (List.mem_cons_of_mem _ hw)) hn.2⟩
          obtain ⟨b, hb, e⟩ := List.mem_map.mp hm
          exact hn.1 (by rw [← x_inj hx (hl b (List.mem_cons_of_mem _ hb)) (hl a (List.mem_cons_self ..)) e]; exact hb)
      exact this _ (fun w hw => h.2 w ((mem_vals h).mp hw)) (((range_pair 8).filter _).imp fun hab => by omega)
    · show u ∈ valsN (ws.map fun w => xs.getD w 0) ↔ _
      rw [mem_vals (behind_f h hx), List.mem_map, List.mem_map]
      exact ⟨fun ⟨w, hw, e⟩ => ⟨w, (mem_vals h).mpr hw, e⟩, fun ⟨w, hw, e⟩ => ⟨w, (mem_vals h).mp hw, e⟩⟩
  rw [p.length_eq, List.length_map]
theorem nodup_mxc {ws : List Nat} (h : IsF ws) : ws.Nodup ↔ mxc ws ≤ 1 := by
  obtain ⟨⟨v, hv, e⟩, all, one, _⟩ := mxc_spec h
  rw [List.nodup_iff_count]
  exact ⟨fun q => by rw [e]; have := q v; omega, fun q a => by have := all a; omega⟩
theorem isx_eq {ws : List Nat} (h : IsF ws) : f_is_exchange [.tup (iD ws)] = ret (.bl (decide (fb (mxc ws) = 0))) := by
  refine (is_exchange_eq (by rw [iD_len, h.1]) fun d hd => by obtain ⟨w, _, rfl⟩ := mem_iD hd; rfl).trans ?_
  have ea : (iD ws).all (btw 0 7) = true := List.all_eq_true.mpr fun d hd => by
    obtain ⟨w, hw, rfl⟩ := mem_iD hd
    have := h.2 w hw
    show (decide (0 ≤ (w : Int)) && decide ((w : Int) ≤ 7)) = true
    rw [decide_eq_true (by omega), decide_eq_true (by omega)]; rfl
  rw [ea, intsD_iD]
  show ret (D.bl (true && decide ((ddp (ws.map fun (w : Nat) => (w : Int))).length = 8))) = _
  congr 2
  rw [Bool.true_and, Bool.eq_iff_iff, decide_eq_true_eq, decide_eq_true_eq]
  have hfb : fb (mxc ws) = 0 ↔ mxc ws ≤ 1 := by unfold fb; split <;> (try split) <;> (try split) <;> omega
  rw [hfb, ← nodup_mxc h]
  constructor
  · intro hl
    apply Classical.byContradiction
    intro hn
    have hn' : ¬ (ws.map fun (w : Nat) => (w : Int)).Nodup := fun q => hn ((List.pairwise_map.mp q).imp fun h e => h (by rw [e]))
    have := BL.ddp_dup hn'
    rw [hl, List.length_map, h.1] at this
    omega
  · intro hn
    rw [BL.ddp_nodup (nodup_cast hn), List.length_map, h.1]
theorem intsT_comp (ws : List Nat) : ∀ l : List Nat, intsT (l.map (compD ws)) = some (l.map fun w => [((ws.getD w 0 : Nat) : Int), ((nrN ws w : Nat) : Int)])
  | [] => rfl
  | w :: l => by
    rw [List.map_cons]
    show (match intsD [D.int (ws.getD w 0 : Int), .int ((ws.take w).count (ws.getD w 0) : Nat)], intsT (l.map (compD ws)) with | some n, some m => some (n :: m) | _, _ => none) = _
    rw [intsT_comp ws l]; rfl
theorem ddL_id : ∀ {l : List (List Int)}, l.Nodup → ddL l = l
  | [], _ => rfl
  | x :: l, h => by
    rw [List.nodup_cons] at h
    unfold ddL
    rw [if_neg (fun q => h.1 (List.contains_iff_mem.mp q)), ddL_id h.2]
theorem w_lenT8 {ws : List Nat} {t : Tn} {Q : D → Tn → Prop} (h : IsF ws) (q : Q (.int 8) t) : W (pLenSetT (.tup ((List.range 8).map (compD ws))) t) Q := by
  show W ((match intsT ((List.range 8).map (compD ws)) with | some ms => if ms.length < 64 then ret (D.int (ddL ms).length) else stuck | none => stuck) t) Q
  rw [intsT_comp]
  have nd : ((List.range 8).map fun w => [((ws.getD w 0 : Nat) : Int), ((nrN ws w : Nat) : Int)]).Nodup := by
    have : ∀ l : List Nat, (∀ w ∈ l, w < 8) → l.Nodup → (l.map fun w => [((ws.getD w 0 : Nat) : Int), ((nrN ws w : Nat) : Int)]).Nodup := by
      intro l
      induction l with
      | nil => intro _ _; exact .nil
      | cons a l ih =>
        intro hl hn
        rw [List.nodup_cons] at hn
        rw [List.map_cons, List.nodup_cons]
        refine ⟨fun hm => ?_, ih (fun w hw => hl w (List.mem_cons_of_mem _ hw)) hn.2⟩
        obtain ⟨b, hb, e⟩ := List.mem_map.mp hm
        injection e with e1 e2
        injection e2 with e2 _
        exact hn.1 (by rw [← nr_inj h (hl b (List.mem_cons_of_mem _ hb)) (hl a (List.mem_cons_self ..)) (by omega) (by omega)]; exact hb)
    exact this _ (fun w hw => List.mem_range.mp hw) List.nodup_range
  show W ((if ((List.range 8).map fun w => [((ws.getD w 0 : Nat) : Int), ((nrN ws w : Nat) : Int)]).length < 64 then ret (D.int (ddL ((List.range 8).map fun w => [((ws.getD w 0 : Nat) : Int), ((nrN ws w : Nat) : Int)])).length) else stuck) t) Q
  rw [if_pos (by rw [List.length_map, List.length_range]; decide), ddL_id nd, List.length_map, List.length_range]
  exact q
theorem bits_eq {m : Int} (h1 : 1 ≤ m) (h8 : m ≤ 8) {S : Sl} (hl : S.length = 14) (h4 : S[4]? = some (.val (.int (fb m)))) (h6 : S[6]? = some (.val (.int m))) :
    eOr (eBin pGt (eVar 6) (eBin pIdx (eTup [(eC (.int 1)), (eC (.int 2)), (eC (.int 4)), (eC (.int 8))]) (eVar 4))) (eAnd (eBin pGt (eVar 4) (eC (.int 0))) (eBin pLe (eVar 6) (eBin pIdx (eTup [(eC (.int 1)), (eC (.int 2)), (eC (.int 4)), (eC (.int 8))]) (eBin pSub (eVar 4) (eC (.int 1)))))) S = ret (.bl false) := by
  match S, hl with
  | [s0, s1, s2, s3, s4, s5, s6, s7, s8, s9, s10, s11, s12, s13], _ =>
    have e4 : s4 = .val (.int (fb m)) := Option.some.inj h4
    have e6 : s6 = .val (.int m) := Option.some.inj h6
    subst e4 e6
    have : m = 1 ∨ m = 2 ∨ m = 3 ∨ m = 4 ∨ m = 5 ∨ m = 6 ∨ m = 7 ∨ m = 8 := by omega
    rcases this with rfl | rfl | rfl | rfl | rfl | rfl | rfl | rfl <;> with_unfolding_all rfl
theorem law_true (ns : List Int) (hl : ns.length ≤ 63) : ∃ t', f_law [.scr ns] none = some (.ok (.bl true) t') := by
  refine law_of ?_
  unfold f_law
  with_reducible refine w_fn ?_
  rw [show slots0 14 [D.scr ns] = [.val (.scr ns), .un, .un, .un, .un, .un, .un, .un, .un, .un, .un, .un, .un, .un] from rfl]
  unfold b_law
  have hsz := sizeL
  repeat (first | (with_reducible refine w_lbegun ?_) | (with_reducible first | refine w_seq ?_ | refine w_asg ?_ | refine w_asgP ?_ | refine pr_i ?_ | refine w_eqI ?_ | refine w_neI ?_ | refine w_own ?_ | refine w_par ?_ | refine w_parO ?_ | refine w_expr ?_ | refine w_if ?_ | refine w_sret ?_ | refine w_nil ?_ | refine w_for ?_ | refine w_bin ?_ | refine w_un ?_ | refine w_tup ?_ | refine w_lst ?_ | refine w_call ?_ | refine w_and ?_ | refine w_or ?_ | refine w_ife ?_ | refine w_chain ?_ | refine w_slice ?_ | refine w_oN ?_ | refine w_oS ?_ | refine w_comp ?_ | refine w_itSeq ?_ | refine w_itR ?_ | refine w_evnil ?_ | refine w_evcons ?_ | refine w_evc1 ?_ | refine w_evc0 ?_ | refine w_c ?_ | refine nx_nx ?_ | refine nx_ret ?_ | refine bl_i ?_ | refine in_i ?_ | refine sq_t ?_ | refine sq_l ?_ | refine ls_l ?_ | refine tp_t ?_ | refine w_not ?_ | refine w_addI ?_ | refine w_sub ?_ | refine w_xor ?_ | refine w_ltI ?_ | refine w_leI ?_ | refine w_gtI ?_ | refine w_geI ?_ | refine w_slT ?_ | refine w_slL ?_ | refine w_lenT ?_ | refine w_lenL ?_ | refine w_lenS ?_ | refine w_tupL ?_ | refine w_tupT ?_ | refine w_lstL ?_ | refine w_lstT ?_ | refine w_neg ?_ | refine w_isn ?_ | refine w_isnn ?_ | refine w_begun ?_ | refine w_ret ?_ | refine w_resE ?_) | (with_reducible refine w_var (by with_unfolding_all rfl) ?_) | (with_reducible refine w_peekV (by with_unfolding_all rfl) ?_) | (with_reducible refine w_peekO (by with_unfolding_all rfl) ?_) | (with_reducible refine w_app (by with_unfolding_all rfl) ?_) | (with_reducible refine w_frz (by with_unfolding_all rfl) ?_) | (with_reducible refine w_scr (by with_unfolding_all rfl) ?_) | (with_reducible refine w_tc (by with_unfolding_all rfl) ?_) | (with_reducible refine w_stc (by with_unfolding_all rfl) ?_) | (with_reducible refine w_tr (by with_unfolding_all rfl) ?_) | (with_reducible refine w_str (by with_unfolding_all rfl) ?_) | (with_reducible refine w_idxT (by with_unfolding_all rfl) ?_) | (with_reducible refine w_idxL (by with_unfolding_all rfl) ?_) | (with_reducible refine w_isi (by with_unfolding_all rfl) ?_) | ((with_reducible first | refine w_addT ?_ ?_ | refine w_addL ?_ ?_ | refine w_mulI ?_ ?_ | refine w_mulT ?_ ?_ | refine w_mulL ?_ ?_ | refine w_mod ?_ ?_ | refine w_div ?_ ?_ | refine w_pow ?_ ?_ | refine w_rng ?_ ?_); (first | decide | omega | (refine ⟨?_, ?_⟩ <;> omega) | (refine ⟨?_, ?_, ?_⟩ <;> omega) | (simp only [List.length_cons, List.length_nil, List.length_append, List.length_reverse, BL.cD_len, BL.iD_len, BL.mkx_len, BL.sizeL]; omega) | (refine ⟨List.cons_ne_nil _ _, ?_⟩; simp only [List.length_cons, List.length_nil]; omega))) | ((with_reducible first | refine w_eqD ?_ ?_ ?_ | refine w_neD ?_ ?_ ?_ | refine w_inT ?_ ?_ ?_ | refine w_inL ?_ ?_ ?_); (first | rfl | with_unfolding_all rfl); (first | rfl | with_unfolding_all rfl)) | ((with_reducible refine ift_of ?_ ?_); (with_unfolding_all rfl)) | ((with_reducible refine iff_of ?_ ?_); (with_unfolding_all rfl)) | ((with_reducible refine ift2_of ?_ ?_); (with_unfolding_all rfl)) | ((with_reducible refine iff2_of ?_ ?_); (with_unfolding_all rfl)) | ((with_reducible refine ift_of ?_ ?_); exact decide_eq_true (by omega)) | ((with_reducible refine iff_of ?_ ?_); exact decide_eq_false (by omega)) | ((with_reducible refine ift2_of ?_ ?_); exact decide_eq_true (by omega)) | ((with_reducible refine iff2_of ?_ ?_); exact decide_eq_false (by omega)))
  with_reducible refine and_ri (by decide) (by decide) ?_
  with_reducible refine w_forC (fun S t => ∃ x2 x3 x4 x5 x6 x7 x8 x9, S = [.val (.scr ns), .val .town, x2, x3, x4, x5, x6, x7, x8, x9, .un, .un, .un, .un] ∧ TOk t) ⟨_, _, _, _, _, _, _, _, rfl, .begun⟩ (fun k hk S t ⟨x2, x3, x4, x5, x6, x7, x8, x9, hS, ht⟩ => ?_) fun S t ⟨x2, x3, x4, x5, x6, x7, x8, x9, hS, ht⟩ => ?_
  · subst hS
    refine ⟨_, rfl, ?_⟩
    repeat (first | (with_reducible refine w_function hl ht fun ws t1 hf ht1 => ?_) | (with_reducible first | refine w_seq ?_ | refine w_asg ?_ | refine w_asgP ?_ | refine pr_i ?_ | refine w_eqI ?_ | refine w_neI ?_ | refine w_own ?_ | refine w_par ?_ | refine w_parO ?_ | refine w_expr ?_ | refine w_if ?_ | refine w_sret ?_ | refine w_nil ?_ | refine w_for ?_ | refine w_bin ?_ | refine w_un ?_ | refine w_tup ?_ | refine w_lst ?_ | refine w_call ?_ | refine w_and ?_ | refine w_or ?_ | refine w_ife ?_ | refine w_chain ?_ | refine w_slice ?_ | refine w_oN ?_ | refine w_oS ?_ | refine w_comp ?_ | refine w_itSeq ?_ | refine w_itR ?_ | refine w_evnil ?_ | refine w_evcons ?_ | refine w_evc1 ?_ | refine w_evc0 ?_ | refine w_c ?_ | refine nx_nx ?_ | refine nx_ret ?_ | refine bl_i ?_ | refine in_i ?_ | refine sq_t ?_ | refine sq_l ?_ | refine ls_l ?_ | refine tp_t ?_ | refine w_not ?_ | refine w_addI ?_ | refine w_sub ?_ | refine w_xor ?_ | refine w_ltI ?_ | refine w_leI ?_ | refine w_gtI ?_ | refine w_geI ?_ | refine w_slT ?_ | refine w_slL ?_ | refine w_lenT ?_ | refine w_lenL ?_ | refine w_lenS ?_ | refine w_tupL ?_ | refine w_tupT ?_ | refine w_lstL ?_ | refine w_lstT ?_ | refine w_neg ?_ | refine w_isn ?_ | refine w_isnn ?_ | refine w_begun ?_ | refine w_ret ?_ | refine w_resE ?_) | (with_reducible refine w_var (by with_unfolding_all rfl) ?_) | (with_reducible refine w_peekV (by with_unfolding_all rfl) ?_) | (with_reducible refine w_peekO (by with_unfolding_all rfl) ?_) | (with_reducible refine w_app (by with_unfolding_all rfl) ?_) | (with_reducible refine w_frz (by with_unfolding_all rfl) ?_) | (with_reducible refine w_scr (by with_unfolding_all rfl) ?_) | (with_reducible refine w_tc (by with_unfolding_all rfl) ?_) | (with_reducible refine w_stc (by with_unfolding_all rfl) ?_) | (with_reducible refine w_tr (by with_unfolding_all rfl) ?_) | (with_reducible refine w_str (by with_unfolding_all rfl) ?_) | (with_reducible refine w_idxT (by with_unfolding_all rfl) ?_) | (with_reducible refine w_idxL (by with_unfolding_all rfl) ?_) | (with_reducible refine w_isi (by with_unfolding_all rfl) ?_) | ((with_reducible first | refine w_addT ?_ ?_ | refine w_addL ?_ ?_ | refine w_mulI ?_ ?_ | refine w_mulT ?_ ?_ | refine w_mulL ?_ ?_ | refine w_mod ?_ ?_ | refine w_div ?_ ?_ | refine w_pow ?_ ?_ | refine w_rng ?_ ?_); (first | decide | omega | (refine ⟨?_, ?_⟩ <;> omega) | (refine ⟨?_, ?_, ?_⟩ <;> omega) | (simp only [List.length_cons, List.length_nil, List.length_append, List.length_reverse, BL.cD_len, BL.iD_len, BL.mkx_len, BL.sizeL]; omega) | (refine ⟨List.cons_ne_nil _ _, ?_⟩; simp only [List.length_cons, List.length_nil]; omega))) | ((with_reducible first | refine w_eqD ?_ ?_ ?_ | refine w_neD ?_ ?_ ?_ | refine w_inT ?_ ?_ ?_ | refine w_inL ?_ ?_ ?_); (first | rfl | with_unfolding_all rfl); (first | rfl | with_unfolding_all rfl)) | ((with_reducible refine ift_of ?_ ?_); (with_unfolding_all rfl)) | ((with_reducible refine iff_of ?_ ?_); (with_unfolding_all rfl)) | ((with_reducible refine ift2_of ?_ ?_); (with_unfolding_all rfl)) | ((with_reducible refine iff2_of ?_ ?_); (with_unfolding_all rfl)) | ((with_reducible refine ift_of ?_ ?_); exact decide_eq_true (by omega)) | ((with_reducible refine iff_of ?_ ?_); exact decide_eq_false (by omega)) | ((with_reducible refine ift2_of ?_ ?_); exact decide_eq_true (by omega)) | ((with_reducible refine iff2_of ?_ ?_); exact decide_eq_false (by omega)))
    have a1 := further_bits_eq hf
    have a2 := completed_eq hf
    have a3 := parts_eq hf
    have hvl := vals_le ws
    obtain ⟨⟨mv, mvm, mve⟩, mall, m1, m8⟩ := mxc_spec hf
    repeat (first | (with_reducible refine w_eq a1 ?_) | (with_reducible refine w_eq a2 ?_) | (with_reducible refine w_lenT8 hf ?_) | (with_reducible first | refine w_seq ?_ | refine w_asg ?_ | refine w_asgP ?_ | refine pr_i ?_ | refine w_eqI ?_ | refine w_neI ?_ | refine w_own ?_ | refine w_par ?_ | refine w_parO ?_ | refine w_expr ?_ | refine w_if ?_ | refine w_sret ?_ | refine w_nil ?_ | refine w_for ?_ | refine w_bin ?_ | refine w_un ?_ | refine w_tup ?_ | refine w_lst ?_ | refine w_call ?_ | refine w_and ?_ | refine w_or ?_ | refine w_ife ?_ | refine w_chain ?_ | refine w_slice ?_ | refine w_oN ?_ | refine w_oS ?_ | refine w_comp ?_ | refine w_itSeq ?_ | refine w_itR ?_ | refine w_evnil ?_ | refine w_evcons ?_ | refine w_evc1 ?_ | refine w_evc0 ?_ | refine w_c ?_ | refine nx_nx ?_ | refine nx_ret ?_ | refine bl_i ?_ | refine in_i ?_ | refine sq_t ?_ | refine sq_l ?_ | refine ls_l ?_ | refine tp_t ?_ | refine w_not ?_ | refine w_addI ?_ | refine w_sub ?_ | refine w_xor ?_ | refine w_ltI ?_ | refine w_leI ?_ | refine w_gtI ?_ | refine w_geI ?_ | refine w_slT ?_ | refine w_slL ?_ | refine w_lenT ?_ | refine w_lenL ?_ | refine w_lenS ?_ | refine w_tupL ?_ | refine w_tupT ?_ | refine w_lstL ?_ | refine w_lstT ?_ | refine w_neg ?_ | refine w_isn ?_ | refine w_isnn ?_ | refine w_begun ?_ | refine w_ret ?_ | refine w_resE ?_) | (with_reducible refine w_var (by with_unfolding_all rfl) ?_) | (with_reducible refine w_peekV (by with_unfolding_all rfl) ?_) | (with_reducible refine w_peekO (by with_unfolding_all rfl) ?_) | (with_reducible refine w_app (by with_unfolding_all rfl) ?_) | (with_reducible refine w_frz (by with_unfolding_all rfl) ?_) | (with_reducible refine w_scr (by with_unfolding_all rfl) ?_) | (with_reducible refine w_tc (by with_unfolding_all rfl) ?_) | (with_reducible refine w_stc (by with_unfolding_all rfl) ?_) | (with_reducible refine w_tr (by with_unfolding_all rfl) ?_) | (with_reducible refine w_str (by with_unfolding_all rfl) ?_) | (with_reducible refine w_idxT (by with_unfolding_all rfl) ?_) | (with_reducible refine w_idxL (by with_unfolding_all rfl) ?_) | (with_reducible refine w_isi (by with_unfolding_all rfl) ?_) | ((with_reducible first | refine w_addT ?_ ?_ | refine w_addL ?_ ?_ | refine w_mulI ?_ ?_ | refine w_mulT ?_ ?_ | refine w_mulL ?_ ?_ | refine w_mod ?_ ?_ | refine w_div ?_ ?_ | refine w_pow ?_ ?_ | refine w_rng ?_ ?_); (first | decide | omega | (refine ⟨?_, ?_⟩ <;> omega) | (refine ⟨?_, ?_, ?_⟩ <;> omega) | (simp only [List.length_cons, List.length_nil, List.length_append, List.length_reverse, BL.cD_len, BL.iD_len, BL.mkx_len, BL.sizeL]; omega) | (refine ⟨List.cons_ne_nil _ _, ?_⟩; simp only [List.length_cons, List.length_nil]; omega))) | ((with_reducible first | refine w_eqD ?_ ?_ ?_ | refine w_neD ?_ ?_ ?_ | refine w_inT ?_ ?_ ?_ | refine w_inL ?_ ?_ ?_); (first | rfl | with_unfolding_all rfl); (first | rfl | with_unfolding_all rfl)) | ((with_reducible refine ift_of ?_ ?_); (with_unfolding_all rfl)) | ((with_reducible refine iff_of ?_ ?_); (with_unfolding_all rfl)) | ((with_reducible refine ift2_of ?_ ?_); (with_unfolding_all rfl)) | ((with_reducible refine iff2_of ?_ ?_); (with_unfolding_all rfl)) | ((with_reducible refine ift_of ?_ ?_); exact decide_eq_true (by omega)) | ((with_reducible refine iff_of ?_ ?_); exact decide_eq_false (by omega)) | ((with_reducible refine ift2_of ?_ ?_); exact decide_eq_true (by omega)) | ((with_reducible refine iff2_of ?_ ?_); exact decide_eq_false (by omega)))
    with_reducible refine and_le (by rw [List.length_map, List.length_range, hsz]; decide) ?_
    refine w_cmpM (fun d => match d with | .tup [x, _] => x | _ => .non) (fun d hd => ?_) ?_
    · obtain ⟨w, hw, rfl⟩ := List.mem_map.mp hd
      exact ⟨_, rfl, rfl⟩
    have ef : ((List.range 8).map (compD ws)).map (fun d => match d with | .tup [x, _] => x | _ => .non) = iD ws := by
      have e := congrArg iD (get_range hf)
      unfold iD at e ⊢
      rw [← e, List.map_map, List.map_map]
      rfl
    rw [ef]
    repeat (first | (with_reducible refine w_ne_no rfl (ok_iL _) (nb_iL _) ?_) | (with_reducible first | refine w_seq ?_ | refine w_asg ?_ | refine w_asgP ?_ | refine pr_i ?_ | refine w_eqI ?_ | refine w_neI ?_ | refine w_own ?_ | refine w_par ?_ | refine w_parO ?_ | refine w_expr ?_ | refine w_if ?_ | refine w_sret ?_ | refine w_nil ?_ | refine w_for ?_ | refine w_bin ?_ | refine w_un ?_ | refine w_tup ?_ | refine w_lst ?_ | refine w_call ?_ | refine w_and ?_ | refine w_or ?_ | refine w_ife ?_ | refine w_chain ?_ | refine w_slice ?_ | refine w_oN ?_ | refine w_oS ?_ | refine w_comp ?_ | refine w_itSeq ?_ | refine w_itR ?_ | refine w_evnil ?_ | refine w_evcons ?_ | refine w_evc1 ?_ | refine w_evc0 ?_ | refine w_c ?_ | refine nx_nx ?_ | refine nx_ret ?_ | refine bl_i ?_ | refine in_i ?_ | refine sq_t ?_ | refine sq_l ?_ | refine ls_l ?_ | refine tp_t ?_ | refine w_not ?_ | refine w_addI ?_ | refine w_sub ?_ | refine w_xor ?_ | refine w_ltI ?_ | refine w_leI ?_ | refine w_gtI ?_ | refine w_geI ?_ | refine w_slT ?_ | refine w_slL ?_ | refine w_lenT ?_ | refine w_lenL ?_ | refine w_lenS ?_ | refine w_tupL ?_ | refine w_tupT ?_ | refine w_lstL ?_ | refine w_lstT ?_ | refine w_neg ?_ | refine w_isn ?_ | refine w_isnn ?_ | refine w_begun ?_ | refine w_ret ?_ | refine w_resE ?_) | (with_reducible refine w_var (by with_unfolding_all rfl) ?_) | (with_reducible refine w_peekV (by with_unfolding_all rfl) ?_) | (with_reducible refine w_peekO (by with_unfolding_all rfl) ?_) | (with_reducible refine w_app (by with_unfolding_all rfl) ?_) | (with_reducible refine w_frz (by with_unfolding_all rfl) ?_) | (with_reducible refine w_scr (by with_unfolding_all rfl) ?_) | (with_reducible refine w_tc (by with_unfolding_all rfl) ?_) | (with_reducible refine w_stc (by with_unfolding_all rfl) ?_) | (with_reducible refine w_tr (by with_unfolding_all rfl) ?_) | (with_reducible refine w_str (by with_unfolding_all rfl) ?_) | (with_reducible refine w_idxT (by with_unfolding_all rfl) ?_) | (with_reducible refine w_idxL (by with_unfolding_all rfl) ?_) | (with_reducible refine w_isi (by with_unfolding_all rfl) ?_) | ((with_reducible first | refine w_addT ?_ ?_ | refine w_addL ?_ ?_ | refine w_mulI ?_ ?_ | refine w_mulT ?_ ?_ | refine w_mulL ?_ ?_ | refine w_mod ?_ ?_ | refine w_div ?_ ?_ | refine w_pow ?_ ?_ | refine w_rng ?_ ?_); (first | decide | omega | (refine ⟨?_, ?_⟩ <;> omega) | (refine ⟨?_, ?_, ?_⟩ <;> omega) | (simp only [List.length_cons, List.length_nil, List.length_append, List.length_reverse, BL.cD_len, BL.iD_len, BL.mkx_len, BL.sizeL]; omega) | (refine ⟨List.cons_ne_nil _ _, ?_⟩; simp only [List.length_cons, List.length_nil]; omega))) | ((with_reducible first | refine w_eqD ?_ ?_ ?_ | refine w_neD ?_ ?_ ?_ | refine w_inT ?_ ?_ ?_ | refine w_inL ?_ ?_ ?_); (first | rfl | with_unfolding_all rfl); (first | rfl | with_unfolding_all rfl)) | ((with_reducible refine ift_of ?_ ?_); (with_unfolding_all rfl)) | ((with_reducible refine iff_of ?_ ?_); (with_unfolding_all rfl)) | ((with_reducible refine ift2_of ?_ ?_); (with_unfolding_all rfl)) | ((with_reducible refine iff2_of ?_ ?_); (with_unfolding_all rfl)) | ((with_reducible refine ift_of ?_ ?_); exact decide_eq_true (by omega)) | ((with_reducible refine iff_of ?_ ?_); exact decide_eq_false (by omega)) | ((with_reducible refine ift2_of ?_ ?_); exact decide_eq_true (by omega)) | ((with_reducible refine iff2_of ?_ ?_); exact decide_eq_false (by omega)))
    with_reducible refine and_le (by rw [List.length_map, List.length_range, hsz]; decide) ?_
    refine w_cmpM (fun d => match d with | .tup [_, x] => x | _ => .non) (fun d hd => ?_) ?_
    · obtain ⟨w, hw, rfl⟩ := List.mem_map.mp hd
      exact ⟨_, rfl, rfl⟩
    have en : ((List.range 8).map (compD ws)).map (fun d => match d with | .tup [_, x] => x | _ => .non) = iD ((List.range 8).map (nrN ws)) := by
      unfold iD; rw [List.map_map, List.map_map]; rfl
    rw [en]
    have ei : intsD (iD ((List.range 8).map (nrN ws))) = some (((nrN ws 0 : Nat) : Int) :: ((List.range' 1 7).map fun w => ((nrN ws w : Nat) : Int))) := by rw [intsD_iD]; rfl
    refine w_max ei ?_
    have emax : maxI ((nrN ws 0 : Nat) : Int) ((List.range' 1 7).map fun w => ((nrN ws w : Nat) : Int)) = mxc ws - 1 := by
      have el : (((nrN ws 0 : Nat) : Int) :: ((List.range' 1 7).map fun w => ((nrN ws w : Nat) : Int))) = (List.range 8).map fun w => ((nrN ws w : Nat) : Int) := rfl
      refine maxI_eq ?_ fun y hy => ?_
      · rw [el]
        have : ws.count mv - 1 ∈ (posN ws mv).map (nrN ws) := by rw [nr_pos hf, List.mem_range]; omega
        obtain ⟨w, hw, e⟩ := List.mem_map.mp this
        exact List.mem_map.mpr ⟨w, List.mem_range.mpr (mem_pos.mp hw).1, by omega⟩
      · rw [el] at hy
        obtain ⟨w, hw, rfl⟩ := List.mem_map.mp hy
        have h1 := nr_lt hf (List.mem_range.mp hw)
        have h2 := mall (ws.getD w 0)
        omega
    rw [emax]
    refine w_c (w_addI ?_)
    rw [show mxc ws - 1 + 1 = mxc ws by omega]
    with_reducible refine nx_nx ?_
    dsimp only [List.set]
    with_reducible refine w_seq ?_
    with_reducible refine w_if ?_
    refine W.mono (Q := fun d t => d = .bl false ∧ t = t1) (w_eq (bits_eq m1 m8 rfl rfl rfl) ⟨rfl, rfl⟩) fun d t ⟨e1, e2⟩ => ?_
    subst e1 e2
    have b1 := isx_eq hf
    have ne : ∀ {b : Bool} {t : Tn} {Q : D → Tn → Prop}, Q (.bl false) t → W (pNe (.bl b) (.bl b) t) Q := fun {b t Q} h => by cases b <;> exact h
    repeat (first | (with_reducible refine w_eq b1 ?_) | (with_reducible refine ne ?_) | (with_reducible refine w_eq a3 ?_) | (with_reducible first | refine w_seq ?_ | refine w_asg ?_ | refine w_asgP ?_ | refine pr_i ?_ | refine w_eqI ?_ | refine w_neI ?_ | refine w_own ?_ | refine w_par ?_ | refine w_parO ?_ | refine w_expr ?_ | refine w_if ?_ | refine w_sret ?_ | refine w_nil ?_ | refine w_for ?_ | refine w_bin ?_ | refine w_un ?_ | refine w_tup ?_ | refine w_lst ?_ | refine w_call ?_ | refine w_and ?_ | refine w_or ?_ | refine w_ife ?_ | refine w_chain ?_ | refine w_slice ?_ | refine w_oN ?_ | refine w_oS ?_ | refine w_comp ?_ | refine w_itSeq ?_ | refine w_itR ?_ | refine w_evnil ?_ | refine w_evcons ?_ | refine w_evc1 ?_ | refine w_evc0 ?_ | refine w_c ?_ | refine nx_nx ?_ | refine nx_ret ?_ | refine bl_i ?_ | refine in_i ?_ | refine sq_t ?_ | refine sq_l ?_ | refine ls_l ?_ | refine tp_t ?_ | refine w_not ?_ | refine w_addI ?_ | refine w_sub ?_ | refine w_xor ?_ | refine w_ltI ?_ | refine w_leI ?_ | refine w_gtI ?_ | refine w_geI ?_ | refine w_slT ?_ | refine w_slL ?_ | refine w_lenT ?_ | refine w_lenL ?_ | refine w_lenS ?_ | refine w_tupL ?_ | refine w_tupT ?_ | refine w_lstL ?_ | refine w_lstT ?_ | refine w_neg ?_ | refine w_isn ?_ | refine w_isnn ?_ | refine w_begun ?_ | refine w_ret ?_ | refine w_resE ?_) | (with_reducible refine w_var (by with_unfolding_all rfl) ?_) | (with_reducible refine w_peekV (by with_unfolding_all rfl) ?_) | (with_reducible refine w_peekO (by with_unfolding_all rfl) ?_) | (with_reducible refine w_app (by with_unfolding_all rfl) ?_) | (with_reducible refine w_frz (by with_unfolding_all rfl) ?_) | (with_reducible refine w_scr (by with_unfolding_all rfl) ?_) | (with_reducible refine w_tc (by with_unfolding_all rfl) ?_) | (with_reducible refine w_stc (by with_unfolding_all rfl) ?_) | (with_reducible refine w_tr (by with_unfolding_all rfl) ?_) | (with_reducible refine w_str (by with_unfolding_all rfl) ?_) | (with_reducible refine w_idxT (by with_unfolding_all rfl) ?_) | (with_reducible refine w_idxL (by with_unfolding_all rfl) ?_) | (with_reducible refine w_isi (by with_unfolding_all rfl) ?_) | ((with_reducible first | refine w_addT ?_ ?_ | refine w_addL ?_ ?_ | refine w_mulI ?_ ?_ | refine w_mulT ?_ ?_ | refine w_mulL ?_ ?_ | refine w_mod ?_ ?_ | refine w_div ?_ ?_ | refine w_pow ?_ ?_ | refine w_rng ?_ ?_); (first | decide | omega | (refine ⟨?_, ?_⟩ <;> omega) | (refine ⟨?_, ?_, ?_⟩ <;> omega) | (simp only [List.length_cons, List.length_nil, List.length_append, List.length_reverse, BL.cD_len, BL.iD_len, BL.mkx_len, BL.sizeL]; omega) | (refine ⟨List.cons_ne_nil _ _, ?_⟩; simp only [List.length_cons, List.length_nil]; omega))) | ((with_reducible first | refine w_eqD ?_ ?_ ?_ | refine w_neD ?_ ?_ ?_ | refine w_inT ?_ ?_ ?_ | refine w_inL ?_ ?_ ?_); (first | rfl | with_unfolding_all rfl); (first | rfl | with_unfolding_all rfl)) | ((with_reducible refine ift_of ?_ ?_); (with_unfolding_all rfl)) | ((with_reducible refine iff_of ?_ ?_); (with_unfolding_all rfl)) | ((with_reducible refine ift2_of ?_ ?_); (with_unfolding_all rfl)) | ((with_reducible refine iff2_of ?_ ?_); (with_unfolding_all rfl)) | ((with_reducible refine ift_of ?_ ?_); exact decide_eq_true (by omega)) | ((with_reducible refine iff_of ?_ ?_); exact decide_eq_false (by omega)) | ((with_reducible refine ift2_of ?_ ?_); exact decide_eq_true (by omega)) | ((with_reducible refine iff2_of ?_ ?_); exact decide_eq_false (by omega)))
    with_reducible refine and_le (by rw [List.length_map, hsz]; omega) ?_
    refine w_cmpM (fun d => match d with | .tup [.int z, _] => .int ((ws.count z.toNat : Nat) : Int) | _ => .non) (fun d hd => ?_) ?_
    · obtain ⟨v, hv, rfl⟩ := List.mem_map.mp hd
      refine ⟨_, rfl, eq_of_W fun t => ?_⟩
      repeat (first | (with_reducible first | refine w_seq ?_ | refine w_asg ?_ | refine w_asgP ?_ | refine pr_i ?_ | refine w_eqI ?_ | refine w_neI ?_ | refine w_own ?_ | refine w_par ?_ | refine w_parO ?_ | refine w_expr ?_ | refine w_if ?_ | refine w_sret ?_ | refine w_nil ?_ | refine w_for ?_ | refine w_bin ?_ | refine w_un ?_ | refine w_tup ?_ | refine w_lst ?_ | refine w_call ?_ | refine w_and ?_ | refine w_or ?_ | refine w_ife ?_ | refine w_chain ?_ | refine w_slice ?_ | refine w_oN ?_ | refine w_oS ?_ | refine w_comp ?_ | refine w_itSeq ?_ | refine w_itR ?_ | refine w_evnil ?_ | refine w_evcons ?_ | refine w_evc1 ?_ | refine w_evc0 ?_ | refine w_c ?_ | refine nx_nx ?_ | refine nx_ret ?_ | refine bl_i ?_ | refine in_i ?_ | refine sq_t ?_ | refine sq_l ?_ | refine ls_l ?_ | refine tp_t ?_ | refine w_not ?_ | refine w_addI ?_ | refine w_sub ?_ | refine w_xor ?_ | refine w_ltI ?_ | refine w_leI ?_ | refine w_gtI ?_ | refine w_geI ?_ | refine w_slT ?_ | refine w_slL ?_ | refine w_lenT ?_ | refine w_lenL ?_ | refine w_lenS ?_ | refine w_tupL ?_ | refine w_tupT ?_ | refine w_lstL ?_ | refine w_lstT ?_ | refine w_neg ?_ | refine w_isn ?_ | refine w_isnn ?_ | refine w_begun ?_ | refine w_ret ?_ | refine w_resE ?_) | (with_reducible refine w_var (by with_unfolding_all rfl) ?_) | (with_reducible refine w_peekV (by with_unfolding_all rfl) ?_) | (with_reducible refine w_peekO (by with_unfolding_all rfl) ?_) | (with_reducible refine w_app (by with_unfolding_all rfl) ?_) | (with_reducible refine w_frz (by with_unfolding_all rfl) ?_) | (with_reducible refine w_scr (by with_unfolding_all rfl) ?_) | (with_reducible refine w_tc (by with_unfolding_all rfl) ?_) | (with_reducible refine w_stc (by with_unfolding_all rfl) ?_) | (with_reducible refine w_tr (by with_unfolding_all rfl) ?_) | (with_reducible refine w_str (by with_unfolding_all rfl) ?_) | (with_reducible refine w_idxT (by with_unfolding_all rfl) ?_) | (with_reducible refine w_idxL (by with_unfolding_all rfl) ?_) | (with_reducible refine w_isi (by with_unfolding_all rfl) ?_) | ((with_reducible first | refine w_addT ?_ ?_ | refine w_addL ?_ ?_ | refine w_mulI ?_ ?_ | refine w_mulT ?_ ?_ | refine w_mulL ?_ ?_ | refine w_mod ?_ ?_ | refine w_div ?_ ?_ | refine w_pow ?_ ?_ | refine w_rng ?_ ?_); (first | decide | omega | (refine ⟨?_, ?_⟩ <;> omega) | (refine ⟨?_, ?_, ?_⟩ <;> omega) | (simp only [List.length_cons, List.length_nil, List.length_append, List.length_reverse, BL.cD_len, BL.iD_len, BL.mkx_len, BL.sizeL]; omega) | (refine ⟨List.cons_ne_nil _ _, ?_⟩; simp only [List.length_cons, List.length_nil]; omega))) | ((with_reducible first | refine w_eqD ?_ ?_ ?_ | refine w_neD ?_ ?_ ?_ | refine w_inT ?_ ?_ ?_ | refine w_inL ?_ ?_ ?_); (first | rfl | with_unfolding_all rfl); (first | rfl | with_unfolding_all rfl)) | ((with_reducible refine ift_of ?_ ?_); (with_unfolding_all rfl)) | ((with_reducible refine iff_of ?_ ?_); (with_unfolding_all rfl)) | ((with_reducible refine ift2_of ?_ ?_); (with_unfolding_all rfl)) | ((with_reducible refine iff2_of ?_ ?_); (with_unfolding_all rfl)) | ((with_reducible refine ift_of ?_ ?_); exact decide_eq_true (by omega)) | ((with_reducible refine iff_of ?_ ?_); exact decide_eq_false (by omega)) | ((with_reducible refine ift2_of ?_ ?_); exact decide_eq_true (by omega)) | ((with_reducible refine iff2_of ?_ ?_); exact decide_eq_false (by omega)))
      refine ⟨?_, rfl⟩
      show _ = D.int ((ws.count ((v : Int).toNat) : Nat) : Int)
      rw [Int.toNat_natCast, iD_len, posN_len hf]
    have ec : ((valsN ws).map (partD ws)).map (fun d => match d with | .tup [.int z, _] => D.int ((ws.count z.toNat : Nat) : Int) | _ => .non) = iD ((valsN ws).map fun v => ws.count v) := by
      unfold iD
      rw [List.map_map, List.map_map]
      refine List.map_congr_left fun v _ => ?_
      show D.int ((ws.count ((v : Int).toNat) : Nat) : Int) = _
      rw [Int.toNat_natCast]; rfl
    rw [ec]
    cases hv : valsN ws with
    | nil => have := (mem_vals hf).mpr mvm; rw [hv] at this; cases this
    | cons v0 vr =>
    have ei2 : intsD (iD ((v0 :: vr).map fun v => ws.count v)) = some (((ws.count v0 : Nat) : Int) :: (vr.map fun v => ((ws.count v : Nat) : Int))) := by rw [intsD_iD, List.map_map]; rfl
    refine w_max ei2 ?_
    have emax2 : maxI ((ws.count v0 : Nat) : Int) (vr.map fun v => ((ws.count v : Nat) : Int)) = mxc ws := by
      have el : (((ws.count v0 : Nat) : Int) :: (vr.map fun v => ((ws.count v : Nat) : Int))) = (valsN ws).map fun v => ((ws.count v : Nat) : Int) := by rw [hv]; rfl
      refine maxI_eq ?_ fun y hy => ?_
      · rw [el]
        exact List.mem_map.mpr ⟨mv, (mem_vals hf).mpr mvm, mve.symm⟩
      · rw [el] at hy
        obtain ⟨v, _, rfl⟩ := List.mem_map.mp hy
        exact mall v
    rw [emax2]
    repeat (first | (with_reducible refine w_exchange hl ht1 fun xs t2 hx ht2 => ?_) | (with_reducible first | refine w_seq ?_ | refine w_asg ?_ | refine w_asgP ?_ | refine pr_i ?_ | refine w_eqI ?_ | refine w_neI ?_ | refine w_own ?_ | refine w_par ?_ | refine w_parO ?_ | refine w_expr ?_ | refine w_if ?_ | refine w_sret ?_ | refine w_nil ?_ | refine w_for ?_ | refine w_bin ?_ | refine w_un ?_ | refine w_tup ?_ | refine w_lst ?_ | refine w_call ?_ | refine w_and ?_ | refine w_or ?_ | refine w_ife ?_ | refine w_chain ?_ | refine w_slice ?_ | refine w_oN ?_ | refine w_oS ?_ | refine w_comp ?_ | refine w_itSeq ?_ | refine w_itR ?_ | refine w_evnil ?_ | refine w_evcons ?_ | refine w_evc1 ?_ | refine w_evc0 ?_ | refine w_c ?_ | refine nx_nx ?_ | refine nx_ret ?_ | refine bl_i ?_ | refine in_i ?_ | refine sq_t ?_ | refine sq_l ?_ | refine ls_l ?_ | refine tp_t ?_ | refine w_not ?_ | refine w_addI ?_ | refine w_sub ?_ | refine w_xor ?_ | refine w_ltI ?_ | refine w_leI ?_ | refine w_gtI ?_ | refine w_geI ?_ | refine w_slT ?_ | refine w_slL ?_ | refine w_lenT ?_ | refine w_lenL ?_ | refine w_lenS ?_ | refine w_tupL ?_ | refine w_tupT ?_ | refine w_lstL ?_ | refine w_lstT ?_ | refine w_neg ?_ | refine w_isn ?_ | refine w_isnn ?_ | refine w_begun ?_ | refine w_ret ?_ | refine w_resE ?_) | (with_reducible refine w_var (by with_unfolding_all rfl) ?_) | (with_reducible refine w_peekV (by with_unfolding_all rfl) ?_) | (with_reducible refine w_peekO (by with_unfolding_all rfl) ?_) | (with_reducible refine w_app (by with_unfolding_all rfl) ?_) | (with_reducible refine w_frz (by with_unfolding_all rfl) ?_) | (with_reducible refine w_scr (by with_unfolding_all rfl) ?_) | (with_reducible refine w_tc (by with_unfolding_all rfl) ?_) | (with_reducible refine w_stc (by with_unfolding_all rfl) ?_) | (with_reducible refine w_tr (by with_unfolding_all rfl) ?_) | (with_reducible refine w_str (by with_unfolding_all rfl) ?_) | (with_reducible refine w_idxT (by with_unfolding_all rfl) ?_) | (with_reducible refine w_idxL (by with_unfolding_all rfl) ?_) | (with_reducible refine w_isi (by with_unfolding_all rfl) ?_) | ((with_reducible first | refine w_addT ?_ ?_ | refine w_addL ?_ ?_ | refine w_mulI ?_ ?_ | refine w_mulT ?_ ?_ | refine w_mulL ?_ ?_ | refine w_mod ?_ ?_ | refine w_div ?_ ?_ | refine w_pow ?_ ?_ | refine w_rng ?_ ?_); (first | decide | omega | (refine ⟨?_, ?_⟩ <;> omega) | (refine ⟨?_, ?_, ?_⟩ <;> omega) | (simp only [List.length_cons, List.length_nil, List.length_append, List.length_reverse, BL.cD_len, BL.iD_len, BL.mkx_len, BL.sizeL]; omega) | (refine ⟨List.cons_ne_nil _ _, ?_⟩; simp only [List.length_cons, List.length_nil]; omega))) | ((with_reducible first | refine w_eqD ?_ ?_ ?_ | refine w_neD ?_ ?_ ?_ | refine w_inT ?_ ?_ ?_ | refine w_inL ?_ ?_ ?_); (first | rfl | with_unfolding_all rfl); (first | rfl | with_unfolding_all rfl)) | ((with_reducible refine ift_of ?_ ?_); (with_unfolding_all rfl)) | ((with_reducible refine iff_of ?_ ?_); (with_unfolding_all rfl)) | ((with_reducible refine ift2_of ?_ ?_); (with_unfolding_all rfl)) | ((with_reducible refine iff2_of ?_ ?_); (with_unfolding_all rfl)) | ((with_reducible refine ift_of ?_ ?_); exact decide_eq_true (by omega)) | ((with_reducible refine iff_of ?_ ?_); exact decide_eq_false (by omega)) | ((with_reducible refine ift2_of ?_ ?_); exact decide_eq_true (by omega)) | ((with_reducible refine iff2_of ?_ ?_); exact decide_eq_false (by omega)))
    have hx : IsX xs := hx
    have af := ahead_f hf hx
    have bf := behind_f hf hx
    have hf8 : ws.length = 8 := hf.1
    have hfl : ∀ w ∈ ws, w < 8 := hf.2
    with_reducible refine and_le (by rw [iD_len, hx.len, hsz]; decide) ?_
    refine w_cmpM (fun d => match d with | .int z => .int ((ws.getD z.toNat 0 : Nat) : Int) | _ => .non) (fun d hd => ?_) ?_
    · obtain ⟨w, hw, rfl⟩ := mem_iD hd
      refine ⟨_, rfl, eq_of_W fun t => ?_⟩
      repeat (first | (with_reducible refine w_idxT (atI_iD (getF hf (hx.lt hw))) ?_) | (with_reducible first | refine w_seq ?_ | refine w_asg ?_ | refine w_asgP ?_ | refine pr_i ?_ | refine w_eqI ?_ | refine w_neI ?_ | refine w_own ?_ | refine w_par ?_ | refine w_parO ?_ | refine w_expr ?_ | refine w_if ?_ | refine w_sret ?_ | refine w_nil ?_ | refine w_for ?_ | refine w_bin ?_ | refine w_un ?_ | refine w_tup ?_ | refine w_lst ?_ | refine w_call ?_ | refine w_and ?_ | refine w_or ?_ | refine w_ife ?_ | refine w_chain ?_ | refine w_slice ?_ | refine w_oN ?_ | refine w_oS ?_ | refine w_comp ?_ | refine w_itSeq ?_ | refine w_itR ?_ | refine w_evnil ?_ | refine w_evcons ?_ | refine w_evc1 ?_ | refine w_evc0 ?_ | refine w_c ?_ | refine nx_nx ?_ | refine nx_ret ?_ | refine bl_i ?_ | refine in_i ?_ | refine sq_t ?_ | refine sq_l ?_ | refine ls_l ?_ | refine tp_t ?_ | refine w_not ?_ | refine w_addI ?_ | refine w_sub ?_ | refine w_xor ?_ | refine w_ltI ?_ | refine w_leI ?_ | refine w_gtI ?_ | refine w_geI ?_ | refine w_slT ?_ | refine w_slL ?_ | refine w_lenT ?_ | refine w_lenL ?_ | refine w_lenS ?_ | refine w_tupL ?_ | refine w_tupT ?_ | refine w_lstL ?_ | refine w_lstT ?_ | refine w_neg ?_ | refine w_isn ?_ | refine w_isnn ?_ | refine w_begun ?_ | refine w_ret ?_ | refine w_resE ?_) | (with_reducible refine w_var (by with_unfolding_all rfl) ?_) | (with_reducible refine w_peekV (by with_unfolding_all rfl) ?_) | (with_reducible refine w_peekO (by with_unfolding_all rfl) ?_) | (with_reducible refine w_app (by with_unfolding_all rfl) ?_) | (with_reducible refine w_frz (by with_unfolding_all rfl) ?_) | (with_reducible refine w_scr (by with_unfolding_all rfl) ?_) | (with_reducible refine w_tc (by with_unfolding_all rfl) ?_) | (with_reducible refine w_stc (by with_unfolding_all rfl) ?_) | (with_reducible refine w_tr (by with_unfolding_all rfl) ?_) | (with_reducible refine w_str (by with_unfolding_all rfl) ?_) | (with_reducible refine w_idxT (by with_unfolding_all rfl) ?_) | (with_reducible refine w_idxL (by with_unfolding_all rfl) ?_) | (with_reducible refine w_isi (by with_unfolding_all rfl) ?_) | ((with_reducible first | refine w_addT ?_ ?_ | refine w_addL ?_ ?_ | refine w_mulI ?_ ?_ | refine w_mulT ?_ ?_ | refine w_mulL ?_ ?_ | refine w_mod ?_ ?_ | refine w_div ?_ ?_ | refine w_pow ?_ ?_ | refine w_rng ?_ ?_); (first | decide | omega | (refine ⟨?_, ?_⟩ <;> omega) | (refine ⟨?_, ?_, ?_⟩ <;> omega) | (simp only [List.length_cons, List.length_nil, List.length_append, List.length_reverse, BL.cD_len, BL.iD_len, BL.mkx_len, BL.sizeL]; omega) | (refine ⟨List.cons_ne_nil _ _, ?_⟩; simp only [List.length_cons, List.length_nil]; omega))) | ((with_reducible first | refine w_eqD ?_ ?_ ?_ | refine w_neD ?_ ?_ ?_ | refine w_inT ?_ ?_ ?_ | refine w_inL ?_ ?_ ?_); (first | rfl | with_unfolding_all rfl); (first | rfl | with_unfolding_all rfl)) | ((with_reducible refine ift_of ?_ ?_); (with_unfolding_all rfl)) | ((with_reducible refine iff_of ?_ ?_); (with_unfolding_all rfl)) | ((with_reducible refine ift2_of ?_ ?_); (with_unfolding_all rfl)) | ((with_reducible refine iff2_of ?_ ?_); (with_unfolding_all rfl)) | ((with_reducible refine ift_of ?_ ?_); exact decide_eq_true (by omega)) | ((with_reducible refine iff_of ?_ ?_); exact decide_eq_false (by omega)) | ((with_reducible refine ift2_of ?_ ?_); exact decide_eq_true (by omega)) | ((with_reducible refine iff2_of ?_ ?_); exact decide_eq_false (by omega)))
      exact ⟨by show _ = D.int ((ws.getD ((w : Int).toNat) 0 : Nat) : Int); rw [Int.toNat_natCast], rfl⟩
    have ea : (iD xs).map (fun d => match d with | .int z => D.int ((ws.getD z.toNat 0 : Nat) : Int) | _ => .non) = iD (xs.map fun w => ws.getD w 0) := by
      unfold iD
      rw [List.map_map, List.map_map]
      refine List.map_congr_left fun w _ => ?_
      show D.int ((ws.getD ((w : Int).toNat) 0 : Nat) : Int) = _
      rw [Int.toNat_natCast]; rfl
    rw [ea]
    repeat (first | (with_reducible first | refine w_seq ?_ | refine w_asg ?_ | refine w_asgP ?_ | refine pr_i ?_ | refine w_eqI ?_ | refine w_neI ?_ | refine w_own ?_ | refine w_par ?_ | refine w_parO ?_ | refine w_expr ?_ | refine w_if ?_ | refine w_sret ?_ | refine w_nil ?_ | refine w_for ?_ | refine w_bin ?_ | refine w_un ?_ | refine w_tup ?_ | refine w_lst ?_ | refine w_call ?_ | refine w_and ?_ | refine w_or ?_ | refine w_ife ?_ | refine w_chain ?_ | refine w_slice ?_ | refine w_oN ?_ | refine w_oS ?_ | refine w_comp ?_ | refine w_itSeq ?_ | refine w_itR ?_ | refine w_evnil ?_ | refine w_evcons ?_ | refine w_evc1 ?_ | refine w_evc0 ?_ | refine w_c ?_ | refine nx_nx ?_ | refine nx_ret ?_ | refine bl_i ?_ | refine in_i ?_ | refine sq_t ?_ | refine sq_l ?_ | refine ls_l ?_ | refine tp_t ?_ | refine w_not ?_ | refine w_addI ?_ | refine w_sub ?_ | refine w_xor ?_ | refine w_ltI ?_ | refine w_leI ?_ | refine w_gtI ?_ | refine w_geI ?_ | refine w_slT ?_ | refine w_slL ?_ | refine w_lenT ?_ | refine w_lenL ?_ | refine w_lenS ?_ | refine w_tupL ?_ | refine w_tupT ?_ | refine w_lstL ?_ | refine w_lstT ?_ | refine w_neg ?_ | refine w_isn ?_ | refine w_isnn ?_ | refine w_begun ?_ | refine w_ret ?_ | refine w_resE ?_) | (with_reducible refine w_var (by with_unfolding_all rfl) ?_) | (with_reducible refine w_peekV (by with_unfolding_all rfl) ?_) | (with_reducible refine w_peekO (by with_unfolding_all rfl) ?_) | (with_reducible refine w_app (by with_unfolding_all rfl) ?_) | (with_reducible refine w_frz (by with_unfolding_all rfl) ?_) | (with_reducible refine w_scr (by with_unfolding_all rfl) ?_) | (with_reducible refine w_tc (by with_unfolding_all rfl) ?_) | (with_reducible refine w_stc (by with_unfolding_all rfl) ?_) | (with_reducible refine w_tr (by with_unfolding_all rfl) ?_) | (with_reducible refine w_str (by with_unfolding_all rfl) ?_) | (with_reducible refine w_idxT (by with_unfolding_all rfl) ?_) | (with_reducible refine w_idxL (by with_unfolding_all rfl) ?_) | (with_reducible refine w_isi (by with_unfolding_all rfl) ?_) | ((with_reducible first | refine w_addT ?_ ?_ | refine w_addL ?_ ?_ | refine w_mulI ?_ ?_ | refine w_mulT ?_ ?_ | refine w_mulL ?_ ?_ | refine w_mod ?_ ?_ | refine w_div ?_ ?_ | refine w_pow ?_ ?_ | refine w_rng ?_ ?_); (first | decide | omega | (refine ⟨?_, ?_⟩ <;> omega) | (refine ⟨?_, ?_, ?_⟩ <;> omega) | (simp only [List.length_cons, List.length_nil, List.length_append, List.length_reverse, BL.cD_len, BL.iD_len, BL.mkx_len, BL.sizeL]; omega) | (refine ⟨List.cons_ne_nil _ _, ?_⟩; simp only [List.length_cons, List.length_nil]; omega))) | ((with_reducible first | refine w_eqD ?_ ?_ ?_ | refine w_neD ?_ ?_ ?_ | refine w_inT ?_ ?_ ?_ | refine w_inL ?_ ?_ ?_); (first | rfl | with_unfolding_all rfl); (first | rfl | with_unfolding_all rfl)) | ((with_reducible refine ift_of ?_ ?_); (with_unfolding_all rfl)) | ((with_reducible refine iff_of ?_ ?_); (with_unfolding_all rfl)) | ((with_reducible refine ift2_of ?_ ?_); (with_unfolding_all rfl)) | ((with_reducible refine iff2_of ?_ ?_); (with_unfolding_all rfl)) | ((with_reducible refine ift_of ?_ ?_); exact decide_eq_true (by omega)) | ((with_reducible refine iff_of ?_ ?_); exact decide_eq_false (by omega)) | ((with_reducible refine ift2_of ?_ ?_); exact decide_eq_true (by omega)) | ((with_reducible refine iff2_of ?_ ?_); exact decide_eq_false (by omega)))
    with_reducible refine and_le (by rw [iD_len, hf8, hsz]; decide) ?_
    refine w_cmpM (fun d => match d with | .int z => .int ((xs.getD z.toNat 0 : Nat) : Int) | _ => .non) (fun d hd => ?_) ?_
    · obtain ⟨w, hw, rfl⟩ := mem_iD hd
      refine ⟨_, rfl, eq_of_W fun t => ?_⟩
      repeat (first | (with_reducible refine w_idxT (atI_iD (getF hx.f (hfl w hw))) ?_) | (with_reducible first | refine w_seq ?_ | refine w_asg ?_ | refine w_asgP ?_ | refine pr_i ?_ | refine w_eqI ?_ | refine w_neI ?_ | refine w_own ?_ | refine w_par ?_ | refine w_parO ?_ | refine w_expr ?_ | refine w_if ?_ | refine w_sret ?_ | refine w_nil ?_ | refine w_for ?_ | refine w_bin ?_ | refine w_un ?_ | refine w_tup ?_ | refine w_lst ?_ | refine w_call ?_ | refine w_and ?_ | refine w_or ?_ | refine w_ife ?_ | refine w_chain ?_ | refine w_slice ?_ | refine w_oN ?_ | refine w_oS ?_ | refine w_comp ?_ | refine w_itSeq ?_ | refine w_itR ?_ | refine w_evnil ?_ | refine w_evcons ?_ | refine w_evc1 ?_ | refine w_evc0 ?_ | refine w_c ?_ | refine nx_nx ?_ | refine nx_ret ?_ | refine bl_i ?_ | refine in_i ?_ | refine sq_t ?_ | refine sq_l ?_ | refine ls_l ?_ | refine tp_t ?_ | refine w_not ?_ | refine w_addI ?_ | refine w_sub ?_ | refine w_xor ?_ | refine w_ltI ?_ | refine w_leI ?_ | refine w_gtI ?_ | refine w_geI ?_ | refine w_slT ?_ | refine w_slL ?_ | refine w_lenT ?_ | refine w_lenL ?_ | refine w_lenS ?_ | refine w_tupL ?_ | refine w_tupT ?_ | refine w_lstL ?_ | refine w_lstT ?_ | refine w_neg ?_ | refine w_isn ?_ | refine w_isnn ?_ | refine w_begun ?_ | refine w_ret ?_ | refine w_resE ?_) | (with_reducible refine w_var (by with_unfolding_all rfl) ?_) | (with_reducible refine w_peekV (by with_unfolding_all rfl) ?_) | (with_reducible refine w_peekO (by with_unfolding_all rfl) ?_) | (with_reducible refine w_app (by with_unfolding_all rfl) ?_) | (with_reducible refine w_frz (by with_unfolding_all rfl) ?_) | (with_reducible refine w_scr (by with_unfolding_all rfl) ?_) | (with_reducible refine w_tc (by with_unfolding_all rfl) ?_) | (with_reducible refine w_stc (by with_unfolding_all rfl) ?_) | (with_reducible refine w_tr (by with_unfolding_all rfl) ?_) | (with_reducible refine w_str (by with_unfolding_all rfl) ?_) | (with_reducible refine w_idxT (by with_unfolding_all rfl) ?_) | (with_reducible refine w_idxL (by with_unfolding_all rfl) ?_) | (with_reducible refine w_isi (by with_unfolding_all rfl) ?_) | ((with_reducible first | refine w_addT ?_ ?_ | refine w_addL ?_ ?_ | refine w_mulI ?_ ?_ | refine w_mulT ?_ ?_ | refine w_mulL ?_ ?_ | refine w_mod ?_ ?_ | refine w_div ?_ ?_ | refine w_pow ?_ ?_ | refine w_rng ?_ ?_); (first | decide | omega | (refine ⟨?_, ?_⟩ <;> omega) | (refine ⟨?_, ?_, ?_⟩ <;> omega) | (simp only [List.length_cons, List.length_nil, List.length_append, List.length_reverse, BL.cD_len, BL.iD_len, BL.mkx_len, BL.sizeL]; omega) | (refine ⟨List.cons_ne_nil _ _, ?_⟩; simp only [List.length_cons, List.length_nil]; omega))) | ((with_reducible first | refine w_eqD ?_ ?_ ?_ | refine w_neD ?_ ?_ ?_ | refine w_inT ?_ ?_ ?_ | refine w_inL ?_ ?_ ?_); (first | rfl | with_unfolding_all rfl); (first | rfl | with_unfolding_all rfl)) | ((with_reducible refine ift_of ?_ ?_); (with_unfolding_all rfl)) | ((with_reducible refine iff_of ?_ ?_); (with_unfolding_all rfl)) | ((with_reducible refine ift2_of ?_ ?_); (with_unfolding_all rfl)) | ((with_reducible refine iff2_of ?_ ?_); (with_unfolding_all rfl)) | ((with_reducible refine ift_of ?_ ?_); exact decide_eq_true (by omega)) | ((with_reducible refine iff_of ?_ ?_); exact decide_eq_false (by omega)) | ((with_reducible refine ift2_of ?_ ?_); exact decide_eq_true (by omega)) | ((with_reducible refine iff2_of ?_ ?_); exact decide_eq_false (by omega)))
      exact ⟨by show _ = D.int ((xs.getD ((w : Int).toNat) 0 : Nat) : Int); rw [Int.toNat_natCast], rfl⟩
    have eb : (iD ws).map (fun d => match d with | .int z => D.int ((xs.getD z.toNat 0 : Nat) : Int) | _ => .non) = iD (ws.map fun w => xs.getD w 0) := by
      unfold iD
      rw [List.map_map, List.map_map]
      refine List.map_congr_left fun w _ => ?_
      show D.int ((xs.getD ((w : Int).toNat) 0 : Nat) : Int) = _
      rw [Int.toNat_natCast]; rfl
    rw [eb]
    have c1 := further_bits_eq af.1
    have ema : mxc (xs.map fun w => ws.getD w 0) = mxc ws := mxc_eq af.1 ⟨mv, by rw [af.2, mve]⟩ fun u => by rw [af.2]; exact mall u
    rw [ema] at c1
    have c2 := further_bits_eq bf
    rw [behind_mxc hf hx] at c2
    have c3 := further_bits_eq hx.f
    have emx : fb (mxc xs) = 0 := by
      have := (nodup_mxc hx.f).mp hx.nodup
      unfold fb; rw [if_pos this]
    rw [emx] at c3
    have c4 := parted_eq hf
    have c5 := parts_eq bf
    have evl := behind_vals hf hx
    repeat (first | (with_reducible refine w_eq c1 ?_) | (with_reducible refine w_eq c2 ?_) | (with_reducible refine w_eq c3 ?_) | (with_reducible refine w_eq c4 ?_) | (with_reducible refine w_eq c5 ?_) | (with_reducible refine w_eq a3 ?_) | (with_reducible first | refine w_seq ?_ | refine w_asg ?_ | refine w_asgP ?_ | refine pr_i ?_ | refine w_eqI ?_ | refine w_neI ?_ | refine w_own ?_ | refine w_par ?_ | refine w_parO ?_ | refine w_expr ?_ | refine w_if ?_ | refine w_sret ?_ | refine w_nil ?_ | refine w_for ?_ | refine w_bin ?_ | refine w_un ?_ | refine w_tup ?_ | refine w_lst ?_ | refine w_call ?_ | refine w_and ?_ | refine w_or ?_ | refine w_ife ?_ | refine w_chain ?_ | refine w_slice ?_ | refine w_oN ?_ | refine w_oS ?_ | refine w_comp ?_ | refine w_itSeq ?_ | refine w_itR ?_ | refine w_evnil ?_ | refine w_evcons ?_ | refine w_evc1 ?_ | refine w_evc0 ?_ | refine w_c ?_ | refine nx_nx ?_ | refine nx_ret ?_ | refine bl_i ?_ | refine in_i ?_ | refine sq_t ?_ | refine sq_l ?_ | refine ls_l ?_ | refine tp_t ?_ | refine w_not ?_ | refine w_addI ?_ | refine w_sub ?_ | refine w_xor ?_ | refine w_ltI ?_ | refine w_leI ?_ | refine w_gtI ?_ | refine w_geI ?_ | refine w_slT ?_ | refine w_slL ?_ | refine w_lenT ?_ | refine w_lenL ?_ | refine w_lenS ?_ | refine w_tupL ?_ | refine w_tupT ?_ | refine w_lstL ?_ | refine w_lstT ?_ | refine w_neg ?_ | refine w_isn ?_ | refine w_isnn ?_ | refine w_begun ?_ | refine w_ret ?_ | refine w_resE ?_) | (with_reducible refine w_var (by with_unfolding_all rfl) ?_) | (with_reducible refine w_peekV (by with_unfolding_all rfl) ?_) | (with_reducible refine w_peekO (by with_unfolding_all rfl) ?_) | (with_reducible refine w_app (by with_unfolding_all rfl) ?_) | (with_reducible refine w_frz (by with_unfolding_all rfl) ?_) | (with_reducible refine w_scr (by with_unfolding_all rfl) ?_) | (with_reducible refine w_tc (by with_unfolding_all rfl) ?_) | (with_reducible refine w_stc (by with_unfolding_all rfl) ?_) | (with_reducible refine w_tr (by with_unfolding_all rfl) ?_) | (with_reducible refine w_str (by with_unfolding_all rfl) ?_) | (with_reducible refine w_idxT (by with_unfolding_all rfl) ?_) | (with_reducible refine w_idxL (by with_unfolding_all rfl) ?_) | (with_reducible refine w_isi (by with_unfolding_all rfl) ?_) | ((with_reducible first | refine w_addT ?_ ?_ | refine w_addL ?_ ?_ | refine w_mulI ?_ ?_ | refine w_mulT ?_ ?_ | refine w_mulL ?_ ?_ | refine w_mod ?_ ?_ | refine w_div ?_ ?_ | refine w_pow ?_ ?_ | refine w_rng ?_ ?_); (first | decide | omega | (refine ⟨?_, ?_⟩ <;> omega) | (refine ⟨?_, ?_, ?_⟩ <;> omega) | (simp only [List.length_cons, List.length_nil, List.length_append, List.length_reverse, BL.cD_len, BL.iD_len, BL.mkx_len, BL.sizeL]; omega) | (refine ⟨List.cons_ne_nil _ _, ?_⟩; simp only [List.length_cons, List.length_nil]; omega))) | ((with_reducible first | refine w_eqD ?_ ?_ ?_ | refine w_neD ?_ ?_ ?_ | refine w_inT ?_ ?_ ?_ | refine w_inL ?_ ?_ ?_); (first | rfl | with_unfolding_all rfl); (first | rfl | with_unfolding_all rfl)) | ((with_reducible refine ift_of ?_ ?_); (with_unfolding_all rfl)) | ((with_reducible refine iff_of ?_ ?_); (with_unfolding_all rfl)) | ((with_reducible refine ift2_of ?_ ?_); (with_unfolding_all rfl)) | ((with_reducible refine iff2_of ?_ ?_); (with_unfolding_all rfl)) | ((with_reducible refine ift_of ?_ ?_); exact decide_eq_true (by omega)) | ((with_reducible refine iff_of ?_ ?_); exact decide_eq_false (by omega)) | ((with_reducible refine ift2_of ?_ ?_); exact decide_eq_true (by omega)) | ((with_reducible refine iff2_of ?_ ?_); exact decide_eq_false (by omega)))
    rw [List.length_map, List.length_map, evl]
    repeat (first | (with_reducible first | refine w_seq ?_ | refine w_asg ?_ | refine w_asgP ?_ | refine pr_i ?_ | refine w_eqI ?_ | refine w_neI ?_ | refine w_own ?_ | refine w_par ?_ | refine w_parO ?_ | refine w_expr ?_ | refine w_if ?_ | refine w_sret ?_ | refine w_nil ?_ | refine w_for ?_ | refine w_bin ?_ | refine w_un ?_ | refine w_tup ?_ | refine w_lst ?_ | refine w_call ?_ | refine w_and ?_ | refine w_or ?_ | refine w_ife ?_ | refine w_chain ?_ | refine w_slice ?_ | refine w_oN ?_ | refine w_oS ?_ | refine w_comp ?_ | refine w_itSeq ?_ | refine w_itR ?_ | refine w_evnil ?_ | refine w_evcons ?_ | refine w_evc1 ?_ | refine w_evc0 ?_ | refine w_c ?_ | refine nx_nx ?_ | refine nx_ret ?_ | refine bl_i ?_ | refine in_i ?_ | refine sq_t ?_ | refine sq_l ?_ | refine ls_l ?_ | refine tp_t ?_ | refine w_not ?_ | refine w_addI ?_ | refine w_sub ?_ | refine w_xor ?_ | refine w_ltI ?_ | refine w_leI ?_ | refine w_gtI ?_ | refine w_geI ?_ | refine w_slT ?_ | refine w_slL ?_ | refine w_lenT ?_ | refine w_lenL ?_ | refine w_lenS ?_ | refine w_tupL ?_ | refine w_tupT ?_ | refine w_lstL ?_ | refine w_lstT ?_ | refine w_neg ?_ | refine w_isn ?_ | refine w_isnn ?_ | refine w_begun ?_ | refine w_ret ?_ | refine w_resE ?_) | (with_reducible refine w_var (by with_unfolding_all rfl) ?_) | (with_reducible refine w_peekV (by with_unfolding_all rfl) ?_) | (with_reducible refine w_peekO (by with_unfolding_all rfl) ?_) | (with_reducible refine w_app (by with_unfolding_all rfl) ?_) | (with_reducible refine w_frz (by with_unfolding_all rfl) ?_) | (with_reducible refine w_scr (by with_unfolding_all rfl) ?_) | (with_reducible refine w_tc (by with_unfolding_all rfl) ?_) | (with_reducible refine w_stc (by with_unfolding_all rfl) ?_) | (with_reducible refine w_tr (by with_unfolding_all rfl) ?_) | (with_reducible refine w_str (by with_unfolding_all rfl) ?_) | (with_reducible refine w_idxT (by with_unfolding_all rfl) ?_) | (with_reducible refine w_idxL (by with_unfolding_all rfl) ?_) | (with_reducible refine w_isi (by with_unfolding_all rfl) ?_) | ((with_reducible first | refine w_addT ?_ ?_ | refine w_addL ?_ ?_ | refine w_mulI ?_ ?_ | refine w_mulT ?_ ?_ | refine w_mulL ?_ ?_ | refine w_mod ?_ ?_ | refine w_div ?_ ?_ | refine w_pow ?_ ?_ | refine w_rng ?_ ?_); (first | decide | omega | (refine ⟨?_, ?_⟩ <;> omega) | (refine ⟨?_, ?_, ?_⟩ <;> omega) | (simp only [List.length_cons, List.length_nil, List.length_append, List.length_reverse, BL.cD_len, BL.iD_len, BL.mkx_len, BL.sizeL]; omega) | (refine ⟨List.cons_ne_nil _ _, ?_⟩; simp only [List.length_cons, List.length_nil]; omega))) | ((with_reducible first | refine w_eqD ?_ ?_ ?_ | refine w_neD ?_ ?_ ?_ | refine w_inT ?_ ?_ ?_ | refine w_inL ?_ ?_ ?_); (first | rfl | with_unfolding_all rfl); (first | rfl | with_unfolding_all rfl)) | ((with_reducible refine ift_of ?_ ?_); (with_unfolding_all rfl)) | ((with_reducible refine iff_of ?_ ?_); (with_unfolding_all rfl)) | ((with_reducible refine ift2_of ?_ ?_); (with_unfolding_all rfl)) | ((with_reducible refine iff2_of ?_ ?_); (with_unfolding_all rfl)) | ((with_reducible refine ift_of ?_ ?_); exact decide_eq_true (by omega)) | ((with_reducible refine iff_of ?_ ?_); exact decide_eq_false (by omega)) | ((with_reducible refine ift2_of ?_ ?_); exact decide_eq_true (by omega)) | ((with_reducible refine iff2_of ?_ ?_); exact decide_eq_false (by omega)))
    exact ⟨_, _, _, _, _, _, _, _, rfl, ht2⟩
  subst hS
  repeat (first | (with_reducible first | refine w_seq ?_ | refine w_asg ?_ | refine w_asgP ?_ | refine pr_i ?_ | refine w_eqI ?_ | refine w_neI ?_ | refine w_own ?_ | refine w_par ?_ | refine w_parO ?_ | refine w_expr ?_ | refine w_if ?_ | refine w_sret ?_ | refine w_nil ?_ | refine w_for ?_ | refine w_bin ?_ | refine w_un ?_ | refine w_tup ?_ | refine w_lst ?_ | refine w_call ?_ | refine w_and ?_ | refine w_or ?_ | refine w_ife ?_ | refine w_chain ?_ | refine w_slice ?_ | refine w_oN ?_ | refine w_oS ?_ | refine w_comp ?_ | refine w_itSeq ?_ | refine w_itR ?_ | refine w_evnil ?_ | refine w_evcons ?_ | refine w_evc1 ?_ | refine w_evc0 ?_ | refine w_c ?_ | refine nx_nx ?_ | refine nx_ret ?_ | refine bl_i ?_ | refine in_i ?_ | refine sq_t ?_ | refine sq_l ?_ | refine ls_l ?_ | refine tp_t ?_ | refine w_not ?_ | refine w_addI ?_ | refine w_sub ?_ | refine w_xor ?_ | refine w_ltI ?_ | refine w_leI ?_ | refine w_gtI ?_ | refine w_geI ?_ | refine w_slT ?_ | refine w_slL ?_ | refine w_lenT ?_ | refine w_lenL ?_ | refine w_lenS ?_ | refine w_tupL ?_ | refine w_tupT ?_ | refine w_lstL ?_ | refine w_lstT ?_ | refine w_neg ?_ | refine w_isn ?_ | refine w_isnn ?_ | refine w_begun ?_ | refine w_ret ?_ | refine w_resE ?_) | (with_reducible refine w_var (by with_unfolding_all rfl) ?_) | (with_reducible refine w_peekV (by with_unfolding_all rfl) ?_) | (with_reducible refine w_peekO (by with_unfolding_all rfl) ?_) | (with_reducible refine w_app (by with_unfolding_all rfl) ?_) | (with_reducible refine w_frz (by with_unfolding_all rfl) ?_) | (with_reducible refine w_scr (by with_unfolding_all rfl) ?_) | (with_reducible refine w_tc (by with_unfolding_all rfl) ?_) | (with_reducible refine w_stc (by with_unfolding_all rfl) ?_) | (with_reducible refine w_tr (by with_unfolding_all rfl) ?_) | (with_reducible refine w_str (by with_unfolding_all rfl) ?_) | (with_reducible refine w_idxT (by with_unfolding_all rfl) ?_) | (with_reducible refine w_idxL (by with_unfolding_all rfl) ?_) | (with_reducible refine w_isi (by with_unfolding_all rfl) ?_) | ((with_reducible first | refine w_addT ?_ ?_ | refine w_addL ?_ ?_ | refine w_mulI ?_ ?_ | refine w_mulT ?_ ?_ | refine w_mulL ?_ ?_ | refine w_mod ?_ ?_ | refine w_div ?_ ?_ | refine w_pow ?_ ?_ | refine w_rng ?_ ?_); (first | decide | omega | (refine ⟨?_, ?_⟩ <;> omega) | (refine ⟨?_, ?_, ?_⟩ <;> omega) | (simp only [List.length_cons, List.length_nil, List.length_append, List.length_reverse, BL.cD_len, BL.iD_len, BL.mkx_len, BL.sizeL]; omega) | (refine ⟨List.cons_ne_nil _ _, ?_⟩; simp only [List.length_cons, List.length_nil]; omega))) | ((with_reducible first | refine w_eqD ?_ ?_ ?_ | refine w_neD ?_ ?_ ?_ | refine w_inT ?_ ?_ ?_ | refine w_inL ?_ ?_ ?_); (first | rfl | with_unfolding_all rfl); (first | rfl | with_unfolding_all rfl)) | ((with_reducible refine ift_of ?_ ?_); (with_unfolding_all rfl)) | ((with_reducible refine iff_of ?_ ?_); (with_unfolding_all rfl)) | ((with_reducible refine ift2_of ?_ ?_); (with_unfolding_all rfl)) | ((with_reducible refine iff2_of ?_ ?_); (with_unfolding_all rfl)) | ((with_reducible refine ift_of ?_ ?_); exact decide_eq_true (by omega)) | ((with_reducible refine iff_of ?_ ?_); exact decide_eq_false (by omega)) | ((with_reducible refine ift2_of ?_ ?_); exact decide_eq_true (by omega)) | ((with_reducible refine iff2_of ?_ ?_); exact decide_eq_false (by omega)))
  rfl
end K18
set_option Elab.async false
set_option linter.all false
set_option maxRecDepth 100000
set_option maxHeartbeats 4000000
namespace K18
open PySem PySem.Spec PyProof.Rows L2 BG BL
theorem all_mk {l : PySem.W.OpenLaw} {w : World} {K : PySem.W.Frag} {h : Heap} {mg : Str → Option Value} {fa : Addr} (X : K.In h) (G : h.Ns mainGlobals mg) (hfa : mg "law" = some (.ref fa))
    {od_is_between an_is_between : Option Addr} {sl_is_between : Array (Option Value)} {oc_is_between kV_is_between dc_is_between pm_is_between ct_is_between : Value} {f_a_is_between : Addr}
    {cd_is_between : Value}
    {od_is_exchange an_is_exchange : Option Addr} {sl_is_exchange : Array (Option Value)} {oc_is_exchange kV_is_exchange dc_is_exchange pm_is_exchange ct_is_exchange : Value} {f_a_is_exchange : Addr}
    {cd_is_exchange : Value}
    {od_check_function an_check_function : Option Addr} {sl_check_function : Array (Option Value)} {oc_check_function kV_check_function dc_check_function pm_check_function ct_check_function : Value} {f_a_check_function : Addr}
    {cd_check_function : Value}
    {od_further_bits an_further_bits : Option Addr} {sl_further_bits : Array (Option Value)} {oc_further_bits kV_further_bits dc_further_bits pm_further_bits ct_further_bits : Value} {f_a_further_bits : Addr}
    {cd_further_bits : Value}
    {od_parts an_parts : Option Addr} {sl_parts : Array (Option Value)} {oc_parts kV_parts dc_parts pm_parts ct_parts : Value} {f_a_parts : Addr}
    {cd_parts : Value}
    {od_completed an_completed : Option Addr} {sl_completed : Array (Option Value)} {oc_completed kV_completed dc_completed pm_completed ct_completed : Value} {f_a_completed : Addr}
    {cd_completed : Value}
    {od_law_draw an_law_draw : Option Addr} {sl_law_draw : Array (Option Value)} {oc_law_draw kV_law_draw dc_law_draw pm_law_draw ct_law_draw : Value} {f_a_law_draw : Addr}
    {cd_law_draw : Value}
    {od_law_begun an_law_begun : Option Addr} {sl_law_begun : Array (Option Value)} {oc_law_begun kV_law_begun dc_law_begun pm_law_begun ct_law_begun : Value} {f_a_law_begun : Addr}
    {cd_law_begun : Value}
    {od_law_exchange an_law_exchange : Option Addr} {sl_law_exchange : Array (Option Value)} {oc_law_exchange kV_law_exchange dc_law_exchange pm_law_exchange ct_law_exchange : Value} {f_a_law_exchange : Addr}
    {cd_law_exchange : Value}
    {od_law_function an_law_function : Option Addr} {sl_law_function : Array (Option Value)} {oc_law_function kV_law_function dc_law_function pm_law_function ct_law_function : Value} {f_a_law_function : Addr}
    {cd_law_function : Value}
    {od_law_parted an_law_parted : Option Addr} {sl_law_parted : Array (Option Value)} {oc_law_parted kV_law_parted dc_law_parted pm_law_parted ct_law_parted : Value} {f_a_law_parted : Addr}
    {cd_law_parted : Value}
    {od_law an_law : Option Addr} {sl_law : Array (Option Value)} {oc_law kV_law dc_law pm_law ct_law : Value} {f_a_law : Addr}
    {cd_law : Value}
    {a_cSAME : Addr} {n_cSAME : Nat} {sl_cSAME : Array (Option Value)} {t0_SAME t1_SAME t2_SAME t3_SAME t4_SAME t5_SAME t6_SAME t7_SAME : Tok}
    {a_eInvalidFunction : Addr}
    (a_is_between : PySem.W.nsIn K mainGlobals "is_between" = some (some (.ref f_a_is_between)))
    (l_is_between : K.lookup f_a_is_between = some ⟨oc_is_between, od_is_between, .func (PySem.W.fnOf "is_between" "is_between" (defArgs s_is_between) (defBody s_is_between) (defScope s_is_between) .none kV_is_between dc_is_between pm_is_between an_is_between cd_is_between ct_is_between), sl_is_between⟩)
    (c_is_between : PySem.W.codeIn K cd_is_between "is_between" = true)
    (k_is_between : PySem.W.keepIn K (.ref f_a_is_between) = true)
    (a_is_exchange : PySem.W.nsIn K mainGlobals "is_exchange" = some (some (.ref f_a_is_exchange)))
    (l_is_exchange : K.lookup f_a_is_exchange = some ⟨oc_is_exchange, od_is_exchange, .func (PySem.W.fnOf "is_exchange" "is_exchange" (defArgs s_is_exchange) (defBody s_is_exchange) (defScope s_is_exchange) .none kV_is_exchange dc_is_exchange pm_is_exchange an_is_exchange cd_is_exchange ct_is_exchange), sl_is_exchange⟩)
    (c_is_exchange : PySem.W.codeIn K cd_is_exchange "is_exchange" = true)
    (k_is_exchange : PySem.W.keepIn K (.ref f_a_is_exchange) = true)
    (a_check_function : PySem.W.nsIn K mainGlobals "check_function" = some (some (.ref f_a_check_function)))
    (l_check_function : K.lookup f_a_check_function = some ⟨oc_check_function, od_check_function, .func (PySem.W.fnOf "check_function" "check_function" (defArgs s_check_function) (defBody s_check_function) (defScope s_check_function) .none kV_check_function dc_check_function pm_check_function an_check_function cd_check_function ct_check_function), sl_check_function⟩)
    (c_check_function : PySem.W.codeIn K cd_check_function "check_function" = true)
    (k_check_function : PySem.W.keepIn K (.ref f_a_check_function) = true)
    (a_further_bits : PySem.W.nsIn K mainGlobals "further_bits" = some (some (.ref f_a_further_bits)))
    (l_further_bits : K.lookup f_a_further_bits = some ⟨oc_further_bits, od_further_bits, .func (PySem.W.fnOf "further_bits" "further_bits" (defArgs s_further_bits) (defBody s_further_bits) (defScope s_further_bits) .none kV_further_bits dc_further_bits pm_further_bits an_further_bits cd_further_bits ct_further_bits), sl_further_bits⟩)
    (c_further_bits : PySem.W.codeIn K cd_further_bits "further_bits" = true)
    (k_further_bits : PySem.W.keepIn K (.ref f_a_further_bits) = true)
    (a_parts : PySem.W.nsIn K mainGlobals "parts" = some (some (.ref f_a_parts)))
    (l_parts : K.lookup f_a_parts = some ⟨oc_parts, od_parts, .func (PySem.W.fnOf "parts" "parts" (defArgs s_parts) (defBody s_parts) (defScope s_parts) .none kV_parts dc_parts pm_parts an_parts cd_parts ct_parts), sl_parts⟩)
    (c_parts : PySem.W.codeIn K cd_parts "parts" = true)
    (k_parts : PySem.W.keepIn K (.ref f_a_parts) = true)
    (a_completed : PySem.W.nsIn K mainGlobals "completed" = some (some (.ref f_a_completed)))
    (l_completed : K.lookup f_a_completed = some ⟨oc_completed, od_completed, .func (PySem.W.fnOf "completed" "completed" (defArgs s_completed) (defBody s_completed) (defScope s_completed) .none kV_completed dc_completed pm_completed an_completed cd_completed ct_completed), sl_completed⟩)
    (c_completed : PySem.W.codeIn K cd_completed "completed" = true)
    (k_completed : PySem.W.keepIn K (.ref f_a_completed) = true)
    (a_law_draw : PySem.W.nsIn K mainGlobals "_law_draw" = some (some (.ref f_a_law_draw)))
    (l_law_draw : K.lookup f_a_law_draw = some ⟨oc_law_draw, od_law_draw, .func (PySem.W.fnOf "_law_draw" "_law_draw" (defArgs s_law_draw) (defBody s_law_draw) (defScope s_law_draw) .none kV_law_draw dc_law_draw pm_law_draw an_law_draw cd_law_draw ct_law_draw), sl_law_draw⟩)
    (c_law_draw : PySem.W.codeIn K cd_law_draw "_law_draw" = true)
    (k_law_draw : PySem.W.keepIn K (.ref f_a_law_draw) = true)
    (a_law_begun : PySem.W.nsIn K mainGlobals "_law_begun" = some (some (.ref f_a_law_begun)))
    (l_law_begun : K.lookup f_a_law_begun = some ⟨oc_law_begun, od_law_begun, .func (PySem.W.fnOf "_law_begun" "_law_begun" (defArgs s_law_begun) (defBody s_law_begun) (defScope s_law_begun) .none kV_law_begun dc_law_begun pm_law_begun an_law_begun cd_law_begun ct_law_begun), sl_law_begun⟩)
    (c_law_begun : PySem.W.codeIn K cd_law_begun "_law_begun" = true)
    (k_law_begun : PySem.W.keepIn K (.ref f_a_law_begun) = true)
    (a_law_exchange : PySem.W.nsIn K mainGlobals "_law_exchange" = some (some (.ref f_a_law_exchange)))
    (l_law_exchange : K.lookup f_a_law_exchange = some ⟨oc_law_exchange, od_law_exchange, .func (PySem.W.fnOf "_law_exchange" "_law_exchange" (defArgs s_law_exchange) (defBody s_law_exchange) (defScope s_law_exchange) .none kV_law_exchange dc_law_exchange pm_law_exchange an_law_exchange cd_law_exchange ct_law_exchange), sl_law_exchange⟩)
    (c_law_exchange : PySem.W.codeIn K cd_law_exchange "_law_exchange" = true)
    (k_law_exchange : PySem.W.keepIn K (.ref f_a_law_exchange) = true)
    (a_law_function : PySem.W.nsIn K mainGlobals "_law_function" = some (some (.ref f_a_law_function)))
    (l_law_function : K.lookup f_a_law_function = some ⟨oc_law_function, od_law_function, .func (PySem.W.fnOf "_law_function" "_law_function" (defArgs s_law_function) (defBody s_law_function) (defScope s_law_function) .none kV_law_function dc_law_function pm_law_function an_law_function cd_law_function ct_law_function), sl_law_function⟩)
    (c_law_function : PySem.W.codeIn K cd_law_function "_law_function" = true)
    (k_law_function : PySem.W.keepIn K (.ref f_a_law_function) = true)
    (a_law_parted : PySem.W.nsIn K mainGlobals "_law_parted" = some (some (.ref f_a_law_parted)))
    (l_law_parted : K.lookup f_a_law_parted = some ⟨oc_law_parted, od_law_parted, .func (PySem.W.fnOf "_law_parted" "_law_parted" (defArgs s_law_parted) (defBody s_law_parted) (defScope s_law_parted) .none kV_law_parted dc_law_parted pm_law_parted an_law_parted cd_law_parted ct_law_parted), sl_law_parted⟩)
    (c_law_parted : PySem.W.codeIn K cd_law_parted "_law_parted" = true)
    (k_law_parted : PySem.W.keepIn K (.ref f_a_law_parted) = true)
    (a_law : PySem.W.nsIn K mainGlobals "law" = some (some (.ref f_a_law)))
    (l_law : K.lookup f_a_law = some ⟨oc_law, od_law, .func (PySem.W.fnOf "law" "law" (defArgs s_law) (defBody s_law) (defScope s_law) .none kV_law dc_law pm_law an_law cd_law ct_law), sl_law⟩)
    (c_law : PySem.W.codeIn K cd_law "law" = true)
    (k_law : PySem.W.keepIn K (.ref f_a_law) = true)
    (z_len : PySem.W.nsIn K mainGlobals "len" = some none)
    (z_all : PySem.W.nsIn K mainGlobals "all" = some none)
    (z_any : PySem.W.nsIn K mainGlobals "any" = some none)
    (z_sum : PySem.W.nsIn K mainGlobals "sum" = some none)
    (z_sorted : PySem.W.nsIn K mainGlobals "sorted" = some none)
    (z_min : PySem.W.nsIn K mainGlobals "min" = some none)
    (z_max : PySem.W.nsIn K mainGlobals "max" = some none)
    (z_isinstance : PySem.W.nsIn K mainGlobals "isinstance" = some none)
    (z_tuple : PySem.W.nsIn K mainGlobals "tuple" = some none)
    (z_list : PySem.W.nsIn K mainGlobals "list" = some none)
    (z_int : PySem.W.nsIn K mainGlobals "int" = some none)
    (z_bool : PySem.W.nsIn K mainGlobals "bool" = some none)
    (z_str : PySem.W.nsIn K mainGlobals "str" = some none)
    (z_range : PySem.W.nsIn K mainGlobals "range" = some none)
    (z_set : PySem.W.nsIn K mainGlobals "set" = some none)
    (z_enumerate : PySem.W.nsIn K mainGlobals "enumerate" = some none)
    (z_zip : PySem.W.nsIn K mainGlobals "zip" = some none)
    (z_dict : PySem.W.nsIn K mainGlobals "dict" = some none)
    (z_abs : PySem.W.nsIn K mainGlobals "abs" = some none)
    (a_cSAME_ : PySem.W.nsIn K mainGlobals "SAME" = some (some (.ref a_cSAME)))
    (l_cSAME : K.lookup a_cSAME = some ⟨.type "tuple", none, .seq #[.int 0 t0_SAME, .int 1 t1_SAME, .int 2 t2_SAME, .int 3 t3_SAME, .int 4 t4_SAME, .int 5 t5_SAME, .int 6 t6_SAME, .int 7 t7_SAME] n_cSAME, sl_cSAME⟩)
    (a_eInvalidFunction_ : PySem.W.nsIn K mainGlobals "InvalidFunction" = some (some (.ref a_eInvalidFunction)))
    (x_eInvalidFunction : PySem.W.excIn K a_eInvalidFunction [.type "ValueError", .type "Exception", .type "BaseException", .type "object"] "ValueError.__new__" = true)
    (k_eInvalidFunction : PySem.W.keepIn K (.ref a_eInvalidFunction) = true)
    (b_eInvalidFunction : PySem.W.subIn K (.ref a_eInvalidFunction) (.type "BaseException") = true)
    (t_eInvalidFunction : PySem.W.typeIn K (.ref a_eInvalidFunction) = some (.type "type")) :
    ∃ fd : FuncData, (∀ (s : Shared) (v : Value), BindsTo s fd ⟨[v], []⟩ [("script", v)]) ∧ ∀ base : Heap, K.In base → base.Ns mainGlobals mg → FnOk l.prog w K mg base (L2.CX l.prog w) 5 fa fd ["script"] (spLaw K) := by
  have e := hfa.symm.trans (PySem.W.mg_of X G a_law)
  cases e
  have M : Mg K mg ⟨[], (fun c => match c with | 6 => a_eInvalidFunction | _ => 0)⟩ := ⟨⟨PySem.W.mg_none_of X G z_len, PySem.W.mg_none_of X G z_all, PySem.W.mg_none_of X G z_any, PySem.W.mg_none_of X G z_sum, PySem.W.mg_none_of X G z_sorted, PySem.W.mg_none_of X G z_min, PySem.W.mg_none_of X G z_max, PySem.W.mg_none_of X G z_isinstance, PySem.W.mg_none_of X G z_tuple, PySem.W.mg_none_of X G z_list, PySem.W.mg_none_of X G z_int, PySem.W.mg_none_of X G z_bool, PySem.W.mg_none_of X G z_str, PySem.W.mg_none_of X G z_range, PySem.W.mg_none_of X G z_set, PySem.W.mg_none_of X G z_enumerate, PySem.W.mg_none_of X G z_zip, PySem.W.mg_none_of X G z_dict, PySem.W.mg_none_of X G z_abs⟩, ⟨_, PySem.W.mg_of X G a_cSAME_, fun g => .tup (xs := [.int 0, .int 1, .int 2, .int 3, .int 4, .int 5, .int 6, .int 7]) (.inr ⟨_, _, _, l_cSAME, rfl, rfl, Nat.le_of_ble_eq_true rfl, (.cons ⟨_, rfl⟩ (.cons ⟨_, rfl⟩ (.cons ⟨_, rfl⟩ (.cons ⟨_, rfl⟩ (.cons ⟨_, rfl⟩ (.cons ⟨_, rfl⟩ (.cons ⟨_, rfl⟩ (.cons ⟨_, rfl⟩ .nil)))))))), rfl⟩) (.cons (.int _) (.cons (.int _) (.cons (.int _) (.cons (.int _) (.cons (.int _) (.cons (.int _) (.cons (.int _) (.cons (.int _) .nil))))))))⟩, ⟨PySem.W.mg_of X G a_eInvalidFunction_, x_eInvalidFunction, k_eInvalidFunction, b_eInvalidFunction, t_eInvalidFunction⟩⟩
  refine ⟨PySem.W.fnOf "law" "law" (defArgs s_law) (defBody s_law) (defScope s_law) .none kV_law dc_law pm_law an_law cd_law ct_law, fun s v => .of_eq rfl, fun base _ _ => ?_⟩
  have F_is_between := fun_mk (st := s_is_between) l_is_between c_is_between k_is_between
  have o_is_between := ok_is_between (P := l.prog) (w := w) (base := base) M F_is_between 
  have fd_is_between := Fd.of o_is_between (PySem.W.mg_of X G a_is_between) F_is_between.kp (F_is_between.binds (ps := ["value", "low", "high"]) fun _ _ _ _ _ _ us hl => match us, hl with | [_, _, _], _ => rfl)
  have F_is_exchange := fun_mk (st := s_is_exchange) l_is_exchange c_is_exchange k_is_exchange
  have o_is_exchange := ok_is_exchange (P := l.prog) (w := w) (base := base) M F_is_exchange fd_is_between
  have fd_is_exchange := Fd.of o_is_exchange (PySem.W.mg_of X G a_is_exchange) F_is_exchange.kp (F_is_exchange.binds (ps := ["value"]) fun _ _ _ _ _ _ us hl => match us, hl with | [_], _ => rfl)
  have F_check_function := fun_mk (st := s_check_function) l_check_function c_check_function k_check_function
  have o_check_function := ok_check_function (P := l.prog) (w := w) (base := base) M F_check_function fd_is_between
  have fd_check_function := Fd.of o_check_function (PySem.W.mg_of X G a_check_function) F_check_function.kp (F_check_function.binds (ps := ["function"]) fun _ _ _ _ _ _ us hl => match us, hl with | [_], _ => rfl)
  have F_further_bits := fun_mk (st := s_further_bits) l_further_bits c_further_bits k_further_bits
  have o_further_bits := ok_further_bits (P := l.prog) (w := w) (base := base) M F_further_bits fd_check_function
  have fd_further_bits := Fd.of o_further_bits (PySem.W.mg_of X G a_further_bits) F_further_bits.kp (F_further_bits.binds (ps := ["function"]) fun _ _ _ _ _ _ us hl => match us, hl with | [_], _ => rfl)
  have F_parts := fun_mk (st := s_parts) l_parts c_parts k_parts
  have o_parts := ok_parts (P := l.prog) (w := w) (base := base) M F_parts fd_check_function
  have fd_parts := Fd.of o_parts (PySem.W.mg_of X G a_parts) F_parts.kp (F_parts.binds (ps := ["function"]) fun _ _ _ _ _ _ us hl => match us, hl with | [_], _ => rfl)
  have F_completed := fun_mk (st := s_completed) l_completed c_completed k_completed
  have o_completed := ok_completed (P := l.prog) (w := w) (base := base) M F_completed fd_check_function
  have fd_completed := Fd.of o_completed (PySem.W.mg_of X G a_completed) F_completed.kp (F_completed.binds (ps := ["function"]) fun _ _ _ _ _ _ us hl => match us, hl with | [_], _ => rfl)
  have F_law_draw := fun_mk (st := s_law_draw) l_law_draw c_law_draw k_law_draw
  have o_law_draw := ok_law_draw (P := l.prog) (w := w) (base := base) M F_law_draw 
  have fd_law_draw := Fd.of o_law_draw (PySem.W.mg_of X G a_law_draw) F_law_draw.kp (F_law_draw.binds (ps := ["script", "town", "many"]) fun _ _ _ _ _ _ us hl => match us, hl with | [_, _, _], _ => rfl)
  have F_law_begun := fun_mk (st := s_law_begun) l_law_begun c_law_begun k_law_begun
  have o_law_begun := ok_law_begun (P := l.prog) (w := w) (base := base) M F_law_begun 
  have fd_law_begun := Fd.of o_law_begun (PySem.W.mg_of X G a_law_begun) F_law_begun.kp (F_law_begun.binds (ps := []) fun _ _ _ _ _ _ us hl => match us, hl with | [], _ => rfl)
  have F_law_exchange := fun_mk (st := s_law_exchange) l_law_exchange c_law_exchange k_law_exchange
  have o_law_exchange := ok_law_exchange (P := l.prog) (w := w) (base := base) M F_law_exchange fd_law_draw
  have fd_law_exchange := Fd.of o_law_exchange (PySem.W.mg_of X G a_law_exchange) F_law_exchange.kp (F_law_exchange.binds (ps := ["script", "town"]) fun _ _ _ _ _ _ us hl => match us, hl with | [_, _], _ => rfl)
  have F_law_function := fun_mk (st := s_law_function) l_law_function c_law_function k_law_function
  have o_law_function := ok_law_function (P := l.prog) (w := w) (base := base) M F_law_function fd_law_draw fd_law_exchange
  have fd_law_function := Fd.of o_law_function (PySem.W.mg_of X G a_law_function) F_law_function.kp (F_law_function.binds (ps := ["script", "town"]) fun _ _ _ _ _ _ us hl => match us, hl with | [_, _], _ => rfl)
  have F_law_parted := fun_mk (st := s_law_parted) l_law_parted c_law_parted k_law_parted
  have o_law_parted := ok_law_parted (P := l.prog) (w := w) (base := base) M F_law_parted fd_parts
  have fd_law_parted := Fd.of o_law_parted (PySem.W.mg_of X G a_law_parted) F_law_parted.kp (F_law_parted.binds (ps := ["function", "pairs"]) fun _ _ _ _ _ _ us hl => match us, hl with | [_, _], _ => rfl)
  have F_law := fun_mk (st := s_law) l_law c_law k_law
  have o_law := ok_law (P := l.prog) (w := w) (base := base) M F_law fd_law_begun fd_law_function fd_further_bits fd_completed fd_is_exchange fd_parts fd_law_exchange fd_law_parted
  exact o_law.imp (law_imp rfl law_true)
end K18
open PySem PySem.W PyProof.Rows
set_option maxHeartbeats 0 in
theorem PySem.Challenge.cw_backgates_k18_whole_functions_holds : PySem.Challenge.rw_backgates_k18_whole_functions.Holds := by
  w_on; o_law; k_head; (case hw => w_witness2)
  k_fill
  refine L2.walk_of (l := PySem.Challenge.rw_backgates_k18_whole_functions) (n := 63) (k := 5) (x := "script") (CX := fun w => L2.CX PySem.Challenge.rw_backgates_k18_whole_functions.prog w) (sp := fun w => BG.spLaw _) rfl (by decide) rfl ⟨rfl, by decide, by decide⟩ (fun w h Y => PySem.W.kIn_of Y) ?F (fun _ _ a ns hl _ hS => ⟨a, ns, rfl, hS, hl, fun _ => rfl⟩) (fun _ _ _ _ _ h => BG.cx_no h)
  case F =>
    intro w mg fa h KX G hmg
    refine' K18.all_mk KX G hmg ?a_is_between ?l_is_between ?c_is_between ?k_is_between ?a_is_exchange ?l_is_exchange ?c_is_exchange ?k_is_exchange ?a_check_function ?l_check_function ?c_check_function ?k_check_function ?a_further_bits ?l_further_bits ?c_further_bits ?k_further_bits ?a_parts ?l_parts ?c_parts ?k_parts ?a_completed ?l_completed ?c_completed ?k_completed ?a_law_draw ?l_law_draw ?c_law_draw ?k_law_draw ?a_law_begun ?l_law_begun ?c_law_begun ?k_law_begun ?a_law_exchange ?l_law_exchange ?c_law_exchange ?k_law_exchange ?a_law_function ?l_law_function ?c_law_function ?k_law_function ?a_law_parted ?l_law_parted ?c_law_parted ?k_law_parted ?a_law ?l_law ?c_law ?k_law ?z_len ?z_all ?z_any ?z_sum ?z_sorted ?z_min ?z_max ?z_isinstance ?z_tuple ?z_list ?z_int ?z_bool ?z_str ?z_range ?z_set ?z_enumerate ?z_zip ?z_dict ?z_abs ?a_cSAME_ ?l_cSAME ?a_eInvalidFunction_ ?x_eInvalidFunction ?k_eInvalidFunction ?b_eInvalidFunction ?t_eInvalidFunction
    (case a_is_between => k_is); (case l_is_between => k_is); (case c_is_between => k_is); (case k_is_between => k_is); (case a_is_exchange => k_is); (case l_is_exchange => k_is); (case c_is_exchange => k_is); (case k_is_exchange => k_is); (case a_check_function => k_is); (case l_check_function => k_is); (case c_check_function => k_is); (case k_check_function => k_is); (case a_further_bits => k_is); (case l_further_bits => k_is); (case c_further_bits => k_is); (case k_further_bits => k_is); (case a_parts => k_is); (case l_parts => k_is); (case c_parts => k_is); (case k_parts => k_is); (case a_completed => k_is); (case l_completed => k_is); (case c_completed => k_is); (case k_completed => k_is); (case a_law_draw => k_is); (case l_law_draw => k_is); (case c_law_draw => k_is); (case k_law_draw => k_is); (case a_law_begun => k_is); (case l_law_begun => k_is); (case c_law_begun => k_is); (case k_law_begun => k_is); (case a_law_exchange => k_is); (case l_law_exchange => k_is); (case c_law_exchange => k_is); (case k_law_exchange => k_is); (case a_law_function => k_is); (case l_law_function => k_is); (case c_law_function => k_is); (case k_law_function => k_is); (case a_law_parted => k_is); (case l_law_parted => k_is); (case c_law_parted => k_is); (case k_law_parted => k_is); (case a_law => k_is); (case l_law => k_is); (case c_law => k_is); (case k_law => k_is); (case z_len => k_is); (case z_all => k_is); (case z_any => k_is); (case z_sum => k_is); (case z_sorted => k_is); (case z_min => k_is); (case z_max => k_is); (case z_isinstance => k_is); (case z_tuple => k_is); (case z_list => k_is); (case z_int => k_is); (case z_bool => k_is); (case z_str => k_is); (case z_range => k_is); (case z_set => k_is); (case z_enumerate => k_is); (case z_zip => k_is); (case z_dict => k_is); (case z_abs => k_is); (case a_cSAME_ => k_is); (case l_cSAME => k_is); (case a_eInvalidFunction_ => k_is); (case x_eInvalidFunction => k_exc); (case k_eInvalidFunction => k_is); (case b_eInvalidFunction => k_is); (case t_eInvalidFunction => k_is)
