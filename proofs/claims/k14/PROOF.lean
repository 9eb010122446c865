import PyProof.Rows.All
import Wide.All
import OpenK.AllK
import Wide.FinOn
import HandS.ForMost
import HandS.ForExc
import HandS.IsInst
import HandS.TupAny
import HandS.TupMul
import HandS.Deep
import HandS.Zip
import HandS.Conv
import HandS.SetFor
import HandS.Lambda
import KE.SortData
import HandS.Set
import HandS.Iter
import KE.KExcIs
import HandS.EndTab
import KE.KNest
import KE.GoesMore
import PySem.Challenge.RW_backgates_k14_places
set_option Elab.async false
set_option linter.all false
set_option maxRecDepth 100000
set_option maxHeartbeats 4000000
namespace BG
open PySem PySem.Spec PyProof.Rows L2
/-- a value as data: nothing of the heap -/
inductive D where
  | non | bl (b : Bool) | int (i : Int) | str (x : Str) | tup (xs : List D) | lst (xs : List D) | town | scr (ns : List Int) | dct (ks : List Key) (ds : List D)
/-- the state of the draws: the count and the rests; none: not begun -/
abbrev Tn := Option (Int × List (Int × Int))
inductive Out (α : Type) where
  | ok (a : α) (t : Tn)
  | exc (c : Nat) (t : Tn)
abbrev M (α : Type) := Tn → Option (Out α)
section
variable {α β : Type}
def ret (a : α) : M α := fun t => some (.ok a t)
def bnd (m : M α) (f : α → M β) : M β := fun t => match m t with
  | some (.ok a t') => f a t'
  | some (.exc c t') => some (.exc c t')
  | none => none
def raise (c : Nat) : M α := fun t => some (.exc c t)
def stuck : M α := fun _ => none
/-- what raises is stuck -/
def calm (m : M α) : M α := fun t => match m t with
  | some (.ok a t') => some (.ok a t')
  | _ => none
theorem bnd_ok {m : M α} {f : α → M β} {t t' : Tn} {a : α} (h : m t = some (.ok a t')) : bnd m f t = f a t' := by
  unfold bnd; rw [h]
theorem bnd_exc {m : M α} {f : α → M β} {t t' : Tn} {c : Nat} (h : m t = some (.exc c t')) : bnd m f t = some (.exc c t') := by
  unfold bnd; rw [h]
theorem ret_bnd (a : α) (f : α → M β) : bnd (ret a) f = f a := rfl
end
/-- a slot: nothing, a value, a list of its own that may be changed -/
inductive SV where
  | un | val (d : D) | own (ds : List D) | dic (ks : List (Key × D)) | raw (v : V) | exn (c : Addr)
/-- an exception's object of the class cls -/
def ExK (cls : Value) (a : Addr) : HO := .ext fun h => ∃ (oe : Obj) (vs : Array Value), h.get? a = some oe ∧ oe.cls = cls ∧ oe.dict = none ∧ oe.data = .fields vs
/-- an object of one's own -/
def isOw : SV → Bool
  | .own _ => true
  | .dic _ => true
  | _ => false
abbrev Sl := List SV
/-- what is frozen; the addresses of the draws' dicts -/
structure G where
  Fz : Hp
  tw : Option (Addr × Addr)
def G.isTw (g : G) (b : Addr) : Prop := ∃ p, g.tw = some p ∧ (b = p.1 ∨ b = p.2)
mutual
inductive Rp (K : PySem.W.Frag) (g : G) : V → D → Prop
  | non : Rp K g .non .non
  | bl (b : Bool) : Rp K g (.bl b) (.bl b)
  | int (i : Int) : Rp K g (.int i) (.int i)
  | str (x : Str) : Rp K g (.str x) (.str x)
  | tup {a : Addr} {xs : List V} {ds : List D} : SqT K g.Fz a xs → RpA K g xs ds → Rp K g (.ref a) (.tup ds)
  | lst {a : Addr} {xs : List V} {ds : List D} : g.Fz a = some (.lst xs) → RpA K g xs ds → Rp K g (.ref a) (.lst ds)
  | town {a b : Addr} : g.tw = some (a, b) → Rp K g (.ref a) .town
  | scr {a : Addr} {ns : List Int} : SqL K g.Fz a (ns.map V.int) → Rp K g (.ref a) (.scr ns)
  | dct {a : Addr} {o : Obj} {ks : List Key} {vs : List V} {ds : List D} : g.Fz a = some (.frz o (.dK (ks.zip vs))) → ks.length = vs.length → RpA K g vs ds → Rp K g (.ref a) (.dct ks ds)
inductive RpA (K : PySem.W.Frag) (g : G) : List V → List D → Prop
  | nil : RpA K g [] []
  | cons {v : V} {vs : List V} {d : D} {ds : List D} : Rp K g v d → RpA K g vs ds → RpA K g (v :: vs) (d :: ds)
end
theorem Same.tseq {K : PySem.W.Frag} {H H' : Hp} {a : Addr} {xs : List V} (e : Same H H') (h : SqT K H a xs) : SqT K H' a xs := by
  rcases h with (h | ⟨o, h⟩) | h
  · exact .inl (.inl (e _ _ h))
  · exact .inl (.inr ⟨o, e _ _ h⟩)
  · exact .inr h
section
variable {K : PySem.W.Frag} {g g' : G}
mutual
theorem Rp.mono (f : Same g.Fz g'.Fz) (tw : ∀ p, g.tw = some p → g'.tw = some p) : ∀ {d : D} {v : V}, Rp K g v d → Rp K g' v d
  | .non, _, h => by cases h; exact .non
  | .bl b, _, h => by cases h; exact .bl b
  | .int i, _, h => by cases h; exact .int i
  | .str x, _, h => by cases h; exact .str x
  | .tup ds, _, h => by cases h with | tup s a => exact .tup (Same.tseq f s) (RpA.mono f tw a)
  | .lst ds, _, h => by cases h with | lst s a => exact .lst (f _ _ s) (RpA.mono f tw a)
  | .town, _, h => by cases h with | town e => exact .town (tw _ e)
  | .scr ns, _, h => by cases h with | scr e => exact .scr (f.seq e)
  | .dct ks ds, _, h => by cases h with | dct e l a => exact .dct (f _ _ e) l (RpA.mono f tw a)
theorem RpA.mono (f : Same g.Fz g'.Fz) (tw : ∀ p, g.tw = some p → g'.tw = some p) : ∀ {ds : List D} {vs : List V}, RpA K g vs ds → RpA K g' vs ds
  | [], _, h => by cases h; exact .nil
  | d :: ds, _, h => by cases h with | cons a b => exact .cons (Rp.mono f tw a) (RpA.mono f tw b)
end
theorem RpA.length : ∀ {ds : List D} {vs : List V}, RpA K g vs ds → vs.length = ds.length
  | [], _, h => by cases h; rfl
  | d :: ds, _, h => by cases h with | cons a b => rw [List.length_cons, List.length_cons, RpA.length b]
theorem RpA.get : ∀ {ds : List D} {vs : List V} {i : Nat} {d : D}, RpA K g vs ds → ds[i]? = some d → ∃ v, vs[i]? = some v ∧ Rp K g v d
  | [], _, _, _, h, e => by simp at e
  | d :: ds, _, 0, _, h, e => by
    cases h with
    | cons a b =>
      have e' : d = _ := Option.some.inj e
      subst e'
      exact ⟨_, rfl, a⟩
  | d :: ds, _, i + 1, _, h, e => by
    cases h with
    | cons a b =>
      obtain ⟨v, h1, h2⟩ := RpA.get (i := i) b e
      exact ⟨v, h1, h2⟩
theorem RpA.app : ∀ {ds es : List D} {vs ws : List V}, RpA K g vs ds → RpA K g ws es → RpA K g (vs ++ ws) (ds ++ es)
  | [], _, _, _, h, q => by cases h; exact q
  | d :: ds, _, _, _, h, q => by cases h with | cons a b => exact .cons a (RpA.app b q)
theorem RpA.one {v : V} {d : D} (h : Rp K g v d) : RpA K g [v] [d] := .cons h .nil
theorem RpA.take : ∀ {ds : List D} {vs : List V} (n : Nat), RpA K g vs ds → RpA K g (vs.take n) (ds.take n)
  | _, _, 0, _ => .nil
  | [], _, n + 1, h => by cases h; exact .nil
  | d :: ds, _, n + 1, h => by cases h with | cons a b => exact .cons a (RpA.take n b)
theorem RpA.drop : ∀ {ds : List D} {vs : List V} (n : Nat), RpA K g vs ds → RpA K g (vs.drop n) (ds.drop n)
  | _, _, 0, h => h
  | [], _, n + 1, h => by cases h; exact .nil
  | d :: ds, _, n + 1, h => by cases h with | cons a b => exact RpA.drop n b
theorem RpA.set {v : V} {d : D} (r : Rp K g v d) : ∀ {ds : List D} {vs : List V} (n : Nat), RpA K g vs ds → RpA K g (vs.set n v) (ds.set n d)
  | [], _, _, h => by cases h; exact .nil
  | _ :: ds, _, 0, h => by cases h with | cons a b => exact .cons r b
  | _ :: ds, _, n + 1, h => by cases h with | cons a b => exact .cons a (RpA.set r n b)
theorem RpA.rep {ds : List D} {vs : List V} (h : RpA K g vs ds) : ∀ k : Nat, RpA K g (List.replicate k vs).flatten (List.replicate k ds).flatten
  | 0 => .nil
  | k + 1 => by
    rw [List.replicate_succ, List.replicate_succ, List.flatten_cons, List.flatten_cons]
    exact h.app (RpA.rep h k)
theorem RpA.rev : ∀ {ds : List D} {vs : List V}, RpA K g vs ds → RpA K g vs.reverse ds.reverse
  | [], _, h => by cases h; exact .nil
  | d :: ds, _, h => by
    cases h with
    | cons a b =>
      rw [List.reverse_cons, List.reverse_cons]
      exact (RpA.rev b).app (.one a)
theorem RpA.dropLast {ds : List D} {vs : List V} (h : RpA K g vs ds) : RpA K g vs.dropLast ds.dropLast := by
  rw [List.dropLast_eq_take, List.dropLast_eq_take, h.length]
  exact h.take _
end
/-- something is tracked there, and it is no table -/
def Nt (H : Hp) (b : Addr) : Prop := ∃ o, H b = some o ∧ ∀ ps, o ≠ .tbl ps
theorem Nt.no {H : Hp} {b : Addr} (h : H b = none) : ¬ Nt H b := fun ⟨o, e, _⟩ => by rw [h] at e; cases e
/-- a step: what was frozen stays, what stood stays (but the draws' dicts and the tables) -/
structure Stp (g : G) (H : Hp) (g' : G) (H' : Hp) : Prop where
  fz : Same g.Fz g'.Fz
  tw : ∀ p, g.tw = some p → g'.tw = some p
  twn : g.tw = none → ∀ a b, g'.tw = some (a, b) → ¬ Nt H a ∧ ¬ Nt H b
  frm : ∀ b o, H b = some o → ¬ g.isTw b → (∀ ps, o ≠ .tbl ps) → H' b = some o
  thr : ∀ b, Nt H b → Nt H' b
  new : ∀ b, Nt H b → g'.Fz b = g.Fz b
theorem Stp.refl (g : G) (H : Hp) : Stp g H g H := ⟨fun _ _ h => h, fun _ h => h, fun h a b e => (by rw [h] at e; cases e), fun _ _ h _ _ => h, fun _ h => h, fun _ _ => rfl⟩
theorem Stp.trans {g g1 g2 : G} {H H1 H2 : Hp} (a : Stp g H g1 H1) (b : Stp g1 H1 g2 H2) : Stp g H g2 H2 where
  fz := a.fz.trans b.fz
  tw := fun p h => b.tw p (a.tw p h)
  twn := fun h x y e => by
    cases h1 : g1.tw with
    | none =>
      obtain ⟨p, q⟩ := b.twn h1 x y e
      exact ⟨fun z => p (a.thr x z), fun z => q (a.thr y z)⟩
    | some p =>
      have e2 := b.tw p h1
      rw [e] at e2
      cases e2
      exact a.twn h x y h1
  frm := fun c o h n t => by
    refine b.frm c o (a.frm c o h n t) (fun ⟨p, hp, q⟩ => ?_) t
    cases h1 : g.tw with
    | some p' =>
      have := a.tw p' h1
      rw [hp] at this
      cases this
      exact n ⟨p, h1, q⟩
    | none =>
      obtain ⟨z1, z2⟩ := a.twn h1 p.1 p.2 hp
      rcases q with q | q
      · exact z1 ⟨o, by rw [← q]; exact h, t⟩
      · exact z2 ⟨o, by rw [← q]; exact h, t⟩
  thr := fun c h => b.thr c (a.thr c h)
  new := fun c h => (b.new c (a.thr c h)).trans (a.new c h)
theorem Rp.stp {K : PySem.W.Frag} {g g' : G} {H H' : Hp} {v : V} {d : D} (s : Stp g H g' H') (h : Rp K g v d) : Rp K g' v d := h.mono s.fz s.tw
theorem RpA.stp {K : PySem.W.Frag} {g g' : G} {H H' : Hp} {v : List V} {d : List D} (s : Stp g H g' H') (h : RpA K g v d) : RpA K g' v d := h.mono s.fz s.tw
def TownOk (g : G) (H : Hp) : Tn → Prop
  | none => g.tw = none
  | some (c, rs) => ∃ a b, g.tw = some (a, b) ∧ a ≠ b ∧ H a = some (.dK [(.inr "count", .int c), (.inr "rests", .ref b)]) ∧ H b = some (.dK (rs.map fun p => (Sum.inl p.1, V.int p.2)))
/-- constants of a row: the tables of code objects; the addresses of the exceptions' classes -/
structure Cn where
  T : List (Addr × Str)
  ex : Nat → Addr
structure Wf (C : Cn) (g : G) (H : Hp) (t : Tn) : Prop where
  fz : Same g.Fz H
  tw : TownOk g H t
  ntw : ∀ b, g.isTw b → g.Fz b = none
  tab : LamX.Tabs C.T H
  nft : ∀ b ps, g.Fz b ≠ some (.tbl ps)
theorem nft_upd {F : Hp} {p : Addr} {o : HO} (h : ∀ b ps, F b ≠ some (.tbl ps)) (ho : ∀ ps, o ≠ .tbl ps) : ∀ b ps, upd F p o b ≠ some (.tbl ps) := fun b ps e => by
  by_cases hb : b = p
  · rw [hb, upd_same] at e; exact ho ps (Option.some.inj e)
  · rw [upd_ne hb] at e; exact h b ps e
/-- a town's dict is a dict -/
theorem Wf.twd {C : Cn} {g : G} {H : Hp} {t : Tn} (w : Wf C g H t) {b : Addr} (h : g.isTw b) : ∃ kvs, H b = some (.dK kvs) := by
  obtain ⟨p, hp, q⟩ := h
  cases t with
  | none => rw [show g.tw = none from w.tw] at hp; cases hp
  | some cr =>
    obtain ⟨a, c, e, _, h1, h2⟩ := w.tw
    rw [hp] at e
    cases e
    rcases q with q | q
    · exact ⟨_, by rw [q]; exact h1⟩
    · exact ⟨_, by rw [q]; exact h2⟩
theorem Wf.ntL {C : Cn} {g : G} {H : Hp} {t : Tn} (w : Wf C g H t) {b : Addr} {xs : List V} (h : H b = some (.lst xs)) : ¬ g.isTw b := fun z => by
  obtain ⟨kvs, e⟩ := w.twd z
  rw [h] at e; cases e
theorem Wf.ntN {C : Cn} {g : G} {H : Hp} {t : Tn} (w : Wf C g H t) {b : Addr} (h : H b = none) : ¬ g.isTw b := fun z => by
  obtain ⟨kvs, e⟩ := w.twd z
  rw [h] at e; cases e
theorem Wf.fzN {C : Cn} {g : G} {H : Hp} {t : Tn} (w : Wf C g H t) {b : Addr} (h : H b = none) : g.Fz b = none := by
  cases z : g.Fz b with
  | none => rfl
  | some o => rw [w.fz b o z] at h; cases h
/-- a dict's pairs -/
def RpK (K : PySem.W.Frag) (g : G) (vs : List (Key × V)) (ks : List (Key × D)) : Prop := vs.map (·.1) = ks.map (·.1) ∧ RpA K g (vs.map (·.2)) (ks.map (·.2))
/-- what a slot tells -/
def SVok (K : PySem.W.Frag) (g : G) (H : Hp) : SV → Option (Option V) → Prop
  | .un, _ => True
  | .val d, o => ∃ v, o = some (some v) ∧ Rp K g v d
  | .own ds, o => ∃ p vs, o = some (some (.ref p)) ∧ H p = some (.lst vs) ∧ RpA K g vs ds ∧ g.Fz p = none
  | .dic ks, o => ∃ p vs, o = some (some (.ref p)) ∧ H p = some (.dK vs) ∧ RpK K g vs ks ∧ g.Fz p = none ∧ ¬ g.isTw p
  | .raw v, o => o = some (some v)
  | .exn c, o => ∃ p, o = some (some (.ref p)) ∧ H p = some (ExK (.ref c) p)
/-- the slots -/
structure SL (K : PySem.W.Frag) (g : G) (H : Hp) (σ : L2.St) (S : Sl) : Prop where
  len : σ.length = S.length
  ok : ∀ (i : Nat) x, S[i]? = some x → SVok K g H x σ[i]?
  dis : ∀ (i j : Nat) p x y, S[i]? = some x → S[j]? = some y → isOw x = true → isOw y = true → σ[i]? = some (some (.ref p)) → σ[j]? = some (some (.ref p)) → i = j
section
variable {K : PySem.W.Frag} {g : G} {H : Hp} {σ : L2.St} {S : Sl}
theorem SL.val (s : SL K g H σ S) (i : Nat) (d : D) (e : S[i]? = some (.val d)) : ∃ v, σ[i]? = some (some v) ∧ Rp K g v d := s.ok i _ e
theorem SL.own (s : SL K g H σ S) (i : Nat) (ds : List D) (e : S[i]? = some (.own ds)) : ∃ p vs, σ[i]? = some (some (.ref p)) ∧ H p = some (.lst vs) ∧ RpA K g vs ds ∧ g.Fz p = none := s.ok i _ e
theorem SL.dic (s : SL K g H σ S) (i : Nat) (ks : List (Key × D)) (e : S[i]? = some (.dic ks)) : ∃ p vs, σ[i]? = some (some (.ref p)) ∧ H p = some (.dK vs) ∧ RpK K g vs ks ∧ g.Fz p = none ∧ ¬ g.isTw p := s.ok i _ e
theorem SL.raw (s : SL K g H σ S) (i : Nat) (v : V) (e : S[i]? = some (.raw v)) : σ[i]? = some (some v) := s.ok i _ e
/-- the address of an object of one's own, and that it is there -/
theorem SL.ow (s : SL K g H σ S) {i : Nat} {x : SV} (e : S[i]? = some x) (h : isOw x = true) : ∃ p o, σ[i]? = some (some (.ref p)) ∧ H p = some o ∧ g.Fz p = none ∧ ∀ ps, o ≠ .tbl ps := by
  cases x with
  | own ds => obtain ⟨p, vs, h1, h2, h3, h4⟩ := s.own i ds e; exact ⟨p, _, h1, h2, h4, fun _ z => nomatch z⟩
  | dic ks => obtain ⟨p, vs, h1, h2, h3, h4, h5⟩ := s.dic i ks e; exact ⟨p, _, h1, h2, h4, fun _ z => nomatch z⟩
  | _ => cases h
/-- a slot is set -/
theorem SL.put (s : SL K g H σ S) {i : Nat} {x : SV} {o : Option V} (hx : SVok K g H x (some o)) (hd : isOw x = true → ∀ p, o = some (.ref p) → ∀ (j : Nat) y, S[j]? = some y → isOw y = true → σ[j]? = some (some (.ref p)) → j = i) : SL K g H (σ.set i o) (S.set i x) where
  len := by rw [List.length_set, List.length_set]; exact s.len
  ok := fun j y e => by
    by_cases h : i = j
    · subst h
      by_cases hl : i < S.length
      · rw [List.getElem?_set_self hl] at e
        cases e
        rw [List.getElem?_set_self (by rw [s.len]; exact hl)]
        exact hx
      · rw [List.getElem?_eq_none (by rw [List.length_set]; omega)] at e; cases e
    · rw [List.getElem?_set_ne h] at e ⊢
      exact s.ok j y e
  dis := fun j k q y z e1 e2 o1 o2 e3 e4 => by
    have lt : ∀ {m} {y : SV}, (S.set i x)[m]? = some y → m < S.length := fun {m y} e => by
      obtain ⟨h, _⟩ := List.getElem?_eq_some_iff.mp e
      rw [List.length_set] at h
      exact h
    by_cases h1 : i = j
    · by_cases h2 : i = k
      · exact h1.symm.trans h2
      · subst h1
        have l1 := lt e1
        rw [List.getElem?_set_self l1] at e1
        rw [List.getElem?_set_self (by rw [s.len]; exact l1)] at e3
        cases e1
        rw [List.getElem?_set_ne h2] at e2 e4
        cases e3
        exact (hd o1 q rfl k z e2 o2 e4).symm
    · by_cases h2 : i = k
      · subst h2
        have l2 := lt e2
        rw [List.getElem?_set_self l2] at e2
        rw [List.getElem?_set_self (by rw [s.len]; exact l2)] at e4
        cases e2
        rw [List.getElem?_set_ne h1] at e1 e3
        cases e4
        exact hd o2 q rfl j y e1 o1 e3
      · rw [List.getElem?_set_ne h1] at e1 e3
        rw [List.getElem?_set_ne h2] at e2 e4
        exact s.dis j k q y z e1 e2 o1 o2 e3 e4
end
theorem RpK.stp {K : PySem.W.Frag} {g g' : G} {H H' : Hp} {vs : List (Key × V)} {ks : List (Key × D)} (r : RpK K g vs ks) (p : Stp g H g' H') : RpK K g' vs ks := ⟨r.1, r.2.stp p⟩
theorem Stp.ntw {g g' : G} {H H' : Hp} {b : Addr} {o : HO} (p : Stp g H g' H') (h : H b = some o) (n : ¬ g.isTw b) (nt : ∀ ps, o ≠ .tbl ps) : ¬ g'.isTw b := fun ⟨q, hq, z⟩ => by
  cases e : g.tw with
  | some q' =>
    have := p.tw q' e
    rw [hq] at this
    cases this
    exact n ⟨q, e, z⟩
  | none =>
    obtain ⟨z1, z2⟩ := p.twn e q.1 q.2 hq
    rcases z with z | z
    · exact z1 ⟨o, by rw [← z]; exact h, nt⟩
    · exact z2 ⟨o, by rw [← z]; exact h, nt⟩
theorem SL.stp {K : PySem.W.Frag} {C : Cn} {g g' : G} {H H' : Hp} {t : Tn} {σ : L2.St} {S : Sl} (s : SL K g H σ S) (w : Wf C g H t) (p : Stp g H g' H') : SL K g' H' σ S where
  len := s.len
  ok := fun i x e => by
    have h := s.ok i x e
    cases x with
    | un => trivial
    | val d => obtain ⟨v, h1, h2⟩ := h; exact ⟨v, h1, h2.stp p⟩
    | own ds =>
      obtain ⟨a, vs, h1, h2, h3, h4⟩ := h
      exact ⟨a, vs, h1, p.frm _ _ h2 (w.ntL h2) (fun _ z => nomatch z), h3.stp p, by rw [p.new a ⟨_, h2, fun _ z => nomatch z⟩]; exact h4⟩
    | dic ks =>
      obtain ⟨a, vs, h1, h2, h3, h4, h5⟩ := h
      exact ⟨a, vs, h1, p.frm _ _ h2 h5 (fun _ z => nomatch z), h3.stp p, by rw [p.new a ⟨_, h2, fun _ z => nomatch z⟩]; exact h4, p.ntw h2 h5 (fun _ z => nomatch z)⟩
    | raw v => exact h
    | exn c =>
      obtain ⟨p0, h1, h2⟩ := h
      refine ⟨p0, h1, p.frm _ _ h2 (fun z => ?_) (fun _ z => by unfold ExK at z; cases z)⟩
      obtain ⟨kvs, e⟩ := w.twd z
      rw [h2] at e
      unfold ExK at e
      cases e
  dis := s.dis
/-- what is wanted behind -/
def Post {α : Type} (C : Cn) (E : XK) (g : G) (H : Hp) (Rok : α → Tn → G → Hp → Prop) : Option (Out α) → Prop
  | none => False
  | some (.ok a t') => ∀ g' H', Stp g H g' H' → Wf C g' H' t' → Rok a t' g' H'
  | some (.exc c t') => ∀ g' H', Stp g H g' H' → Wf C g' H' t' → E (.ref (C.ex c)) none H'
section
variable {α β : Type} {C : Cn} {E : XK} {g g1 : G} {H H1 : Hp} {Rok : α → Tn → G → Hp → Prop}
theorem Post.stp {r : Option (Out α)} (h : Post C E g H Rok r) (s : Stp g H g1 H1) : Post C E g1 H1 Rok r := by
  cases r with
  | none => exact h
  | some o =>
    cases o with
    | ok a t' => exact fun g' H' s' w => h g' H' (s.trans s') w
    | exc c t' => exact fun g' H' s' w => h g' H' (s.trans s') w
theorem Post.imp {r : Option (Out α)} {Rok' : α → Tn → G → Hp → Prop} (h : Post C E g H Rok r) (f : ∀ a t' g' H', Stp g H g' H' → Wf C g' H' t' → Rok a t' g' H' → Rok' a t' g' H') : Post C E g H Rok' r := by
  cases r with
  | none => exact h
  | some o =>
    cases o with
    | ok a t' => exact fun g' H' s' w => f a t' g' H' s' w (h g' H' s' w)
    | exc c t' => exact h
theorem Post.bnd {Rok : β → Tn → G → Hp → Prop} {m : M α} {k : α → M β} {t : Tn} (h : Post C E g H Rok (bnd m k t)) : Post C E g H (fun a t1 g1 H1 => Post C E g1 H1 Rok (k a t1)) (m t) := by
  unfold BG.bnd at h
  cases e : m t with
  | none => rw [e] at h; exact h
  | some o =>
    rw [e] at h
    cases o with
    | ok a t' => exact fun g' H' s' w => Post.stp h s'
    | exc c t' => exact h
theorem postRet {a : α} {t : Tn} (h : Post C E g H Rok (ret a t)) (w : Wf C g H t) : Rok a t g H := h g H (.refl g H) w
theorem Post.calm {m : M α} {t : Tn} (h : Post C E g H Rok (calm m t)) (E' : XK) : Post C E' g H Rok (m t) := by
  unfold BG.calm at h
  cases e : m t with
  | none => rw [e] at h; exact h.elim
  | some o =>
    rw [e] at h
    cases o with
    | ok a t' => exact h
    | exc c t' => exact h.elim
end
/-- the weak relation: data, or a list of one's own -/
def RpW (K : PySem.W.Frag) (g : G) (H : Hp) (v : V) (d : D) : Prop := Rp K g v d ∨ ∃ p vs ds, d = .lst ds ∧ v = .ref p ∧ H p = some (.lst vs) ∧ RpA K g vs ds
theorem RpW.stp {K : PySem.W.Frag} {C : Cn} {g g' : G} {H H' : Hp} {t : Tn} {v : V} {d : D} (w : Wf C g H t) (s : Stp g H g' H') (h : RpW K g H v d) : RpW K g' H' v d := by
  rcases h with h | ⟨p, vs, ds, e1, e2, e3, e4⟩
  · exact .inl (h.stp s)
  · exact .inr ⟨p, vs, ds, e1, e2, s.frm _ _ e3 (w.ntL e3) (fun _ z => nomatch z), e4.stp s⟩
/-- a list that was just made -/
def RpF (K : PySem.W.Frag) (H0 : Hp) (g : G) (H : Hp) (v : V) (d : D) : Prop := ∃ p vs ds, d = .lst ds ∧ v = .ref p ∧ ¬ Nt H0 p ∧ H p = some (.lst vs) ∧ RpA K g vs ds ∧ g.Fz p = none
abbrev Ex := Sl → M D
def tE (K : PySem.W.Frag) (C : Cn) (E : XK) (f : Ex) : TE := fun σ H Q => ∃ g S t, Wf C g H t ∧ SL K g H σ S ∧ Post C E g H (fun d _ g' H' => ∀ v, Rp K g' v d → Q v H') (f S t)
def tW (K : PySem.W.Frag) (C : Cn) (E : XK) (f : Ex) : TE := fun σ H Q => ∃ g S t, Wf C g H t ∧ SL K g H σ S ∧ Post C E g H (fun d _ g' H' => ∀ v, RpW K g' H' v d → Q v H') (f S t)
def tF (K : PySem.W.Frag) (C : Cn) (E : XK) (f : Ex) : TE := fun σ H Q => ∃ g S t, Wf C g H t ∧ SL K g H σ S ∧ Post C E g H (fun d _ g' H' => ∀ v, RpF K H g' H' v d → Q v H') (f S t)
def tT (K : PySem.W.Frag) (C : Cn) (E : XK) (f : Ex) : TT := fun σ H Q => ∃ g S t, Wf C g H t ∧ SL K g H σ S ∧ Post C E g H (fun d _ g' H' => ∃ b, d = .bl b ∧ Q b H') (f S t)
def tAs (K : PySem.W.Frag) (C : Cn) (E : XK) (f : Sl → M (List D)) : TA := fun σ H Q => ∃ g S t, Wf C g H t ∧ SL K g H σ S ∧ Post C E g H (fun ds _ g' H' => ∀ vs, RpA K g' vs ds → Q vs H') (f S t)
abbrev CE (X : Cx) (C : Cn) (E : XK) (e : Expr) (f : Ex) : Prop := PE X e (tE X.K C E f)
abbrev CW (X : Cx) (C : Cn) (E : XK) (e : Expr) (f : Ex) : Prop := PE X e (tW X.K C E f)
abbrev CF (X : Cx) (C : Cn) (E : XK) (e : Expr) (f : Ex) : Prop := PE X e (tF X.K C E f)
abbrev CT (X : Cx) (C : Cn) (E : XK) (e : Expr) (f : Ex) : Prop := PT X e (tT X.K C E f)
abbrev CA (X : Cx) (C : Cn) (E : XK) (es : List Expr) (f : Sl → M (List D)) : Prop := PA X es (tAs X.K C E f)
theorem PE.imp {X : Cx} {e : Expr} {t t' : TE} (h : PE X e t) (f : ∀ σ H Q, t' σ H Q → t σ H Q) : PE X e t' := ⟨fun pins s σ H Q I q => h.run pins s σ H Q I (f σ H Q q)⟩
theorem PT.imp {X : Cx} {e : Expr} {t t' : TT} (h : PT X e t) (f : ∀ σ H Q, t' σ H Q → t σ H Q) : PT X e t' := ⟨fun pins s σ H Q I q => h.run pins s σ H Q I (f σ H Q q)⟩
theorem PA.imp {X : Cx} {e : List Expr} {t t' : TA} (h : PA X e t) (f : ∀ σ H Q, t' σ H Q → t σ H Q) : PA X e t' := ⟨fun pos pins s σ H Q I q => h.run pos pins s σ H Q I (f σ H Q q)⟩
theorem PS.imp {X : Cx} {e : Stmt} {t t' : TS} (h : PS X e t) (f : ∀ D σ H, t' D σ H → t D σ H) : PS X e t' := ⟨fun pins s σ H D I q => h.run pins s σ H D I (f D σ H q)⟩
theorem PSs.imp {X : Cx} {e : List Stmt} {t t' : TS} (h : PSs X e t) (f : ∀ D σ H, t' D σ H → t D σ H) : PSs X e t' := ⟨fun pins s σ H D I q => h.run pins s σ H D I (f D σ H q)⟩
section
variable {X : Cx} {C : Cn} {E : XK} {e : Expr} {f : Ex}
theorem e2w (h : CE X C E e f) : CW X C E e f := PE.imp h fun σ H Q ⟨g, S, t, w, s, p⟩ => ⟨g, S, t, w, s, p.imp fun d t' g' H' _ _ q v r => q v (.inl r)⟩
/-- the list that was just made is frozen -/
theorem Rp.frz {K : PySem.W.Frag} {g0 g : G} {H0 H : Hp} {t : Tn} {v : V} {d : D} (r : RpF K H0 g H v d) (s : Stp g0 H0 g H) (w : Wf C g H t) : ∃ g', Stp g0 H0 g' H ∧ Wf C g' H t ∧ Rp K g' v d := by
  obtain ⟨p, vs, ds, rfl, rfl, e0, e1, ra, e2⟩ := r
  have sm : Same g.Fz (upd g.Fz p (.lst vs)) := fun b o h => by
    rw [upd_ne (ne_of_none h e2)]; exact h
  refine ⟨⟨upd g.Fz p (.lst vs), g.tw⟩, ⟨s.fz.trans sm, s.tw, s.twn, s.frm, s.thr, fun b h => ?_⟩, ⟨fun b o h => ?_, w.tw, fun b h => ?_, w.tab, nft_upd w.nft fun _ z => by cases z⟩, ?_⟩
  · have nb : b ≠ p := fun z => e0 (by rw [← z]; exact h)
    show upd g.Fz p (.lst vs) b = _
    rw [upd_ne nb]
    exact s.new b h
  · have h : upd g.Fz p (.lst vs) b = some o := h
    by_cases hb : b = p
    · rw [hb, upd_same] at h
      cases h
      rw [hb]; exact e1
    · rw [upd_ne hb] at h
      exact w.fz b o h
  · have nb : b ≠ p := fun z => w.ntL e1 (by rw [← z]; exact h)
    show upd g.Fz p (.lst vs) b = _
    rw [upd_ne nb]
    exact w.ntw b h
  · exact .lst upd_same (RpA.mono (g' := ⟨upd g.Fz p (.lst vs), g.tw⟩) sm (fun _ h => h) ra)
theorem f2e (h : CF X C E e f) : CE X C E e f := PE.imp h fun σ H Q ⟨g, S, t, w, s, p⟩ => by
  refine ⟨g, S, t, w, s, ?_⟩
  cases r : f S t with
  | none => rw [r] at p; exact p
  | some o =>
    rw [r] at p
    cases o with
    | exc c t' => exact p
    | ok d t' =>
      intro g' H' s' w' v rf
      obtain ⟨g2, s2, w2, r2⟩ := Rp.frz rf s' w'
      exact p g2 H' s2 w2 v r2
theorem f2w (h : CF X C E e f) : CW X C E e f := e2w (f2e h)
end
theorem RpW.lst {K : PySem.W.Frag} {C : Cn} {g : G} {H : Hp} {t : Tn} {v : V} {ds : List D} (w : Wf C g H t) (h : RpW K g H v (.lst ds)) : ∃ p vs, v = .ref p ∧ H p = some (.lst vs) ∧ RpA K g vs ds := by
  rcases h with h | ⟨p, vs, ds', e1, e2, e3, e4⟩
  · cases h with
    | lst a b => exact ⟨_, _, rfl, w.fz _ _ a, b⟩
  · cases e1
    exact ⟨p, vs, e2, e3, e4⟩
theorem RpW.tup {K : PySem.W.Frag} {C : Cn} {g : G} {H : Hp} {t : Tn} {v : V} {ds : List D} (w : Wf C g H t) (h : RpW K g H v (.tup ds)) : ∃ p vs, v = .ref p ∧ SqT K H p vs ∧ RpA K g vs ds := by
  rcases h with h | ⟨p, vs, ds', e1, e2, e3, e4⟩
  · cases h with
    | tup a b => exact ⟨_, _, rfl, Same.tseq w.fz a, b⟩
  · cases e1
theorem RpW.int {K : PySem.W.Frag} {g : G} {H : Hp} {v : V} {i : Int} (h : RpW K g H v (.int i)) : v = .int i := by
  rcases h with h | ⟨p, vs, ds', e1, e2, e3, e4⟩
  · cases h; rfl
  · cases e1
theorem RpW.str {K : PySem.W.Frag} {g : G} {H : Hp} {v : V} {i : Str} (h : RpW K g H v (.str i)) : v = .str i := by
  rcases h with h | ⟨p, vs, ds', e1, e2, e3, e4⟩
  · cases h; rfl
  · cases e1
theorem RpW.bl {K : PySem.W.Frag} {g : G} {H : Hp} {v : V} {i : Bool} (h : RpW K g H v (.bl i)) : v = .bl i := by
  rcases h with h | ⟨p, vs, ds', e1, e2, e3, e4⟩
  · cases h; rfl
  · cases e1
theorem RpW.non {K : PySem.W.Frag} {g : G} {H : Hp} {v : V} (h : RpW K g H v .non) : v = .non := by
  rcases h with h | ⟨p, vs, ds', e1, e2, e3, e4⟩
  · cases h; rfl
  · cases e1
/-- an operand, then what follows -/
theorem tE.seq {K : PySem.W.Frag} {C : Cn} {E : XK} {fa : Ex} {k : Sl → D → M D} {σ : L2.St} {H : Hp} {Q Q1 : VK} (h : tE K C E (fun S => bnd (fa S) (k S)) σ H Q)
    (f : ∀ g S t x d H1, Wf C g H1 t → SL K g H1 σ S → Rp K g x d → Post C E g H1 (fun d _ g' H' => ∀ v, Rp K g' v d → Q v H') (k S d t) → Q1 x H1) : tE K C E fa σ H Q1 := by
  obtain ⟨g, S, t, w, s, p⟩ := h
  exact ⟨g, S, t, w, s, p.bnd.imp fun d t' g' H' st w' q v r => f g' S t' v d H' w' (s.stp w st) r q⟩
theorem tW.seq {K : PySem.W.Frag} {C : Cn} {E : XK} {fa : Ex} {k : Sl → D → M D} {σ : L2.St} {H : Hp} {Q Q1 : VK} (h : tE K C E (fun S => bnd (fa S) (k S)) σ H Q)
    (f : ∀ g S t x d H1, Wf C g H1 t → SL K g H1 σ S → RpW K g H1 x d → Post C E g H1 (fun d _ g' H' => ∀ v, Rp K g' v d → Q v H') (k S d t) → Q1 x H1) : tW K C E fa σ H Q1 := by
  obtain ⟨g, S, t, w, s, p⟩ := h
  exact ⟨g, S, t, w, s, p.bnd.imp fun d t' g' H' st w' q v r => f g' S t' v d H' w' (s.stp w st) r q⟩
/-- a new object laid, tracked, not frozen -/
theorem Stp.lay {C : Cn} {g : G} {H : Hp} {t : Tn} {p : Addr} {o : HO} (w : Wf C g H t) (hp : H p = none) : Stp g H g (upd H p o) :=
  ⟨fun _ _ h => h, fun _ h => h, fun h a b e => (by rw [h] at e; cases e), fun b o' h _ _ => (by rw [upd_ne (ne_of_none h hp)]; exact h), fun b ⟨o', h, n⟩ => ⟨o', by rw [upd_ne (ne_of_none h hp)]; exact h, n⟩, fun _ _ => rfl⟩
theorem Wf.lay {C : Cn} {g : G} {H : Hp} {t : Tn} {p : Addr} {o : HO} (w : Wf C g H t) (hp : H p = none) : Wf C g (upd H p o) t where
  fz := fun b o' h => by rw [upd_ne (ne_of_none (w.fz b o' h) hp)]; exact w.fz b o' h
  tw := by
    cases t with
    | none => exact w.tw
    | some cr =>
      obtain ⟨a, b, e1, e2, e3, e4⟩ := w.tw
      exact ⟨a, b, e1, e2, by rw [upd_ne (ne_of_none e3 hp)]; exact e3, by rw [upd_ne (ne_of_none e4 hp)]; exact e4⟩
  ntw := w.ntw
  tab := w.tab.ext fun b o' h => by rw [upd_ne (ne_of_none h hp)]; exact h
  nft := w.nft
/-- .. frozen: a tuple -/
theorem layT {K : PySem.W.Frag} {C : Cn} {g : G} {H : Hp} {t : Tn} {p : Addr} {vs : List V} {ds : List D} (w : Wf C g H t) (hp : H p = none) (r : RpA K g vs ds) :
    ∃ g', Stp g H g' (upd H p (.tup vs)) ∧ Wf C g' (upd H p (.tup vs)) t ∧ Rp K g' (.ref p) (.tup ds) := by
  have f0 : g.Fz p = none := w.fzN hp
  have sm : Same g.Fz (upd g.Fz p (.tup vs)) := fun b o h => by
    rw [upd_ne (ne_of_none h f0)]; exact h
  have s1 := Stp.lay (o := HO.tup vs) w hp
  have w1 := Wf.lay (o := HO.tup vs) w hp
  refine ⟨⟨upd g.Fz p (.tup vs), g.tw⟩, ⟨sm, s1.tw, s1.twn, s1.frm, s1.thr, fun b h => ?_⟩, ⟨fun b o h => ?_, w1.tw, fun b h => ?_, w1.tab, nft_upd w1.nft fun _ z => by cases z⟩, ?_⟩
  · have nb : b ≠ p := fun z => Nt.no hp (by rw [← z]; exact h)
    show upd g.Fz p (.tup vs) b = _
    rw [upd_ne nb]
  · have h : upd g.Fz p (.tup vs) b = some o := h
    by_cases hb : b = p
    · rw [hb, upd_same] at h
      cases h
      rw [hb]; exact upd_same
    · rw [upd_ne hb] at h
      exact w1.fz b o h
  · have nb : b ≠ p := fun z => w.ntN hp (by rw [← z]; exact h)
    show upd g.Fz p (.tup vs) b = _
    rw [upd_ne nb]
    exact w.ntw b h
  · exact .tup (.inl (.inl upd_same)) (RpA.mono (g' := ⟨upd g.Fz p (.tup vs), g.tw⟩) sm (fun _ h => h) r)
/-- a new list, not frozen yet -/
theorem layL {K : PySem.W.Frag} {C : Cn} {g : G} {H : Hp} {t : Tn} {p : Addr} {vs : List V} {ds : List D} (w : Wf C g H t) (hp : H p = none) (r : RpA K g vs ds) : RpF K H g (upd H p (.lst vs)) (.ref p) (.lst ds) :=
  ⟨p, vs, ds, rfl, rfl, Nt.no hp, upd_same, r, w.fzN hp⟩
end BG
set_option Elab.async false
set_option linter.all false
set_option maxRecDepth 100000
set_option maxHeartbeats 4000000
namespace BG
open PySem PySem.Spec PyProof.Rows L2
def eVar (i : Nat) : Ex := fun S => match S[i]? with
  | some (.val d) => ret d
  | _ => stuck
def ePeek (i : Nat) : Ex := fun S => match S[i]? with
  | some (.val d) => ret d
  | some (.own ds) => ret (.lst ds)
  | _ => stuck
def eC (d : D) : Ex := fun _ => ret d
def eBin (op : D → D → M D) (a b : Ex) : Ex := fun S => bnd (a S) fun x => bnd (b S) fun y => op x y
def eUn (op : D → M D) (a : Ex) : Ex := fun S => bnd (a S) fun x => op x
def evs : List Ex → Sl → M (List D)
  | [], _ => ret []
  | f :: fs, S => bnd (f S) fun d => bnd (evs fs S) fun ds => ret (d :: ds)
def eTup (fs : List Ex) : Ex := fun S => bnd (evs fs S) fun ds => ret (.tup ds)
def eLst (fs : List Ex) : Ex := fun S => bnd (evs fs S) fun ds => ret (.lst ds)
def eAnd (a b : Ex) : Ex := fun S => bnd (a S) fun x => match x with
  | .bl true => b S
  | .bl false => ret (.bl false)
  | _ => stuck
def eOr (a b : Ex) : Ex := fun S => bnd (a S) fun x => match x with
  | .bl true => ret (.bl true)
  | .bl false => b S
  | _ => stuck
def oNot (x : D) : M D := match x with
  | .bl b => ret (.bl (!b))
  | _ => stuck
def eIf (c a b : Ex) : Ex := fun S => bnd (c S) fun x => match x with
  | .bl true => a S
  | .bl false => b S
  | _ => stuck
theorem evs_length : ∀ {fs : List Ex} {S : Sl} {t t' : Tn} {ds : List D}, evs fs S t = some (.ok ds t') → ds.length = fs.length
  | [], _, _, _, ds, h => by
    have h : some (Out.ok ([] : List D) _) = some (Out.ok ds _) := h
    cases h; rfl
  | f :: fs, S, t, t', ds, h => by
    unfold evs bnd at h
    cases e : f S t with
    | none => rw [e] at h; cases h
    | some o =>
      rw [e] at h
      cases o with
      | exc c t1 => cases h
      | ok d t1 =>
        cases e2 : evs fs S t1 with
        | none => simp only [e2] at h; cases h
        | some o2 =>
          simp only [e2] at h
          cases o2 with
          | exc c t2 => cases h
          | ok ds2 t2 =>
            have h : some (Out.ok (d :: ds2) t2) = some (Out.ok ds t') := h
            cases h
            rw [List.length_cons, List.length_cons, evs_length e2]
section
variable {α : Type} {C : Cn} {E : XK} {g : G} {H : Hp} {Rok Rok' : α → Tn → G → Hp → Prop}
theorem Post.impE {r : Option (Out α)} (h : Post C E g H Rok r) (f : ∀ a t', r = some (.ok a t') → ∀ g' H', Stp g H g' H' → Wf C g' H' t' → Rok a t' g' H' → Rok' a t' g' H') : Post C E g H Rok' r := by
  cases r with
  | none => exact h
  | some o =>
    cases o with
    | ok a t' => exact fun g' H' s' w => f a t' rfl g' H' s' w (h g' H' s' w)
    | exc c t' => exact h
end
section
variable {X : Cx} {C : Cn} {E : XK}
theorem ce_var (i : Nat) {x : Str} {pos : Pos} (hN : X.N[i]? = some x := by rfl) (hv : Vis X.env.scope x := by first | exact Or.inl rfl | exact Or.inr (Or.inl rfl) | exact Or.inr (Or.inr rfl)) (hd : (x == ("__debug__" : Str)) = false := by decide)
    (hcd : (x == ("__classdict__" : Str)) = false := by decide) : CE X C E (.Name x pos) (eVar i) := by
  refine PE.imp (pe_var hN hv hd hcd) fun σ H Q ⟨g, S, t, w, s, p⟩ => ?_
  unfold eVar at p
  cases e : S[i]? with
  | none => rw [e] at p; exact p.elim
  | some sv =>
    rw [e] at p
    cases sv with
    | un => exact p.elim
    | own ds => exact p.elim
    | dic ks => exact p.elim
    | raw v => exact p.elim
    | exn v => exact p.elim
    | val d =>
      obtain ⟨v, h1, h2⟩ := s.val i d e
      exact ⟨v, h1, postRet p w v h2⟩
theorem cw_peek (i : Nat) {x : Str} {pos : Pos} (hN : X.N[i]? = some x := by rfl) (hv : Vis X.env.scope x := by first | exact Or.inl rfl | exact Or.inr (Or.inl rfl) | exact Or.inr (Or.inr rfl)) (hd : (x == ("__debug__" : Str)) = false := by decide)
    (hcd : (x == ("__classdict__" : Str)) = false := by decide) : CW X C E (.Name x pos) (ePeek i) := by
  refine PE.imp (pe_var hN hv hd hcd) fun σ H Q ⟨g, S, t, w, s, p⟩ => ?_
  unfold ePeek at p
  cases e : S[i]? with
  | none => rw [e] at p; exact p.elim
  | some sv =>
    rw [e] at p
    cases sv with
    | un => exact p.elim
    | dic ks => exact p.elim
    | raw v => exact p.elim
    | exn v => exact p.elim
    | own ds =>
      obtain ⟨a, vs, h1, h2, h3, h4⟩ := s.own i ds e
      exact ⟨_, h1, postRet p w _ (.inr ⟨a, vs, ds, rfl, rfl, h2, h3⟩)⟩
    | val d =>
      obtain ⟨v, h1, h2⟩ := s.val i d e
      exact ⟨v, h1, postRet p w v (.inl h2)⟩
theorem ce_int {i j pos} : CE X C E (.Constant (.int i) j pos) (eC (.int i)) := PE.imp pe_int fun σ H Q ⟨g, S, t, w, s, p⟩ => postRet p w _ (.int i)
theorem ce_bl {i j pos} : CE X C E (.Constant (.bool i) j pos) (eC (.bl i)) := PE.imp pe_bl fun σ H Q ⟨g, S, t, w, s, p⟩ => postRet p w _ (.bl i)
theorem ce_non {j pos} : CE X C E (.Constant .none j pos) (eC .non) := PE.imp pe_non fun σ H Q ⟨g, S, t, w, s, p⟩ => postRet p w _ .non
theorem ce_str {x j pos} : CE X C E (.Constant (.str x) j pos) (eC (.str x)) := PE.imp pe_str fun σ H Q ⟨g, S, t, w, s, p⟩ => postRet p w _ (.str x)
/-- a module's constant: its value in the written part -/
theorem ce_glob {x : Str} {v : V} {u : Value} {d : D} {pos : Pos} (hm : X.mg x = some u) (hr : RelV v u) (r : ∀ g, Rp X.K g v d) (hg : Gl X x := by rfl) (hd : (x == ("__debug__" : Str)) = false := by decide) : CE X C E (.Name x pos) (eC d) :=
  PE.imp (pe_glob hg hm hr hd) fun σ H Q ⟨g, S, t, w, s, p⟩ => postRet p w _ (r g)
/-- two operands by values: a law of an operation -/
def rD (K : PySem.W.Frag) (C : Cn) (E : XK) (prim : D → D → M D) : R2 := fun x y H Q => ∃ g t p q, Wf C g H t ∧ RpW K g H x p ∧ RpW K g H y q ∧ Post C E g H (fun d _ g' H' => ∀ v, Rp K g' v d → Q v H') (prim p q t)
abbrev BinOk (X : Cx) (C : Cn) (E : XK) (f : Value → Value → Sem Value) (prim : D → D → M D) : Prop := OpR X f (rD X.K C E prim)
theorem OpR.imp {f : Value → Value → Sem Value} {r r' : R2} (h : OpR X f r) (i : ∀ x y H Q, r' x y H Q → r x y H Q) : OpR X f r' := fun pins s σ H x y v u Q I rx ry q => h pins s σ H x y v u Q I rx ry (i x y H Q q)
theorem tW.two {prim : D → D → M D} {fa fb : Ex} {σ : L2.St} {H : Hp} {Q : VK} (h : tE X.K C E (eBin prim fa fb) σ H Q) : tOp (rD X.K C E prim) (tW X.K C E fa) (tW X.K C E fb) σ H Q := by
  refine tW.seq h fun g S t x d H1 w s rx p1 => ?_
  exact ⟨g, S, t, w, s, p1.bnd.imp fun d2 t2 g2 H2 st w2 q v r2 => ⟨g2, t2, d, d2, w2, rx.stp w st, r2, q⟩⟩
theorem ce_bin {op : Operator} {prim : D → D → M D} {a b : Expr} {fa fb : Ex} {pos : Pos} (ho : BinOk X C E (binaryOp op) prim) (ha : CW X C E a fa) (hb : CW X C E b fb) : CE X C E (.BinOp a op b pos) (eBin prim fa fb) :=
  PE.imp (pe_op ho ha hb) fun σ H Q h => tW.two h
theorem ce_cmp {op : CmpOp} {prim : D → D → M D} {a b : Expr} {fa fb : Ex} {pos : Pos} (ho : BinOk X C E (compareOp op) prim) (ha : CW X C E a fa) (hb : CW X C E b fb) (hm : behindInMarks op b = false := by rfl) :
    CE X C E (.Compare a [op] [b] pos) (eBin prim fa fb) := PE.imp (pe_cmpR ho ha hb hm) fun σ H Q h => tW.two h
theorem tT.tE {f : Ex} {σ : L2.St} {H : Hp} {Q : Bool → Hp → Prop} (h : tT X.K C E f σ H Q) : tE X.K C E f σ H (fun x H' => ∃ k, x = .bl k ∧ Q k H') := by
  obtain ⟨g, S, t, w, s, p⟩ := h
  exact ⟨g, S, t, w, s, p.imp fun d t' g' H' _ _ ⟨b, e, q⟩ v r => by
    subst e
    cases r
    exact ⟨b, rfl, q⟩⟩
theorem ct_cmp {op : CmpOp} {prim : D → D → M D} {a b : Expr} {fa fb : Ex} {pos : Pos} (ho : BinOk X C E (compareOp op) prim) (ha : CW X C E a fa) (hb : CW X C E b fb) (hm : behindInMarks op b = false := by rfl) :
    CT X C E (.Compare a [op] [b] pos) (eBin prim fa fb) := PT.imp (pt_cmpR ho ha hb hm) fun σ H Q h => tW.two (tT.tE h)
/-- any expression that gives a bool, as a test -/
theorem ct_val {e : Expr} {f : Ex} (h : CE X C E e f) (he : ∀ whole, isTrue e X.env whole = (do let v ← whole; standAt e.pos; holding [v] (truthy v)) := by intro _; rfl) : CT X C E e f :=
  PT.imp (pt_val h he) fun σ H Q h => tT.tE h
theorem tE.and {fa fb : Ex} {σ : L2.St} {H : Hp} {Q : VK} (h : tE X.K C E (eAnd fa fb) σ H Q) : tAndV (tE X.K C E fa) (tE X.K C E fb) σ H Q := by
  refine tE.seq h fun g S t x d H1 w s rx p1 => ?_
  cases d with
  | bl b =>
    cases rx
    refine ⟨b, rfl, ?_⟩
    cases b with
    | true => exact iteT ⟨g, S, t, w, s, p1⟩
    | false => exact iteF (postRet p1 w _ (.bl false))
  | _ => exact p1.elim
theorem tE.or {fa fb : Ex} {σ : L2.St} {H : Hp} {Q : VK} (h : tE X.K C E (eOr fa fb) σ H Q) : tOrV (tE X.K C E fa) (tE X.K C E fb) σ H Q := by
  refine tE.seq h fun g S t x d H1 w s rx p1 => ?_
  cases d with
  | bl b =>
    cases rx
    refine ⟨b, rfl, ?_⟩
    cases b with
    | false => exact iteF ⟨g, S, t, w, s, p1⟩
    | true => exact iteT (postRet p1 w _ (.bl true))
  | _ => exact p1.elim
theorem ce_one {op} {a : Expr} {f : Ex} {pos : Pos} (h : CE X C E a f) : CE X C E (.BoolOp op [a] pos) f := pe_one h
theorem ce_and {a b : Expr} {rest : List Expr} {fa fb : Ex} {pos : Pos} (ha : CE X C E a fa) (hb : CE X C E (.BoolOp .And (b :: rest) pos) fb) : CE X C E (.BoolOp .And (a :: b :: rest) pos) (eAnd fa fb) := PE.imp (pe_and ha hb) fun σ H Q h => tE.and h
theorem ce_or {a b : Expr} {rest : List Expr} {fa fb : Ex} {pos : Pos} (ha : CE X C E a fa) (hb : CE X C E (.BoolOp .Or (b :: rest) pos) fb) : CE X C E (.BoolOp .Or (a :: b :: rest) pos) (eOr fa fb) := PE.imp (pe_or ha hb) fun σ H Q h => tE.or h
theorem ce_not {a : Expr} {fa : Ex} {pos : Pos} (ha : CE X C E a fa) : CE X C E (.UnaryOp .Not a pos) (eUn oNot fa) := PE.imp (pe_not ha) fun σ H Q h => by
  refine tE.seq h fun g S t x d H1 w s rx p1 => ?_
  cases d with
  | bl b =>
    cases rx
    exact ⟨b, rfl, postRet p1 w _ (.bl _)⟩
  | _ => exact p1.elim
/-- a test, then what follows -/
theorem tT.seq {fa : Ex} {k : D → M D} {σ : L2.St} {H : Hp} {Rr : D → Tn → G → Hp → Prop} {Q1 : Bool → Hp → Prop} {g : G} {S : Sl} {t : Tn} (w : Wf C g H t) (s : SL X.K g H σ S) (p : Post C E g H Rr (bnd (fa S) k t)) (nb : ∀ d t, (∀ b, d ≠ .bl b) → k d t = none)
    (f : ∀ g t b H1, Wf C g H1 t → SL X.K g H1 σ S → Post C E g H1 Rr (k (.bl b) t) → Q1 b H1) : tT X.K C E fa σ H Q1 := by
  refine ⟨g, S, t, w, s, p.bnd.imp fun d t' g' H' st w' q => ?_⟩
  by_cases h : ∃ b, d = .bl b
  · obtain ⟨b, rfl⟩ := h
    exact ⟨b, rfl, f g' t' b H' w' (s.stp w st) q⟩
  · have q : Post C E g' H' Rr (k d t') := q
    rw [nb d t' (fun b z => h ⟨b, z⟩)] at q
    exact q.elim
theorem cw_and {a b : Expr} {rest : List Expr} {fa fb : Ex} {pos : Pos} (ha : CT X C E a fa) (hb : PW X (.BoolOp .And (b :: rest) pos) (tT X.K C E fb)) : PW X (.BoolOp .And (a :: b :: rest) pos) (tT X.K C E (eAnd fa fb)) := by
  refine ⟨fun wh pins s σ H Q I h => (pw_and ha hb).run wh pins s σ H Q I ?_⟩
  obtain ⟨g, S, t, w, sl, p⟩ := h
  refine tT.seq (k := fun x => match x with | .bl true => fb S | .bl false => ret (.bl false) | _ => stuck) w sl p (fun d t h => ?_) fun g t b H1 w s p => ?_
  · cases d <;> first | rfl | exact absurd rfl (h _)
  · cases b with
    | true => exact iteT ⟨g, S, t, w, s, p⟩
    | false =>
      obtain ⟨b, e, q⟩ := postRet p w
      cases e
      exact iteF q
theorem cw_or {a b : Expr} {rest : List Expr} {fa fb : Ex} {pos : Pos} (ha : CT X C E a fa) (hb : PW X (.BoolOp .Or (b :: rest) pos) (tT X.K C E fb)) : PW X (.BoolOp .Or (a :: b :: rest) pos) (tT X.K C E (eOr fa fb)) := by
  refine ⟨fun wh pins s σ H Q I h => (pw_or ha hb).run wh pins s σ H Q I ?_⟩
  obtain ⟨g, S, t, w, sl, p⟩ := h
  refine tT.seq (k := fun x => match x with | .bl true => ret (.bl true) | .bl false => fb S | _ => stuck) w sl p (fun d t h => ?_) fun g t b H1 w s p => ?_
  · cases d <;> first | rfl | exact absurd rfl (h _)
  · cases b with
    | false => exact iteF ⟨g, S, t, w, s, p⟩
    | true =>
      obtain ⟨b, e, q⟩ := postRet p w
      cases e
      exact iteT q
theorem ct_w {e : Expr} {f : Ex} (h : PW X e (tT X.K C E f)) : CT X C E e f := h.pt
theorem ct_not {a : Expr} {fa : Ex} {pos : Pos} (ha : CT X C E a fa) : CT X C E (.UnaryOp .Not a pos) (eUn oNot fa) := PT.imp (pt_not ha) fun σ H Q h => by
  obtain ⟨g, S, t, w, sl, p⟩ := h
  refine tT.seq (k := oNot) w sl p (fun d t h => ?_) fun g t b H1 w s p => ?_
  · cases d <;> first | rfl | exact absurd rfl (h _)
  · obtain ⟨b, e, q⟩ := postRet p w
    cases e
    exact q
theorem ce_if {c a b : Expr} {fc fa fb : Ex} {pos : Pos} (hc : CT X C E c fc) (ha : CE X C E a fa) (hb : CE X C E b fb) : CE X C E (.IfExp c a b pos) (eIf fc fa fb) := PE.imp (pe_ifExp hc ha hb) fun σ H Q h => by
  obtain ⟨g, S, t, w, sl, p⟩ := h
  refine tT.seq (k := fun x => match x with | .bl true => fa S | .bl false => fb S | _ => stuck) w sl p (fun d t h => ?_) fun g t b H1 w s p => ?_
  · cases d <;> first | rfl | exact absurd rfl (h _)
  · cases b with
    | true => exact iteT ⟨g, S, t, w, s, p⟩
    | false => exact iteF ⟨g, S, t, w, s, p⟩
theorem ca_nil : CA X C E [] (evs []) := PA.imp pa_nil fun σ H Q ⟨g, S, t, w, s, p⟩ => postRet p w _ .nil
theorem ca_cons {e : Expr} {es : List Expr} {f : Ex} {fs : List Ex} (ha : CE X C E e f) (hr : CA X C E es (evs fs)) (hs : starEach (e :: es) X.env = (false, eval e X.env) :: starEach es X.env := by rfl) : CA X C E (e :: es) (evs (f :: fs)) :=
  PA.imp (pa_cons ha hr hs) fun σ H Q ⟨g, S, t, w, s, p⟩ => ⟨g, S, t, w, s, p.bnd.imp fun d t1 g1 H1 st1 w1 q v r => ⟨g1, S, t1, w1, s.stp w st1, q.bnd.imp fun ds t2 g2 H2 st2 w2 q2 vs rs => postRet q2 w2 _ (.cons (r.stp st2) rs)⟩⟩
theorem Post.evs {fs : List Ex} {S : Sl} {t : Tn} {g : G} {H : Hp} {Rok : List D → Tn → G → Hp → Prop} (p : Post C E g H Rok (evs fs S t)) : Post C E g H (fun ds t' g' H' => ds.length = fs.length ∧ Rok ds t' g' H') (evs fs S t) :=
  p.impE fun a t' e g' H' _ _ r => ⟨evs_length e, r⟩
theorem ce_tup {es : List Expr} {fs : List Ex} {x1} {pos : Pos} (h : CA X C E es (evs fs)) (hl : fs.length ≤ sizeLine := by decide) : CE X C E (.Tuple es x1 pos) (eTup fs) := PE.imp (pe_tup h) fun σ H Q ⟨g, S, t, w, s, p⟩ =>
  ⟨g, S, t, w, s, (Post.evs p.bnd).imp fun ds t1 g1 H1 st1 w1 ⟨el, q⟩ vs rs => ⟨by rw [rs.length, el]; exact hl, fun a ha => by
    obtain ⟨g2, s2, w2, r2⟩ := layT w1 ha rs
    exact q g2 _ s2 w2 _ r2⟩⟩
theorem cf_lst {es : List Expr} {fs : List Ex} {pos : Pos} (h : CA X C E es (evs fs)) (hl : fs.length ≤ sizeLine := by decide) : CF X C E (.List es pos) (eLst fs) := PE.imp (pe_lst h) fun σ H Q ⟨g, S, t, w, s, p⟩ =>
  ⟨g, S, t, w, s, (Post.evs p.bnd).imp fun ds t1 g1 H1 st1 w1 ⟨el, q⟩ vs rs => ⟨by rw [rs.length, el]; exact hl, fun a ha => by
    obtain ⟨p', vs', ds', e1, e2, e3, e4, e5, e6⟩ := layL (H := H1) w1 ha rs
    have h0 : ¬ Nt H a := fun z => Nt.no ha (st1.thr a z)
    exact q g1 _ (Stp.lay w1 ha) (Wf.lay w1 ha) _ ⟨a, vs, ds, rfl, rfl, h0, upd_same, rs, w1.fzN ha⟩⟩⟩
end
end BG
set_option Elab.async false
set_option linter.all false
set_option maxRecDepth 100000
set_option maxHeartbeats 4000000
namespace BG
open PySem PySem.Spec PyProof.Rows L2
mutual
def D.py : D → PyData
  | .non => .none
  | .bl b => .bool b
  | .int i => .int i
  | .str x => .str x
  | .tup xs => .tuple (pyA xs)
  | .lst xs => .list (pyA xs)
  | .town => .none
  | .scr _ => .none
  | .dct _ _ => .none
def pyA : List D → List PyData
  | [] => []
  | d :: ds => d.py :: pyA ds
end
mutual
def okD : D → Nat → Bool
  | .non, _ => true
  | .bl _, _ => true
  | .int _, _ => true
  | .str x, _ => PyData.strOk x
  | .tup xs, n => match n with
    | 0 => false
    | m + 1 => okA xs m
  | .lst xs, n => match n with
    | 0 => false
    | m + 1 => okA xs m
  | .town, _ => false
  | .scr _, _ => false
  | .dct _ _, _ => false
def okA : List D → Nat → Bool
  | [], _ => true
  | d :: ds, n => okD d n && okA ds n
end
theorem pyA_map : ∀ ds : List D, pyA ds = ds.map D.py
  | [] => rfl
  | d :: ds => by rw [pyA, List.map_cons, pyA_map ds]
theorem okA_all : ∀ (ds : List D) (n : Nat), okA ds n = ds.all fun d => okD d n
  | [], _ => rfl
  | d :: ds, n => by rw [okA, List.all_cons, okA_all ds n]
mutual
theorem okD_lay : ∀ (d : D) (n : Nat), okD d n = true → d.py.canLay0 = true ∧ d.py.depth ≤ n
  | .non, _, _ => by rw [D.py]; exact ⟨rfl, Nat.zero_le _⟩
  | .bl _, _, _ => by rw [D.py]; exact ⟨rfl, Nat.zero_le _⟩
  | .int _, _, _ => by rw [D.py]; exact ⟨rfl, Nat.zero_le _⟩
  | .str x, _, h => by rw [D.py]; exact ⟨h, Nat.zero_le _⟩
  | .tup xs, 0, h => by cases h
  | .tup xs, n + 1, h => by
    obtain ⟨a, b⟩ := okA_lay xs n h
    rw [D.py]
    exact ⟨a, Nat.succ_le_succ b⟩
  | .lst xs, 0, h => by cases h
  | .lst xs, n + 1, h => by
    obtain ⟨a, b⟩ := okA_lay xs n h
    rw [D.py]
    exact ⟨a, Nat.succ_le_succ b⟩
  | .town, _, h => by cases h
  | .scr _, _, h => by cases h
  | .dct _ _, _, h => by cases h
theorem okA_lay : ∀ (ds : List D) (n : Nat), okA ds n = true → PyData.canLayAll0 (pyA ds) = true ∧ PyData.depthAll (pyA ds) ≤ n
  | [], _, _ => ⟨rfl, Nat.zero_le _⟩
  | d :: ds, n, h => by
    have h : (okD d n && okA ds n) = true := h
    rw [Bool.and_eq_true] at h
    obtain ⟨a1, a2⟩ := okD_lay d n h.1
    obtain ⟨b1, b2⟩ := okA_lay ds n h.2
    refine ⟨?_, ?_⟩
    · show (d.py.canLay0 && PyData.canLayAll0 (pyA ds)) = true
      rw [a1, b1]; rfl
    · show max d.py.depth (PyData.depthAll (pyA ds)) ≤ n
      exact Nat.max_le.mpr ⟨a2, b2⟩
end
theorem shaped_of {d : D} {n : Nat} (h : okD d n = true) (hn : n ≤ 64) : SeqAt.shaped d.py = true := by
  obtain ⟨a, b⟩ := okD_lay d n h
  unfold SeqAt.shaped
  rw [a, decide_eq_true (Nat.le_trans b hn)]; rfl
section
variable {K : PySem.W.Frag} {C : Cn} {g : G} {H : Hp} {t : Tn}
mutual
theorem Rp.dp (w : Wf C g H t) : ∀ {d : D} {v : V} {n : Nat}, Rp K g v d → okD d n = true → Dp K H v d.py
  | .non, _, _, h, _ => by cases h; rw [D.py]; exact .non
  | .bl b, _, _, h, _ => by cases h; rw [D.py]; exact .bl b
  | .int i, _, _, h, _ => by cases h; rw [D.py]; exact .int i
  | .str x, _, _, h, _ => by cases h; rw [D.py]; exact .str x
  | .tup ds, _, 0, h, o => by cases o
  | .tup ds, _, n + 1, h, o => by
    cases h with
    | tup s a => rw [D.py]; exact .tup (Same.tseq w.fz s) (RpA.dp w a o)
  | .lst ds, _, 0, h, o => by cases o
  | .lst ds, _, n + 1, h, o => by
    cases h with
    | lst s a => rw [D.py]; exact .lst (.inl (.inl (w.fz _ _ s))) (RpA.dp w a o)
  | .town, _, _, h, o => by cases o
  | .scr _, _, _, h, o => by cases o
  | .dct _ _, _, _, h, o => by cases o
theorem RpA.dp (w : Wf C g H t) : ∀ {ds : List D} {vs : List V} {n : Nat}, RpA K g vs ds → okA ds n = true → DpAll K H vs (pyA ds)
  | [], _, _, h, _ => by cases h; exact .nil
  | d :: ds, _, n, h, o => by
    have o : (okD d n && okA ds n) = true := o
    rw [Bool.and_eq_true] at o
    cases h with
    | cons a b => exact .cons (Rp.dp w a o.1) (RpA.dp w b o.2)
end
theorem RpW.dp (w : Wf C g H t) {d : D} {v : V} {n : Nat} (h : RpW K g H v d) (o : okD d n = true) : Dp K H v d.py := by
  rcases h with h | ⟨p, vs, ds, rfl, rfl, e3, e4⟩
  · exact h.dp w o
  · cases n with
    | zero => cases o
    | succ n => rw [D.py]; exact .lst (.inl (.inl e3)) (e4.dp w o)
end
section
variable {K : PySem.W.Frag} {C : Cn} {E : XK} {g : G} {H : Hp} {t : Tn} {Q : VK}
abbrev PostQ (K : PySem.W.Frag) (C : Cn) (E : XK) (g : G) (H : Hp) (Q : VK) (r : Option (Out D)) : Prop := Post C E g H (fun d _ g' H' => ∀ v, Rp K g' v d → Q v H') r
theorem pRetV {d : D} {v : V} (p : PostQ K C E g H Q (ret d t)) (w : Wf C g H t) (r : Rp K g v d) : Q v H := postRet p w v r
theorem pRetT {ds : List D} {vs : List V} (p : PostQ K C E g H Q (ret (.tup ds) t)) (w : Wf C g H t) (r : RpA K g vs ds) (a : Addr) (ha : H a = none) : Q (.ref a) (upd H a (.tup vs)) := by
  obtain ⟨g2, s2, w2, r2⟩ := layT w ha r
  exact p g2 _ s2 w2 _ r2
theorem pRetL {ds : List D} {vs : List V} (p : PostQ K C E g H Q (ret (.lst ds) t)) (w : Wf C g H t) (r : RpA K g vs ds) (a : Addr) (ha : H a = none) : Q (.ref a) (upd H a (.lst vs)) := by
  obtain ⟨g2, s2, w2, r2⟩ := Rp.frz (layL w ha r) (Stp.lay w ha) (Wf.lay w ha)
  exact p g2 _ s2 w2 _ r2
end
def pAdd : D → D → M D
  | .int i, .int j => ret (.int (i + j))
  | .str x, .str y => if x.length + y.length ≤ sizeLine then ret (.str (x ++ y)) else stuck
  | .tup xs, .tup ys => if xs.length + ys.length ≤ sizeLine then ret (.tup (xs ++ ys)) else stuck
  | .lst xs, .lst ys => if xs.length + ys.length ≤ sizeLine then ret (.lst (xs ++ ys)) else stuck
  | _, _ => stuck
def pSub : D → D → M D
  | .int i, .int j => ret (.int (i - j))
  | _, _ => stuck
def pMul : D → D → M D
  | .int i, .int j => if -(2 ^ 64) < i ∧ i < 2 ^ 64 then ret (.int (i * j)) else stuck
  | .tup xs, .int k => if xs ≠ [] ∧ 2 ≤ k ∧ k ≤ 1000 ∧ xs.length ≤ 1000 then ret (.tup (List.replicate k.toNat xs).flatten) else stuck
  | .lst xs, .int k => if 0 ≤ k ∧ k ≤ 1000 ∧ xs.length ≤ 1000 then ret (.lst (List.replicate k.toNat xs).flatten) else stuck
  | _, _ => stuck
def pMod : D → D → M D
  | .int i, .int j => if 0 < j then ret (.int (i % j)) else stuck
  | _, _ => stuck
def pDiv : D → D → M D
  | .int i, .int j => if 0 < j ∧ j < 1073741824 then ret (.int (i / j)) else stuck
  | _, _ => stuck
def pXor : D → D → M D
  | .int i, .int j => ret (.int (Builtin.bitXor i j))
  | _, _ => stuck
def pEq (p q : D) : M D := if okD p 60 = true ∧ okD q 60 = true then ret (.bl (PyData.eqv p.py q.py)) else stuck
def pNe (p q : D) : M D := if okD p 60 = true ∧ okD q 60 = true then ret (.bl (!PyData.eqv p.py q.py)) else stuck
def pLt : D → D → M D
  | .int i, .int j => ret (.bl (decide (i < j)))
  | .str i, .str j => ret (.bl (decide (i.cps.toList < j.cps.toList)))
  | _, _ => stuck
def pLe : D → D → M D
  | .int i, .int j => ret (.bl (decide (i ≤ j)))
  | _, _ => stuck
def pGt : D → D → M D
  | .int i, .int j => ret (.bl (decide (j < i)))
  | _, _ => stuck
def pGe : D → D → M D
  | .int i, .int j => ret (.bl (decide (j ≤ i)))
  | _, _ => stuck
def inD (p : D) (ds : List D) : Bool := ds.any fun d => PyData.eqv d.py p.py
def pIn : D → D → M D
  | p, .tup ds => if okD p 60 = true ∧ okA ds 60 = true then ret (.bl (inD p ds)) else stuck
  | p, .lst ds => if okD p 60 = true ∧ okA ds 60 = true then ret (.bl (inD p ds)) else stuck
  | _, _ => stuck
def pNotIn : D → D → M D
  | p, .tup ds => if okD p 60 = true ∧ okA ds 60 = true then ret (.bl (!inD p ds)) else stuck
  | p, .lst ds => if okD p 60 = true ∧ okA ds 60 = true then ret (.bl (!inD p ds)) else stuck
  | _, _ => stuck
def isN : D → Bool
  | .non => true
  | _ => false
def pIs : D → D → M D
  | p, .non => ret (.bl (isN p))
  | _, _ => stuck
def pIsNot : D → D → M D
  | p, .non => ret (.bl (!isN p))
  | _, _ => stuck
section
variable {X : Cx} {C : Cn} {E : XK}
theorem bin_add : BinOk X C E (binaryOp .Add) pAdd := OpR.imp (op_add.or (op_add_str.or (op_catA.or op_cat))) fun x y H Q ⟨g, t, p, q, w, rx, ry, h⟩ => by
  cases p with
  | int i =>
    cases q with
    | int j => exact .inl ⟨i, j, rx.int, ry.int, pRetV h w (.int _)⟩
    | _ => exact h.elim
  | str i =>
    cases q with
    | str j =>
      have h : PostQ X.K C E g H Q ((if i.length + j.length ≤ sizeLine then ret (.str (i ++ j)) else stuck) t) := h
      split at h
      · exact .inr (.inl ⟨i, j, rx.str, ry.str, by assumption, pRetV h w (.str _)⟩)
      · exact h.elim
    | _ => exact h.elim
  | tup xs =>
    cases q with
    | tup ys =>
      have h : PostQ X.K C E g H Q ((if xs.length + ys.length ≤ sizeLine then ret (.tup (xs ++ ys)) else stuck) t) := h
      split at h
      · obtain ⟨a, vs, rfl, e1, r1⟩ := rx.tup w
        obtain ⟨b, us, rfl, e2, r2⟩ := ry.tup w
        refine .inr (.inr (.inl ⟨a, b, vs, us, rfl, rfl, e1, e2, by rw [r1.length, r2.length]; assumption, fun z => ?_, fun z z2 => ?_, fun _ _ p hp => pRetT h w (r1.app r2) p hp⟩))
        · subst z
          have e0 : xs = [] := List.eq_nil_of_length_eq_zero r1.length.symm
          subst e0
          rcases ry with ry | ⟨_, _, _, z, _⟩
          · exact pRetV h w ry
          · cases z
        · subst z2
          have e0 : ys = [] := List.eq_nil_of_length_eq_zero r2.length.symm
          subst e0
          rw [List.append_nil] at h
          rcases rx with rx | ⟨_, _, _, z, _⟩
          · exact pRetV h w rx
          · cases z
      · exact h.elim
    | _ => exact h.elim
  | lst xs =>
    cases q with
    | lst ys =>
      have h : PostQ X.K C E g H Q ((if xs.length + ys.length ≤ sizeLine then ret (.lst (xs ++ ys)) else stuck) t) := h
      split at h
      · obtain ⟨a, vs, rfl, e1, r1⟩ := rx.lst w
        obtain ⟨b, us, rfl, e2, r2⟩ := ry.lst w
        exact .inr (.inr (.inr ⟨a, b, vs, us, rfl, rfl, e1, e2, by rw [r1.length, r2.length]; assumption, fun p hp => pRetL h w (r1.app r2) p hp⟩))
      · exact h.elim
    | _ => exact h.elim
  | _ => cases q <;> exact h.elim
theorem bin_sub : BinOk X C E (binaryOp .Sub) pSub := OpR.imp op_sub fun x y H Q ⟨g, t, p, q, w, rx, ry, h⟩ => by
  cases p <;> cases q <;> first | exact ⟨_, _, rx.int, ry.int, pRetV h w (.int _)⟩ | exact h.elim
theorem bin_mod : BinOk X C E (binaryOp .Mod) pMod := OpR.imp op_mod fun x y H Q ⟨g, t, p, q, w, rx, ry, h⟩ => by
  cases p <;> cases q <;> first | exact h.elim | skip
  rename_i i j
  have h : PostQ X.K C E g H Q ((if 0 < j then ret (.int (i % j)) else stuck) t) := h
  split at h
  · exact ⟨_, _, rx.int, ry.int, by assumption, pRetV h w (.int _)⟩
  · exact h.elim
theorem bin_div : BinOk X C E (binaryOp .FloorDiv) pDiv := OpR.imp op_fdiv fun x y H Q ⟨g, t, p, q, w, rx, ry, h⟩ => by
  cases p <;> cases q <;> first | exact h.elim | skip
  rename_i i j
  have h : PostQ X.K C E g H Q ((if 0 < j ∧ j < 1073741824 then ret (.int (i / j)) else stuck) t) := h
  split at h
  · exact ⟨_, _, rx.int, ry.int, by assumption, pRetV h w (.int _)⟩
  · exact h.elim
theorem bin_xor : BinOk X C E (binaryOp .BitXor) pXor := OpR.imp op_xor fun x y H Q ⟨g, t, p, q, w, rx, ry, h⟩ => by
  cases p <;> cases q <;> first | exact ⟨_, _, rx.int, ry.int, pRetV h w (.int _)⟩ | exact h.elim
theorem bin_mul : BinOk X C E (binaryOp .Mult) pMul := OpR.imp (op_mul.or (op_repT.or op_rep)) fun x y H Q ⟨g, t, p, q, w, rx, ry, h⟩ => by
  cases p with
  | int i =>
    cases q with
    | int j =>
      have h : PostQ X.K C E g H Q ((if -(2 ^ 64) < i ∧ i < 2 ^ 64 then ret (.int (i * j)) else stuck) t) := h
      split at h
      · exact .inl ⟨i, j, rx.int, ry.int, .inl (by assumption), pRetV h w (.int _)⟩
      · exact h.elim
    | _ => exact h.elim
  | tup xs =>
    cases q with
    | int k =>
      have h : PostQ X.K C E g H Q ((if xs ≠ [] ∧ 2 ≤ k ∧ k ≤ 1000 ∧ xs.length ≤ 1000 then ret (.tup (List.replicate k.toNat xs).flatten) else stuck) t) := h
      split at h
      · rename_i hc
        obtain ⟨a, vs, rfl, e1, r1⟩ := rx.tup w
        refine .inr (.inl ⟨a, k, vs, rfl, ry.int, e1, fun z => hc.1 ?_, hc.2.1, hc.2.2.1, by rw [r1.length]; exact hc.2.2.2, fun p hp => pRetT h w (r1.rep _) p hp⟩)
        subst z
        exact List.eq_nil_of_length_eq_zero r1.length.symm
      · exact h.elim
    | _ => exact h.elim
  | lst xs =>
    cases q with
    | int k =>
      have h : PostQ X.K C E g H Q ((if 0 ≤ k ∧ k ≤ 1000 ∧ xs.length ≤ 1000 then ret (.lst (List.replicate k.toNat xs).flatten) else stuck) t) := h
      split at h
      · rename_i hc
        obtain ⟨a, vs, rfl, e1, r1⟩ := rx.lst w
        refine .inr (.inr ⟨a, k, vs, rfl, ry.int, e1, by omega, by omega, ?_, fun p hp => pRetL h w (r1.rep _) p hp⟩)
        rw [r1.length, sizeLine_eq]
        have a1 : xs.length * k.toNat ≤ 1000 * 1000 := Nat.mul_le_mul hc.2.2 (by omega)
        omega
      · exact h.elim
    | _ => exact h.elim
  | _ => cases q <;> exact h.elim
theorem bin_eq (hu : X.A.units + 64 < cLine) : BinOk X C E (compareOp .Eq) pEq := OpR.imp (op_eqD hu) fun x y H Q ⟨g, t, p, q, w, rx, ry, h⟩ => by
  unfold pEq at h
  split at h
  · rename_i hc
    exact ⟨p.py, q.py, rx.dp w hc.1, ry.dp w hc.2, shaped_of hc.1 (by decide), shaped_of hc.2 (by decide), pRetV h w (.bl _)⟩
  · exact h.elim
theorem bin_ne (hu : X.A.units + 64 < cLine) : BinOk X C E (compareOp .NotEq) pNe := OpR.imp (op_neD hu) fun x y H Q ⟨g, t, p, q, w, rx, ry, h⟩ => by
  unfold pNe at h
  split at h
  · rename_i hc
    exact ⟨p.py, q.py, rx.dp w hc.1, ry.dp w hc.2, shaped_of hc.1 (by decide), shaped_of hc.2 (by decide), pRetV h w (.bl _)⟩
  · exact h.elim
theorem bin_lt : BinOk X C E (compareOp .Lt) pLt := OpR.imp (op_lt.or op_lt_str) fun x y H Q ⟨g, t, p, q, w, rx, ry, h⟩ => by
  cases p <;> cases q <;> first | exact h.elim | exact .inl ⟨_, _, rx.int, ry.int, pRetV h w (.bl _)⟩ | exact .inr ⟨_, _, rx.str, ry.str, pRetV h w (.bl _)⟩
theorem bin_le : BinOk X C E (compareOp .LtE) pLe := OpR.imp op_le fun x y H Q ⟨g, t, p, q, w, rx, ry, h⟩ => by
  cases p <;> cases q <;> first | exact h.elim | exact ⟨_, _, rx.int, ry.int, pRetV h w (.bl _)⟩
theorem bin_ge : BinOk X C E (compareOp .GtE) pGe := OpR.imp op_ge fun x y H Q ⟨g, t, p, q, w, rx, ry, h⟩ => by
  cases p <;> cases q <;> first | exact h.elim | exact ⟨_, _, rx.int, ry.int, pRetV h w (.bl _)⟩
/-- in, of data at any depth -/
def rInA (K : PySem.W.Frag) (neg : Bool) : R2 := fun x y H Q => ∃ d ds, Dp K H x d ∧ (Dp K H y (.list ds) ∨ Dp K H y (.tuple ds)) ∧ SeqAt.shaped d = true ∧ PyData.canLayAll0 ds = true ∧ Q (.bl (if neg then !(ds.any fun z => PyData.eqv z d) else (ds.any fun z => PyData.eqv z d))) H
theorem op_inA (hu : X.A.units + 65 < cLine) : OpR X (compareOp .In) (rInA X.K false) := by
  intro pins s σ H x y v u Q I rx ry h
  obtain ⟨d, ds, hd, he, sd, se, q⟩ := h
  obtain ⟨as, r1⟩ := Dp.reads I d x v hd rx
  rcases he with he | he
  · obtain ⟨bs, r2⟩ := Dp.reads I (.list ds) y u he ry
    exact SeqAt.in_list_reads r2 r1 se (SeqAt.canLay_of_shaped sd) (PyProof.Rows.room_in_shaped sd hu) ⟨.bl _, H, I, rfl, q⟩
  · obtain ⟨bs, r2⟩ := Dp.reads I (.tuple ds) y u he ry
    exact SeqAt.in_tuple_reads r2 r1 se (SeqAt.canLay_of_shaped sd) (PyProof.Rows.room_in_shaped sd hu) ⟨.bl _, H, I, rfl, q⟩
theorem op_notInA (hu : X.A.units + 65 < cLine) : OpR X (compareOp .NotIn) (rInA X.K true) := by
  intro pins s σ H x y v u Q I rx ry h
  obtain ⟨d, ds, hd, he, sd, se, q⟩ := h
  obtain ⟨as, r1⟩ := Dp.reads I d x v hd rx
  rcases he with he | he
  · obtain ⟨bs, r2⟩ := Dp.reads I (.list ds) y u he ry
    exact SeqAt.notIn_list_reads r2 r1 se (SeqAt.canLay_of_shaped sd) (PyProof.Rows.room_in_shaped sd hu) ⟨.bl _, H, I, rfl, q⟩
  · obtain ⟨bs, r2⟩ := Dp.reads I (.tuple ds) y u he ry
    exact SeqAt.notIn_tuple_reads r2 r1 se (SeqAt.canLay_of_shaped sd) (PyProof.Rows.room_in_shaped sd hu) ⟨.bl _, H, I, rfl, q⟩
theorem any_py (p : D) (ds : List D) : ((pyA ds).any fun z => PyData.eqv z p.py) = inD p ds := by
  rw [pyA_map, List.any_map]; rfl
theorem okA_up : ∀ {ds : List D} {n : Nat}, okA ds n = true → okD (.tup ds) (n + 1) = true ∧ okD (.lst ds) (n + 1) = true := fun h => ⟨h, h⟩
theorem bin_in (hu : X.A.units + 65 < cLine) : BinOk X C E (compareOp .In) pIn := OpR.imp (op_inA hu) fun x y H Q ⟨g, t, p, q, w, rx, ry, h⟩ => by
  cases q with
  | tup ds =>
    have h : PostQ X.K C E g H Q ((if okD p 60 = true ∧ okA ds 60 = true then ret (.bl (inD p ds)) else stuck) t) := h
    split at h
    · rename_i hc
      exact ⟨p.py, pyA ds, rx.dp w hc.1, .inr (by have := ry.dp w (okA_up hc.2).1; rw [D.py] at this; exact this), shaped_of hc.1 (by decide), (okA_lay ds 60 hc.2).1, by rw [any_py]; exact pRetV h w (.bl _)⟩
    · exact h.elim
  | lst ds =>
    have h : PostQ X.K C E g H Q ((if okD p 60 = true ∧ okA ds 60 = true then ret (.bl (inD p ds)) else stuck) t) := h
    split at h
    · rename_i hc
      exact ⟨p.py, pyA ds, rx.dp w hc.1, .inl (by have := ry.dp w (okA_up hc.2).2; rw [D.py] at this; exact this), shaped_of hc.1 (by decide), (okA_lay ds 60 hc.2).1, by rw [any_py]; exact pRetV h w (.bl _)⟩
    · exact h.elim
  | _ => cases p <;> exact h.elim
theorem bin_notIn (hu : X.A.units + 65 < cLine) : BinOk X C E (compareOp .NotIn) pNotIn := OpR.imp (op_notInA hu) fun x y H Q ⟨g, t, p, q, w, rx, ry, h⟩ => by
  cases q with
  | tup ds =>
    have h : PostQ X.K C E g H Q ((if okD p 60 = true ∧ okA ds 60 = true then ret (.bl (!inD p ds)) else stuck) t) := h
    split at h
    · rename_i hc
      exact ⟨p.py, pyA ds, rx.dp w hc.1, .inr (by have := ry.dp w (okA_up hc.2).1; rw [D.py] at this; exact this), shaped_of hc.1 (by decide), (okA_lay ds 60 hc.2).1, by rw [any_py]; exact pRetV h w (.bl _)⟩
    · exact h.elim
  | lst ds =>
    have h : PostQ X.K C E g H Q ((if okD p 60 = true ∧ okA ds 60 = true then ret (.bl (!inD p ds)) else stuck) t) := h
    split at h
    · rename_i hc
      exact ⟨p.py, pyA ds, rx.dp w hc.1, .inl (by have := ry.dp w (okA_up hc.2).2; rw [D.py] at this; exact this), shaped_of hc.1 (by decide), (okA_lay ds 60 hc.2).1, by rw [any_py]; exact pRetV h w (.bl _)⟩
    · exact h.elim
  | _ => cases p <;> exact h.elim
theorem RpW.isN {K : PySem.W.Frag} {g : G} {H : Hp} {v : V} {d : D} (h : RpW K g H v d) : decide (v = .non) = isN d := by
  rcases h with h | ⟨p, vs, ds, rfl, rfl, e3, e4⟩
  · cases h <;> rfl
  · rfl
theorem bin_is : BinOk X C E (compareOp .Is) pIs := OpR.imp op_isN fun x y H Q ⟨g, t, p, q, w, rx, ry, h⟩ => by
  cases q with
  | non => exact ⟨ry.non, by rw [rx.isN]; exact pRetV h w (.bl _)⟩
  | _ => cases p <;> exact h.elim
end
end BG
set_option Elab.async false
set_option linter.all false
set_option maxRecDepth 100000
set_option maxHeartbeats 4000000
namespace BG
open PySem PySem.Spec PyProof.Rows L2
def pIdx : D → D → M D
  | .tup ds, .int i => match atI ds i with
    | some d => ret d
    | none => stuck
  | .lst ds, .int i => match atI ds i with
    | some d => ret d
    | none => stuck
  | .scr ns, .int i => match atI ns i with
    | some n => ret (.int n)
    | none => stuck
  | _, _ => stuck
theorem RpW.scr {K : PySem.W.Frag} {C : Cn} {g : G} {H : Hp} {t : Tn} {v : V} {ns : List Int} (w : Wf C g H t) (h : RpW K g H v (.scr ns)) : ∃ p, v = .ref p ∧ SqL K H p (ns.map V.int) := by
  rcases h with h | ⟨p, vs, ds', e1, e2, e3, e4⟩
  · cases h with
    | scr a => exact ⟨_, rfl, Same.seq w.fz a⟩
  · cases e1
theorem RpA.atI {K : PySem.W.Frag} {g : G} {vs : List V} {ds : List D} {i : Int} {d : D} (r : RpA K g vs ds) (h : atI ds i = some d) : ∃ v, L2.atI vs i = some v ∧ Rp K g v d := by
  unfold L2.atI at h ⊢
  rw [r.length]
  cases e : ixN ds.length i with
  | none => rw [e] at h; cases h
  | some j =>
    rw [e] at h
    exact r.get h
section
variable {X : Cx} {C : Cn} {E : XK}
theorem IxR.imp {r r' : R2} (h : IxR X r) (i : ∀ x y H Q, r' x y H Q → r x y H Q) : IxR X r' := fun value slice pins s σ H x y v u Q I rx ry q => h value slice pins s σ H x y v u Q I rx ry (i x y H Q q)
theorem ix_D : IxR X (rD X.K C E pIdx) := IxR.imp (ix_list.or ix_tup) fun x y H Q ⟨g, t, p, q, w, rx, ry, h⟩ => by
  cases p with
  | tup ds =>
    cases q with
    | int i =>
      have h : PostQ X.K C E g H Q ((match L2.atI ds i with | some d => ret d | none => stuck) t) := h
      obtain ⟨a, vs, rfl, e1, r1⟩ := rx.tup w
      cases e : L2.atI ds i with
      | none => rw [e] at h; exact h.elim
      | some d =>
        rw [e] at h
        obtain ⟨v, e2, r2⟩ := r1.atI e
        exact .inr ⟨a, vs, i, v, rfl, ry.int, e1, e2, pRetV h w r2⟩
    | _ => exact h.elim
  | lst ds =>
    cases q with
    | int i =>
      have h : PostQ X.K C E g H Q ((match L2.atI ds i with | some d => ret d | none => stuck) t) := h
      obtain ⟨a, vs, rfl, e1, r1⟩ := rx.lst w
      cases e : L2.atI ds i with
      | none => rw [e] at h; exact h.elim
      | some d =>
        rw [e] at h
        obtain ⟨v, e2, r2⟩ := r1.atI e
        exact .inl ⟨a, vs, i, v, rfl, ry.int, .of e1, e2, pRetV h w r2⟩
    | _ => exact h.elim
  | scr ns =>
    cases q with
    | int i =>
      have h : PostQ X.K C E g H Q ((match L2.atI ns i with | some n => ret (D.int n) | none => stuck) t) := h
      obtain ⟨a, rfl, e1⟩ := rx.scr w
      cases e : L2.atI ns i with
      | none => rw [e] at h; exact h.elim
      | some n =>
        rw [e] at h
        refine .inl ⟨a, _, i, .int n, rfl, ry.int, e1, ?_, pRetV h w (Rp.int n)⟩
        unfold L2.atI at e ⊢
        rw [List.length_map]
        cases z : ixN ns.length i with
        | none => rw [z] at e; cases e
        | some j =>
          rw [z] at e
          have e : ns[j]? = some n := e
          show (ns.map V.int)[j]? = some (.int n)
          rw [List.getElem?_map, e]; rfl
    | _ => exact h.elim
  | _ => cases q <;> exact h.elim
theorem ce_ix {a b : Expr} {fa fb : Ex} {pos : Pos} (ha : CW X C E a fa) (hb : CW X C E b fb) (hs : PlainIx b := by exact fun _ _ => rfl) : CE X C E (.Subscript a b pos) (eBin pIdx fa fb) := PE.imp (pe_ix ix_D ha hb hs) fun σ H Q h => tW.two h
def oEx (o : Option Ex) (S : Sl) : M (Option Int) := match o with
  | none => ret none
  | some f => bnd (f S) fun d => match d with
    | .int i => ret (some i)
    | _ => stuck
def cutD (ds : List D) (lo hi : Option Int) : List D := (ds.drop (HT.sIx ds.length 0 lo)).take (HT.sIx ds.length ds.length hi - HT.sIx ds.length 0 lo)
def pSlice (x : D) (lo hi : Option Int) : M D := match x with
  | .tup ds => ret (.tup (cutD ds lo hi))
  | .lst ds => ret (.lst (cutD ds lo hi))
  | _ => stuck
def eSlice (a : Ex) (lo hi : Option Ex) : Ex := fun S => bnd (a S) fun x => bnd (oEx lo S) fun l => bnd (oEx hi S) fun h => pSlice x l h
def tOp1 (K : PySem.W.Frag) (C : Cn) (E : XK) (o : Option Ex) : TO := fun σ H Q => ∃ g S t, Wf C g H t ∧ SL K g H σ S ∧ Post C E g H (fun d _ g' H' => Q d H') (oEx o S t)
theorem PO.imp {e : Option Expr} {t t' : TO} (h : PO X e t) (f : ∀ σ H Q, t' σ H Q → t σ H Q) : PO X e t' := ⟨fun pins s σ H Q I q => h.run pins s σ H Q I (f σ H Q q)⟩
theorem co_none : PO X none (tOp1 X.K C E none) := PO.imp po_none fun σ H Q ⟨g, S, t, w, s, p⟩ => postRet p w
theorem co_some {e : Expr} {f : Ex} (h : CE X C E e f) : PO X (some e) (tOp1 X.K C E (some f)) := PO.imp (po_some h) fun σ H Q ⟨g, S, t, w, s, p⟩ => ⟨g, S, t, w, s, p.bnd.imp fun d t1 g1 H1 st1 w1 q v r => by
  cases d with
  | int i => cases r; exact ⟨i, rfl, postRet q w1⟩
  | _ => exact q.elim⟩
theorem RpA.cut {K : PySem.W.Frag} {g : G} {vs : List V} {ds : List D} (r : RpA K g vs ds) (lo hi : Option Int) : RpA K g (cutV vs lo hi) (cutD ds lo hi) := by
  unfold cutV cutD
  rw [r.length]
  exact (r.drop _).take _
theorem ce_slice {a : Expr} {lo hi : Option Expr} {fa : Ex} {fl fh : Option Ex} {p2 pos : Pos} (ha : CW X C E a fa) (hl : PO X lo (tOp1 X.K C E fl)) (hh : PO X hi (tOp1 X.K C E fh)) : CE X C E (.Subscript a (.Slice lo hi none p2) pos) (eSlice fa fl fh) := by
  refine PE.imp (pe_slice (sl_tupA.or sl_list) ha hl hh) fun σ H Q h => ?_
  refine tW.seq h fun g S t x d H1 w s rx p1 => ?_
  refine ⟨g, S, t, w, s, p1.bnd.imp fun l t2 g2 H2 st2 w2 q2 => ?_⟩
  refine ⟨g2, S, t2, w2, s.stp w st2, q2.bnd.imp fun hh t3 g3 H3 st3 w3 q3 => ?_⟩
  have rx3 := (rx.stp w st2).stp w2 st3
  cases d with
  | tup ds =>
    obtain ⟨b, vs, rfl, e1, r1⟩ := rx3.tup w3
    refine .inl ⟨b, vs, rfl, e1, fun hw => ?_, fun _ p hp => pRetT q3 w3 (r1.cut l hh) p hp⟩
    have e : cutD ds l hh = ds := by
      unfold cutD
      rw [r1.length] at hw
      rw [hw.1, hw.2, List.drop_zero, Nat.sub_zero, List.take_length]
    have q3 : PostQ X.K C E g3 H3 Q (ret (.tup (cutD ds l hh)) t3) := q3
    rw [e] at q3
    rcases rx3 with rx3 | ⟨_, _, _, z, _⟩
    · exact pRetV q3 w3 rx3
    · cases z
  | lst ds =>
    obtain ⟨b, vs, rfl, e1, r1⟩ := rx3.lst w3
    exact .inr ⟨b, vs, rfl, .of e1, fun p hp => pRetL q3 w3 (r1.cut l hh) p hp⟩
  | _ => exact q3.elim
end
def c1D (K : PySem.W.Frag) (C : Cn) (E : XK) (prim : D → M D) : List V → Hp → VK → Prop := fun xs H Q => ∃ x g t d, xs = [x] ∧ Wf C g H t ∧ RpW K g H x d ∧ PostQ K C E g H Q (prim d t)
section
variable {X : Cx} {C : Cn} {E : XK}
theorem CallR.imp {f : Value} {r r' : List V → Hp → VK → Prop} (h : CallR X f r) (i : ∀ xs H Q, r' xs H Q → r xs H Q) : CallR X f r' := fun pins s σ H xs us Q I rs q => h pins s σ H xs us Q I rs (i xs H Q q)
theorem tW.call1 {prim : D → M D} {f : Ex} {σ : L2.St} {H : Hp} {Q : VK} (h : tE X.K C E (eUn prim f) σ H Q) : tCB (c1D X.K C E prim) (tCons (tW X.K C E f) tNil) σ H Q :=
  tW.seq h fun g S t x d H1 w s rx p1 => ⟨x, g, t, d, rfl, w, rx, p1⟩
theorem ce_callB1 {prim : D → M D} {id : String} {x : Str} {e : Expr} {f : Ex} {p pos : Pos} (hc : CallR X (.builtin id) (c1D X.K C E prim)) (hm : X.mg x = none) (hv : bootBuiltins x = some (.builtin id)) (ha : CW X C E e f) (hg : Gl X x := by rfl)
    (hn : x ≠ "__name__" := by decide) (hdb : (x == ("__debug__" : Str)) = false := by decide) (hs : starEach [e] X.env = (false, eval e X.env) :: starEach [] X.env := by rfl) (hp : (backTo pos (starEach [] X.env)).any (·.1) = false := by rfl) :
    CE X C E (.Call (.Name x p) [e] [] pos) (eUn prim f) := PE.imp (pe_callB hc hg hm hv (pa_cons ha pa_nil hs) hn hdb hs hp) fun σ H Q h => tW.call1 h
theorem ce_callTy1 {prim : D → M D} {T : String} {x : Str} {e : Expr} {f : Ex} {p pos : Pos} (hc : CallR X (.type T) (c1D X.K C E prim)) (hm : X.mg x = none) (hv : bootBuiltins x = some (.type T)) (ha : CW X C E e f) (hg : Gl X x := by rfl)
    (hn : x ≠ "__name__" := by decide) (hdb : (x == ("__debug__" : Str)) = false := by decide) (hs : starEach [e] X.env = (false, eval e X.env) :: starEach [] X.env := by rfl) (hp : (backTo pos (starEach [] X.env)).any (·.1) = false := by rfl) :
    CE X C E (.Call (.Name x p) [e] [] pos) (eUn prim f) := PE.imp (pe_callTy hc hg hm hv (pa_cons ha pa_nil hs) hn hdb hs hp) fun σ H Q h => tW.call1 h
def bLen : D → M D
  | .tup ds => ret (.int ds.length)
  | .lst ds => ret (.int ds.length)
  | .str z => if z.length ≤ sizeLine then ret (.int z.length) else stuck
  | .scr ns => ret (.int ns.length)
  | _ => stuck
def bools : List D → Option (List Bool)
  | [] => some []
  | .bl b :: ds => (bools ds).map (b :: ·)
  | _ => none
def intsD : List D → Option (List Int)
  | [] => some []
  | .int b :: ds => (intsD ds).map (b :: ·)
  | _ => none
def bAll : D → M D
  | .lst ds => match bools ds with
    | some bs => ret (.bl (bs.all id))
    | none => stuck
  | _ => stuck
def bTuple : D → M D
  | .lst ds => ret (.tup ds)
  | .tup ds => ret (.tup ds)
  | _ => stuck
def bList : D → M D
  | .lst ds => ret (.lst ds)
  | .tup ds => ret (.lst ds)
  | _ => stuck
theorem RpA.bools {K : PySem.W.Frag} {g : G} : ∀ {ds : List D} {vs : List V} {bs : List Bool}, RpA K g vs ds → bools ds = some bs → vs = bs.map V.bl
  | [], _, bs, h, e => by cases h; cases e; rfl
  | .bl b :: ds, _, bs, h, e => by
    cases h with
    | cons a r =>
      cases a
      have e : (BG.bools ds).map (b :: ·) = some bs := e
      cases z : BG.bools ds with
      | none => rw [z] at e; cases e
      | some cs =>
        rw [z] at e
        cases e
        rw [RpA.bools r z]; rfl
  | .non :: _, _, _, _, e => by cases e
  | .int _ :: _, _, _, _, e => by cases e
  | .str _ :: _, _, _, _, e => by cases e
  | .tup _ :: _, _, _, _, e => by cases e
  | .lst _ :: _, _, _, _, e => by cases e
  | .town :: _, _, _, _, e => by cases e
  | .scr _ :: _, _, _, _, e => by cases e
  | .dct _ _ :: _, _, _, _, e => by cases e
theorem RpA.intsD {K : PySem.W.Frag} {g : G} : ∀ {ds : List D} {vs : List V} {bs : List Int}, RpA K g vs ds → intsD ds = some bs → vs = bs.map V.int
  | [], _, bs, h, e => by cases h; cases e; rfl
  | .int b :: ds, _, bs, h, e => by
    cases h with
    | cons a r =>
      cases a
      have e : (BG.intsD ds).map (b :: ·) = some bs := e
      cases z : BG.intsD ds with
      | none => rw [z] at e; cases e
      | some cs =>
        rw [z] at e
        cases e
        rw [RpA.intsD r z]; rfl
  | .non :: _, _, _, _, e => by cases e
  | .bl _ :: _, _, _, _, e => by cases e
  | .str _ :: _, _, _, _, e => by cases e
  | .tup _ :: _, _, _, _, e => by cases e
  | .lst _ :: _, _, _, _, e => by cases e
  | .town :: _, _, _, _, e => by cases e
  | .scr _ :: _, _, _, _, e => by cases e
  | .dct _ _ :: _, _, _, _, e => by cases e
theorem cr_len : CallR X (.builtin "len") (c1D X.K C E bLen) := CallR.imp (call_len_seq.or call_len_str) fun xs H Q ⟨x, g, t, d, ex, w, a, h⟩ => by
  subst ex
  cases d with
  | tup ds =>
    obtain ⟨p, vs, rfl, e1, r1⟩ := a.tup w
    exact .inl ⟨p, vs, rfl, .inr e1, by rw [r1.length]; exact pRetV h w (.int _)⟩
  | lst ds =>
    obtain ⟨p, vs, rfl, e1, r1⟩ := a.lst w
    exact .inl ⟨p, vs, rfl, .inl (.of e1), by rw [r1.length]; exact pRetV h w (.int _)⟩
  | str z =>
    have h : PostQ X.K C E g H Q ((if z.length ≤ sizeLine then ret (.int z.length) else stuck) t) := h
    split at h
    · exact .inr ⟨z, by rw [a.str], by assumption, pRetV h w (.int _)⟩
    · exact h.elim
  | scr ns =>
    obtain ⟨p, rfl, e1⟩ := a.scr w
    exact .inl ⟨p, _, rfl, .inl e1, by rw [List.length_map]; exact pRetV h w (.int _)⟩
  | _ => exact h.elim
theorem cr_allD (hc : X.calm = true) : CallR X (.builtin "all") (c1D X.K C E bAll) := CallR.imp (cr_all hc) fun xs H Q ⟨x, g, t, d, ex, w, a, h⟩ => by
  subst ex
  cases d with
  | lst ds =>
    obtain ⟨p, vs, rfl, e1, r1⟩ := a.lst w
    have h : PostQ X.K C E g H Q ((match bools ds with | some bs => ret (D.bl (bs.all id)) | none => stuck) t) := h
    cases z : bools ds with
    | none => rw [z] at h; exact h.elim
    | some bs =>
      rw [z] at h
      exact ⟨p, bs, rfl, .of (by rw [e1, r1.bools z]), pRetV h w (Rp.bl _)⟩
  | _ => exact h.elim
theorem cr_tuple : CallR X (.type "tuple") (c1D X.K C E bTuple) := CallR.imp call_tuple_of fun xs H Q ⟨x, g, t, d, ex, w, a, h⟩ => by
  subst ex
  cases d with
  | lst ds =>
    obtain ⟨p, vs, rfl, e1, r1⟩ := a.lst w
    exact ⟨p, vs, rfl, .inl ⟨.of e1, fun l hl => pRetT h w r1 l hl⟩⟩
  | tup ds =>
    obtain ⟨p, vs, rfl, e1, r1⟩ := a.tup w
    rcases a with a | ⟨_, _, _, z, _⟩
    · exact ⟨p, vs, rfl, .inr ⟨e1, pRetV h w a⟩⟩
    · cases z
  | _ => exact h.elim
theorem Stp.back {g g1 : G} {H H1 : Hp} (s : Stp g H g1 H1) {l : Addr} (h : H1 l = none) : ¬ Nt H l := fun z => Nt.no h (s.thr l z)
theorem Stp.backN {g g1 : G} {H H1 : Hp} (s : Stp g H g1 H1) {l : Addr} (h : ¬ Nt H1 l) : ¬ Nt H l := fun z => h (s.thr l z)
end
inductive Ty where
  | tuple | int | bool | str
def Ty.name : Ty → String
  | .tuple => "tuple" | .int => "int" | .bool => "bool" | .str => "str"
def isTy : Ty → D → Option Bool
  | _, .town => none
  | _, .scr _ => none
  | _, .dct _ _ => none
  | .tuple, .tup _ => some true
  | .int, .int _ => some true
  | .int, .bl _ => some true
  | .bool, .bl _ => some true
  | .str, .str _ => some true
  | _, _ => some false
def pIsi (T : Ty) (d : D) : M D := match isTy T d with
  | some b => ret (.bl b)
  | none => stuck
def tyN : D → Option String
  | .non => some "NoneType" | .bl _ => some "bool" | .int _ => some "int" | .str _ => some "str" | .tup _ => some "tuple" | .lst _ => some "list" | _ => none
theorem tyX_of {K : PySem.W.Frag} {C : Cn} {g : G} {H : Hp} {t : Tn} (w : Wf C g H t) {v : V} {d : D} {n : String} (r : RpW K g H v d) (h : tyN d = some n) : TyX K H v (.type n) := by
  cases d with
  | non => cases h; rw [r.non]; exact .base .non
  | bl b => cases h; rw [r.bl]; exact .base (.bl b)
  | int i => cases h; rw [r.int]; exact .base (.int i)
  | str x => cases h; rw [r.str]; exact .base (.str x)
  | tup ds =>
    cases h
    obtain ⟨p, vs, rfl, e1, r1⟩ := r.tup w
    rcases e1 with (e1 | ⟨o, e1⟩) | ⟨o, its, n, e1, c, _⟩
    · exact .base (.tup e1)
    · exact .fTuple e1
    · exact .kTuple e1 c
  | lst ds =>
    cases h
    obtain ⟨p, vs, rfl, e1, r1⟩ := r.lst w
    exact .base (.lst e1)
  | town => cases h
  | scr _ => cases h
  | dct _ _ => cases h
theorem kit_isi {K : PySem.W.Frag} {T : Ty} {d : D} {b : Bool} (h : isTy T d = some b) : ∃ n, tyN d = some n ∧ PySem.W.kitOne K (.type n) (.type T.name) = some b := by
  cases T <;> cases d <;> first | cases h; done | (cases h; exact ⟨_, rfl, kit_ty (by decide +kernel)⟩)
section
variable {X : Cx} {C : Cn} {E : XK}
theorem ce_isi (T : Ty) {a : Expr} {fa : Ex} {x : Str} {p q pos : Pos} (hm : X.mg "isinstance" = none) (hmT : X.mg x = none) (hv : bootBuiltins x = some (.type T.name)) (ha : CW X C E a fa) (hg : Gl X "isinstance" := by rfl) (hgT : Gl X x := by rfl)
    (hvi : bootBuiltins "isinstance" = some (.builtin "isinstance") := by decide +kernel) (hn : x ≠ "__name__" := by decide) (hdb : (x == ("__debug__" : Str)) = false := by decide)
    (hs : starEach [a, .Name x q] X.env = (false, eval a X.env) :: starEach [.Name x q] X.env := by rfl) (hs2 : starEach [.Name x q] X.env = (false, eval (.Name x q) X.env) :: starEach [] X.env := by rfl) (hp : (backTo pos (starEach [.Name x q] X.env)).any (·.1) = false := by rfl) :
    CE X C E (.Call (.Name "isinstance" p) [a, .Name x q] [] pos) (eUn (pIsi T) fa) := by
  refine PE.imp (pe_callB call_isi hg hm hvi (pa_cons ha (pa_cons (pe_bltn (v := .ty T.name) hgT hmT hv rfl hn hdb) pa_nil hs2) hs) (by decide) (by decide) hs hp) fun σ H Q h => ?_
  refine tW.seq h fun g S t x d H1 w s rx p1 => ?_
  have p1 : PostQ X.K C E g H1 Q ((match isTy T d with | some b => ret (D.bl b) | none => stuck) t) := p1
  cases e : isTy T d with
  | none => rw [e] at p1; exact p1.elim
  | some b =>
    rw [e] at p1
    obtain ⟨n, e1, e2⟩ := kit_isi (K := X.K) e
    exact ⟨x, .ty T.name, .type n, .type T.name, b, rfl, .ty _, tyX_of w rx e1, e2, pRetV p1 w (Rp.bl b)⟩
/-- -n, a written number -/
def pNeg : D → M D
  | .int i => ret (.int (-i))
  | _ => stuck
theorem ce_neg {a : Expr} {fa : Ex} {pos : Pos} (ha : CE X C E a fa) : CE X C E (.UnaryOp .USub a pos) (eUn pNeg fa) := PE.imp (pe_un un_neg ha) fun σ H Q h => by
  refine tE.seq h fun g S t x d H1 w s rx p1 => ?_
  cases d with
  | int i => cases rx; exact ⟨i, rfl, pRetV p1 w (.int _)⟩
  | _ => exact p1.elim
/-- a < b < c -/
def eChain (o1 o2 : D → D → M D) (a b c : Ex) : Ex := fun S => bnd (a S) fun x => bnd (b S) fun y => bnd (o1 x y) fun z => match z with
  | .bl true => bnd (c S) fun u => o2 y u
  | .bl false => ret (.bl false)
  | _ => stuck
theorem ce_chain {op op' : CmpOp} {o1 o2 : D → D → M D} {a b c : Expr} {fa fb fc : Ex} {pos : Pos} (ho : BinOk X C E (compareOp op) o1) (ho' : BinOk X C E (compareOp op') o2) (ha : CW X C E a fa) (hb : CW X C E b fb) (hc : CW X C E c fc)
    (hm : lastMarks [op, op'] [b, c] = false := by rfl) : CE X C E (.Compare a [op, op'] [b, c] pos) (eChain o1 o2 fa fb fc) := by
  refine PE.imp (pe_chain ho ho' ha hb hc hm) fun σ H Q h => ?_
  refine tW.seq h fun g S t x d H1 w s rx p1 => ?_
  refine ⟨g, S, t, w, s, p1.bnd.imp fun d2 t2 g2 H2 st2 w2 q2 v r2 => ?_⟩
  have rx2 := rx.stp w st2
  have s2 := s.stp w st2
  refine ⟨g2, t2, d, d2, w2, rx2, r2, q2.bnd.imp fun z t3 g3 H3 st3 w3 q3 u ru => ?_⟩
  have r3 := r2.stp w2 st3
  have s3 := s2.stp w2 st3
  cases z with
  | bl k =>
    cases ru
    refine ⟨k, rfl, ?_⟩
    cases k with
    | true => exact iteT ⟨g3, S, t3, w3, s3, q3.bnd.imp fun d4 t4 g4 H4 st4 w4 q4 v4 r4 => ⟨g4, t4, d2, d4, w4, r3.stp w3 st4, r4, q4⟩⟩
    | false => exact iteF (pRetV q3 w3 (.bl false))
  | _ => exact q3.elim
end
abbrev Fn := List D → M D
/-- the promise of a def that is read as F -/
def spF (K : PySem.W.Frag) (C : Cn) (n : Nat) (F : Fn) : Sp := fun vs H Q E => ∃ g ds t, RpA K g vs ds ∧ Wf C g H t ∧ vs.length = n ∧ PostQ K C E g H Q (F ds t)
def eCall (F : Fn) (fs : List Ex) : Ex := fun S => bnd (evs fs S) fun ds => F ds
/-- a def as it stands in the module -/
structure Fd (P : Program) (w : World) (K : PySem.W.Frag) (mg : Str → Option Value) (base : Heap) (C : Cn) (k : Nat) (x : Str) (n : Nat) (F : Fn) : Prop where
  ex : ∃ f fd ps, FnOk P w K mg base (L2.CX P w) k f fd ps (spF K C n F) ∧ mg x = some (.ref f) ∧ PySem.W.keepIn K (.ref f) = true ∧ Binds K fd ps []
section
variable {X : Cx} {C : Cn} {E : XK}
theorem ce_call {k j : Nat} {x : Str} {F : Fn} {e : Expr} {es : List Expr} {fs : List Ex} {p pos : Pos} (hf : Fd X.prog X.w X.K X.mg X.base C k x fs.length F) (hr : Room j X.A) (hk : k ≤ j) (hx : Passes (L2.CX X.prog X.w) X E) (ha : CA X C E (e :: es) (evs fs)) (hg : Gl X x := by rfl)
    (hn : (x == ("__debug__" : Str)) = false := by decide) (hs : starEach (e :: es) X.env = (false, eval e X.env) :: starEach es X.env := by rfl) (hp : (backTo pos (starEach es X.env)).any (·.1) = false := by rfl) : CE X C E (.Call (.Name x p) (e :: es) [] pos) (eCall F fs) := by
  obtain ⟨f, fd, ps, F', hm, hkp, hb⟩ := hf.ex
  refine PE.imp (pe_call F' (hr.mono hk) hg hm hkp hb .nil hx ha hn hs hp) fun σ H Q ⟨g, S, t, w, s, p⟩ => ?_
  exact ⟨g, S, t, w, s, (Post.evs p.bnd).imp fun ds t1 g1 H1 st1 w1 ⟨el, q⟩ vs rs => ⟨g1, ds, t1, by rw [List.append_nil]; exact rs, w1, by rw [List.append_nil, rs.length, el], q⟩⟩
theorem ce_call0 {k j : Nat} {x : Str} {F : Fn} {p pos : Pos} (hf : Fd X.prog X.w X.K X.mg X.base C k x 0 F) (hr : Room j X.A) (hk : k ≤ j) (hx : Passes (L2.CX X.prog X.w) X E) (hg : Gl X x := by rfl) (hn : (x == ("__debug__" : Str)) = false := by decide) : CE X C E (.Call (.Name x p) [] [] pos) (eCall F []) := by
  obtain ⟨f, fd, ps, F', hm, hkp, hb⟩ := hf.ex
  refine PE.imp (pe_call0 F' (hr.mono hk) hg hm hkp hb .nil hx hn) fun σ H Q ⟨g, S, t, w, s, p⟩ => ?_
  exact ⟨g, [], t, .nil, w, rfl, p⟩
end
end BG
set_option Elab.async false
set_option linter.all false
set_option maxRecDepth 100000
set_option maxHeartbeats 4000000
namespace BG
open PySem PySem.Spec PyProof.Rows L2
theorem bnd_assoc {α β γ : Type} (m : M α) (f : α → M β) (k : β → M γ) : bnd (bnd m f) k = bnd m fun a => bnd (f a) k := by
  funext t
  unfold bnd
  cases m t with
  | none => rfl
  | some o => cases o <;> rfl
/-- as Post.bnd, the start kept -/
theorem Post.bnd0 {α β : Type} {C : Cn} {E : XK} {g : G} {H : Hp} {Rok : β → Tn → G → Hp → Prop} {m : M α} {k : α → M β} {t : Tn} (h : Post C E g H Rok (BG.bnd m k t)) : Post C E g H (fun a t1 _ _ => Post C E g H Rok (k a t1)) (m t) := by
  unfold BG.bnd at h
  cases e : m t with
  | none => rw [e] at h; exact h
  | some o =>
    rw [e] at h
    cases o with
    | ok a t' => exact fun g' H' s' w => h
    | exc c t' => exact h
theorem SL.set {K : PySem.W.Frag} {g : G} {H : Hp} {σ : L2.St} {S : Sl} {i : Nat} {v : V} {d : D} (s : SL K g H σ S) (r : Rp K g v d) : SL K g H (σ.set i (some v)) (S.set i (.val d)) := s.put ⟨v, rfl, r⟩ (fun h => nomatch h)
def wipeS (S : Sl) : List Nat → Sl
  | [] => S
  | v :: vs => (wipeS S vs).set v .un
theorem SL.un {K : PySem.W.Frag} {g : G} {H : Hp} {σ : L2.St} {S : Sl} {i : Nat} (s : SL K g H σ S) (o : Option V) : SL K g H (σ.set i o) (S.set i .un) := s.put trivial (fun h => nomatch h)
theorem SL.wipe {K : PySem.W.Frag} {g : G} {H : Hp} {σ : L2.St} {S : Sl} (s : SL K g H σ S) : ∀ vs : List Nat, SL K g H (wipe σ vs) (wipeS S vs)
  | [] => s
  | v :: vs => (SL.wipe s vs).un none
theorem wipe_in {σ : L2.St} {j : Nat} : ∀ {vs : List Nat}, j ∈ vs → j < σ.length → (wipe σ vs)[j]? = some none
  | [], h, _ => by cases h
  | v :: vs, h, hl => by
    unfold wipe
    by_cases e : v = j
    · subst e
      rw [List.getElem?_set_self (by rw [wipe_length]; exact hl)]
    · rw [List.getElem?_set_ne e]
      exact wipe_in ((List.mem_cons.mp h).resolve_left fun z => e z.symm) hl
/-- what differs at wiped places alone is wiped to the same -/
theorem wipe_eq {σ σ2 : L2.St} {vs : List Nat} (hl : σ2.length = σ.length) (h : ∀ j : Nat, j ∉ vs → σ2[j]? = (L2.wipe σ vs)[j]?) : L2.wipe σ2 vs = L2.wipe σ vs := by
  apply List.ext_getElem?
  intro j
  by_cases hj : j ∈ vs
  · by_cases hlt : j < σ.length
    · rw [wipe_in hj hlt, wipe_in hj (by omega)]
    · rw [List.getElem?_eq_none (by rw [wipe_length]; omega), List.getElem?_eq_none (by rw [wipe_length]; omega)]
  · rw [wipe_out hj, h j hj]
theorem set_ow {S : Sl} {i m : Nat} {d : D} {x : SV} (e : (S.set i (.val d))[m]? = some x) (h : isOw x = true) : i ≠ m := fun z => by
  subst z
  by_cases hl : i < S.length
  · rw [List.getElem?_set_self hl] at e; cases e; cases h
  · rw [List.getElem?_eq_none (by rw [List.length_set]; omega)] at e; cases e
abbrev Tg := D → Sl → Option Sl
def gN (i : Nat) : Tg := fun d S => some (S.set i (.val d))
def gP (i j : Nat) : Tg := fun d S => match d with
  | .tup [a, b] => some ((S.set i (.val a)).set j (.val b))
  | _ => none
def tG (K : PySem.W.Frag) (C : Cn) (is : List Nat) (f : Tg) : TG := fun v σ H Q => ∃ g S t d S', Wf C g H t ∧ SL K g H σ S ∧ Rp K g v d ∧ f d S = some S' ∧ ∀ σ', SL K g H σ' S' → σ'.length = σ.length → (∀ j : Nat, j ∉ is → σ'[j]? = σ[j]?) → (∀ (j : Nat) x, S'[j]? = some x → isOw x = true → S[j]? = some x ∧ σ'[j]? = σ[j]?) → Q σ' H
abbrev CG (X : Cx) (C : Cn) (is : List Nat) (tg : Expr) (f : Tg) : Prop := PG X tg (tG X.K C is f)
theorem PG.imp {X : Cx} {e : Expr} {t t' : TG} (h : PG X e t) (f : ∀ v σ H Q, t' v σ H Q → t v σ H Q) : PG X e t' := ⟨fun pins s σ H v u Q I r q => h.run pins s σ H v u Q I r (f v σ H Q q)⟩
section
variable {X : Cx} {C : Cn} {E : XK}
theorem cg_name (i : Nat) {x : Str} {pos : Pos} (hN : X.N.Nodup) (hi : X.N[i]? = some x := by rfl) (hx : Loc X.env.scope x := by first | exact .inl rfl | exact .inr rfl) (hf : X.fn x = true ∨ X.env.scope.names.lookup x = some .local := by first | exact .inl rfl | exact .inr rfl | assumption) : CG X C [i] (.Name x pos) (gN i) :=
  PG.imp (pg_name hN hi hx hf) fun v σ H Q ⟨g, S, t, d, S', w, s, r, e, q⟩ => by
    cases e
    refine q _ (s.set r) (by rw [List.length_set]) (fun j hj => ?_) fun j ds e ho => ?_
    · rw [List.getElem?_set_ne fun z => hj (by rw [z]; exact List.mem_singleton.mpr rfl)]
    · have n := set_ow e ho
      rw [List.getElem?_set_ne n] at e
      exact ⟨e, by rw [List.getElem?_set_ne n]⟩
theorem cg_pair (i j : Nat) {x y : Str} {p1 p2 pos : Pos} {k : Nat} (hN : X.N.Nodup) (hc : X.calm = true := by rfl) (hi : X.N[i]? = some x := by rfl) (hj : X.N[j]? = some y := by rfl) (hx : Loc X.env.scope x := by first | exact .inl rfl | exact .inr rfl) (hy : Loc X.env.scope y := by first | exact .inl rfl | exact .inr rfl)
    (hf : X.fn x = true ∨ X.env.scope.names.lookup x = some .local := by first | exact .inl rfl | exact .inr rfl | assumption) (hf2 : X.fn y = true ∨ X.env.scope.names.lookup y = some .local := by first | exact .inl rfl | exact .inr rfl | assumption) :
    CG X C [i, j] (.Tuple [.Name x p1, .Name y p2] k pos) (gP i j) :=
  PG.imp (pg_tup hc (pgs_cons (pg_name (i := i) hN hi hx hf) (pgs_cons (pg_name (i := j) hN hj hy hf2) pgs_nil rfl) rfl) rfl rfl) fun v σ H Q ⟨g, S, t, d, S', w, s, r, e, q⟩ => by
    cases d with
    | tup ds =>
      match ds, e with
      | [a, b], e =>
        cases e
        cases r with
        | tup sq ra =>
          cases ra with
          | cons r1 ra =>
            cases ra with
            | cons r2 ra =>
              cases ra
              refine ⟨_, _, rfl, Same.tseq w.fz sq, rfl, _, _, rfl, _, _, rfl, rfl, q _ ((s.set r1).set r2) (by rw [List.length_set, List.length_set]) (fun m hm => ?_) fun m ds e ho => ?_⟩
              · rw [List.getElem?_set_ne fun z => hm (by rw [z]; simp), List.getElem?_set_ne fun z => hm (by rw [z]; simp)]
              · have n := set_ow e ho
                rw [List.getElem?_set_ne n] at e
                have n2 := set_ow e ho
                rw [List.getElem?_set_ne n2] at e
                exact ⟨e, by rw [List.getElem?_set_ne n, List.getElem?_set_ne n2]⟩
    | _ => cases e
end
def Yl (K : PySem.W.Frag) (g : G) (H : Hp) (x : V) (H' : Hp) (d : D) : Prop := (H' = H ∧ Rp K g x d) ∨ ∃ T vs ds, x = .ref T ∧ H T = none ∧ H' = upd H T (.tup vs) ∧ d = .tup ds ∧ RpA K g vs ds
def WalkD (K : PySem.W.Frag) (B : Hp) (J : It) (ds : List D) (g : G) : Prop := ∀ i H, Same B H → (∀ d, ds[i]? = some d → J.go i H ∧ ∀ x H', J.yld i H x H' → Yl K g H x H' d) ∧ (ds.length ≤ i → J.stop i H)
def Kp (C : Cn) (g : G) (H : Hp) (B : Hp) : Prop := ∀ g2 H2 t2, Stp g H g2 H2 → Wf C g2 H2 t2 → Same B H2
/-- strict: what is walked is frozen -/
def tI (K : PySem.W.Frag) (C : Cn) (E : XK) (f : Sl → M (List D)) : TI := fun σ H R => ∃ g S t, Wf C g H t ∧ SL K g H σ S ∧ Post C E g H (fun ds _ g' H' => ∀ J, WalkD K g'.Fz J ds g' → R J H') (f S t)
def tIW (K : PySem.W.Frag) (C : Cn) (E : XK) (f : Sl → M (List D)) : TI := fun σ H R => ∃ g S t, Wf C g H t ∧ SL K g H σ S ∧ Post C E g H (fun ds _ g' H' => ∀ J B, Kp C g' H' B → WalkD K B J ds g' → R J H') (f S t)
abbrev CI (X : Cx) (C : Cn) (E : XK) (tg it : Expr) (f : Sl → M (List D)) : Prop := PI X tg it (tI X.K C E f)
abbrev CIW (X : Cx) (C : Cn) (E : XK) (tg it : Expr) (f : Sl → M (List D)) : Prop := PI X tg it (tIW X.K C E f)
theorem PI.imp {X : Cx} {tg e : Expr} {t t' : TI} (h : PI X tg e t) (f : ∀ σ H Q, t' σ H Q → t σ H Q) : PI X tg e t' := ⟨fun pins s σ H Q I q => h.run pins s σ H Q I (f σ H Q q)⟩
/-- the items of a list or tuple -/
def itSeq (f : Ex) : Sl → M (List D) := fun S => bnd (f S) fun d => match d with
  | .tup ds => ret ds
  | .lst ds => ret ds
  | _ => stuck
def itRange1 (f : Ex) : Sl → M (List D) := fun S => bnd (f S) fun d => match d with
  | .int j => if -(2 ^ 62) ≤ j ∧ j < 2 ^ 62 then ret ((List.range j.toNat).map fun (i : Nat) => .int ((0 : Int) + (i : Int))) else stuck
  | _ => stuck
def itRange2 (f f2 : Ex) : Sl → M (List D) := fun S => bnd (f S) fun d => bnd (f2 S) fun d2 => match d, d2 with
  | .int a, .int j => if -(2 ^ 62) ≤ a ∧ a < 2 ^ 62 ∧ -(2 ^ 62) ≤ j ∧ j < 2 ^ 62 then ret ((List.range (j - a).toNat).map fun (i : Nat) => .int (a + (i : Int))) else stuck
  | _, _ => stuck
theorem walkL {K : PySem.W.Frag} {g : G} {B : Hp} {a : Addr} {vs : List V} {ds : List D} (h : B a = some (.lst vs)) (r : RpA K g vs ds) : WalkD K B (Itl K a) ds g := fun i H sm => by
  have sq : SqL K H a vs := .of (sm _ _ h)
  refine ⟨fun d e => ?_, fun hl => ⟨vs, sq, by rw [r.length]; exact hl⟩⟩
  obtain ⟨v, e1, r1⟩ := r.get e
  refine ⟨⟨vs, v, sq, e1⟩, fun x H' ⟨e2, e3⟩ => .inl ⟨e2, ?_⟩⟩
  have := e3 vs sq
  rw [e1] at this
  cases this
  exact r1
theorem walkT {K : PySem.W.Frag} {g : G} {B : Hp} {a : Addr} {vs : List V} {ds : List D} (h : SqT K B a vs) (r : RpA K g vs ds) : WalkD K B (Itt K a) ds g := fun i H sm => by
  have sq : SqT K H a vs := Same.tseq sm h
  refine ⟨fun d e => ?_, fun hl => ⟨vs, sq, by rw [r.length]; exact hl⟩⟩
  obtain ⟨v, e1, r1⟩ := r.get e
  refine ⟨⟨vs, v, sq, e1⟩, fun x H' ⟨e2, e3⟩ => .inl ⟨e2, ?_⟩⟩
  have := e3 vs sq
  rw [e1] at this
  cases this
  exact r1
theorem walkR {K : PySem.W.Frag} {g : G} {B : Hp} {a : Int} {n : Nat} : WalkD K B (Itr a n) ((List.range n).map fun (i : Nat) => D.int (a + (i : Int))) g := fun i H sm => by
  refine ⟨fun d e => ?_, fun hl => by rw [List.length_map, List.length_range] at hl; exact hl⟩
  rw [List.getElem?_map] at e
  cases z : (List.range n)[i]? with
  | none => rw [z] at e; cases e
  | some m =>
    rw [z] at e
    cases e
    obtain ⟨h1, h2⟩ := List.getElem?_eq_some_iff.mp z
    rw [List.getElem_range] at h2
    subst h2
    rw [List.length_range] at h1
    refine ⟨h1, fun x H' ⟨e2, e3⟩ => .inl ⟨e2, ?_⟩⟩
    subst e3
    exact .int _
section
variable {X : Cx} {C : Cn} {E : XK} {tg : Expr}
/-- a list or a tuple that is walked -/
theorem pi_seq {l : Expr} {tl : TE} (hl : PE X l tl) : PI X tg l (fun σ H R => tl σ H fun x H1 => ∃ a, x = .ref a ∧ ((∃ xs, SqL X.K H1 a xs ∧ R (Itl X.K a) H1) ∨ (∃ xs, SqT X.K H1 a xs ∧ R (Itt X.K a) H1))) := by
  refine ⟨fun pins s σ H R I h => ?_⟩
  refine thn (hl.run pins s σ H _ I h) fun v s1 ⟨x, H1, I1, r1, q1⟩ => ?_
  obtain ⟨a, e, h2⟩ := q1
  subst e
  cases r1
  rcases h2 with ⟨xs, hq, q⟩ | ⟨xs, hq, q⟩
  · obtain ⟨its, rv, p, hz⟩ := I1.list hq
    refine wpAny_pyIter_list p.isList ?_
    refine ⟨s1.heap.objs.size, [s1.heap.objs.size], _, _, H1, rfl, I1.kept (t' := s1.toks) fun b o e => Heap.get?_push_of_some _ e, turn_list a _, ⟨_, Heap.get?_push_size _ rfl, rfl, rfl⟩, fun b hb => ?_, q⟩
    have e : b = s1.heap.objs.size := by simpa using hb
    subst e
    exact I1.fpOk (Nat.le_refl _) (I1.hok.fresh (Nat.le_refl _))
  · obtain ⟨its, rv, p, hz⟩ := I1.tuple hq
    refine wpAny_pyIter_tuple (show s1.heap.IsTuple a its.toArray from p) ?_
    refine ⟨s1.heap.objs.size, [s1.heap.objs.size], _, _, H1, rfl, I1.kept (t' := s1.toks) fun b o e => Heap.get?_push_of_some _ e, turn_tuple a _, ⟨_, Heap.get?_push_size _ rfl, rfl, rfl⟩, fun b hb => ?_, q⟩
    have e : b = s1.heap.objs.size := by simpa using hb
    subst e
    exact I1.fpOk (Nat.le_refl _) (I1.hok.fresh (Nat.le_refl _))
theorem ci_seq {l : Expr} {f : Ex} (h : CE X C E l f) : CI X C E tg l (itSeq f) := PI.imp (pi_seq h) fun σ H R ⟨g, S, t, w, s, p⟩ => ⟨g, S, t, w, s, p.bnd.imp fun d t1 g1 H1 st1 w1 q v r => by
  cases d with
  | tup ds =>
    cases r with
    | tup sq ra => exact ⟨_, rfl, .inr ⟨_, Same.tseq w1.fz sq, postRet q w1 _ (walkT sq ra)⟩⟩
  | lst ds =>
    cases r with
    | lst sq ra => exact ⟨_, rfl, .inl ⟨_, .of (w1.fz _ _ sq), postRet q w1 _ (walkL sq ra)⟩⟩
  | _ => exact q.elim⟩
theorem ciw_seq {l : Expr} {f : Ex} (h : CW X C E l f) : CIW X C E tg l (itSeq f) := PI.imp (pi_seq h) fun σ H R ⟨g, S, t, w, s, p⟩ => ⟨g, S, t, w, s, p.bnd.imp fun d t1 g1 H1 st1 w1 q v r => by
  cases d with
  | tup ds =>
    rcases r with r | ⟨_, _, _, z, _⟩
    · cases r with
      | tup sq ra => exact ⟨_, rfl, .inr ⟨_, Same.tseq w1.fz sq, postRet q w1 _ g1.Fz (fun g2 H2 t2 s2 w2 => s2.fz.trans w2.fz) (walkT sq ra)⟩⟩
    · cases z
  | lst ds =>
    obtain ⟨a, vs, rfl, e1, r1⟩ := r.lst w1
    refine ⟨_, rfl, .inl ⟨_, .of e1, postRet q w1 _ (fun b => if b = a then some (.lst vs) else none) (fun g2 H2 t2 s2 w2 b o e => ?_) (walkL (vs := vs) (by rw [if_pos rfl]) r1)⟩⟩
    have e : (if b = a then some (HO.lst vs) else none) = some o := e
    by_cases hb : b = a
    · rw [if_pos hb] at e
      cases e
      rw [hb]
      exact s2.frm _ _ e1 (w1.ntL e1) (fun _ z => nomatch z)
    · rw [if_neg hb] at e; cases e
  | _ => exact q.elim⟩
theorem ci_w {l : Expr} {f : Sl → M (List D)} (h : CI X C E tg l f) : CIW X C E tg l f := PI.imp h fun σ H R ⟨g, S, t, w, s, p⟩ => ⟨g, S, t, w, s, p.imp fun ds t1 g1 H1 st1 w1 q J wk => q J g1.Fz (fun g2 H2 t2 s2 w2 => s2.fz.trans w2.fz) wk⟩
theorem ci_range1 {a : Expr} {f : Ex} {p pos : Pos} (hm : X.mg "range" = none) (ha : CE X C E a f) (hg : Gl X "range" := by rfl) (hs : starEach [a] X.env = (false, eval a X.env) :: starEach [] X.env := by rfl) : CI X C E tg (.Call (.Name "range" p) [a] [] pos) (itRange1 f) :=
  PI.imp (pi_range1 hg hm (pa_cons ha pa_nil hs) hs) fun σ H R ⟨g, S, t, w, s, p⟩ => ⟨g, S, t, w, s, p.bnd.imp fun d t1 g1 H1 st1 w1 q v r => by
    cases d with
    | int j =>
      cases r
      have q : Post C E g1 H1 (fun ds _ g' H' => ∀ J, WalkD X.K g'.Fz J ds g' → R J H') ((if -(2 ^ 62) ≤ j ∧ j < 2 ^ 62 then ret ((List.range j.toNat).map fun (i : Nat) => D.int ((0 : Int) + (i : Int))) else stuck) t1) := q
      split at q
      · rename_i hc
        exact ⟨j, rfl, hc.1, hc.2, postRet q w1 _ walkR⟩
      · exact q.elim
    | _ => exact q.elim⟩
theorem ci_range2 {a b : Expr} {f f2 : Ex} {p pos : Pos} (hm : X.mg "range" = none) (ha : CE X C E a f) (hb : CE X C E b f2) (hg : Gl X "range" := by rfl) (hs : starEach [a, b] X.env = (false, eval a X.env) :: starEach [b] X.env := by rfl) (hs2 : starEach [b] X.env = (false, eval b X.env) :: starEach [] X.env := by rfl) :
    CI X C E tg (.Call (.Name "range" p) [a, b] [] pos) (itRange2 f f2) :=
  PI.imp (pi_range2 hg hm (pa_cons ha (pa_cons hb pa_nil hs2) hs) (by rw [hs, hs2]; rfl) (by rw [hs2]; rfl)) fun σ H R ⟨g, S, t, w, s, p⟩ => ⟨g, S, t, w, s, p.bnd.imp fun d t1 g1 H1 st1 w1 q v r => ⟨g1, S, t1, w1, s.stp w st1, q.bnd.imp fun d2 t2 g2 H2 st2 w2 q2 v2 r2 => by
    cases d with
    | int a =>
      cases r
      cases d2 with
      | int j =>
        cases r2
        have q2 : Post C E g2 H2 (fun ds _ g' H' => ∀ J, WalkD X.K g'.Fz J ds g' → R J H') ((if -(2 ^ 62) ≤ a ∧ a < 2 ^ 62 ∧ -(2 ^ 62) ≤ j ∧ j < 2 ^ 62 then ret ((List.range (j - a).toNat).map fun (i : Nat) => D.int (a + (i : Int))) else stuck) t2) := q2
        split at q2
        · rename_i hc
          exact ⟨a, j, rfl, hc, postRet q2 w2 _ walkR⟩
        · exact q2.elim
      | _ => exact q2.elim
    | _ => cases d2 <;> exact q2.elim⟩⟩
end
/-- an object of one's own is changed -/
theorem SL.updX {K : PySem.W.Frag} {g : G} {H : Hp} {σ : L2.St} {S : Sl} {i : Nat} {a : Addr} {x y : SV} {o : HO} (s : SL K g H σ S) (e : S[i]? = some x) (ox : isOw x = true) (h1 : σ[i]? = some (some (.ref a))) (oy : isOw y = true) (hy : SVok K g (upd H a o) y (some (some (.ref a)))) : SL K g (upd H a o) σ (S.set i y) where
  len := by rw [List.length_set]; exact s.len
  ok := fun j z e2 => by
    by_cases hj : i = j
    · subst hj
      obtain ⟨hl, _⟩ := List.getElem?_eq_some_iff.mp e
      rw [List.getElem?_set_self hl] at e2
      cases e2
      rw [h1]; exact hy
    · rw [List.getElem?_set_ne hj] at e2
      have h := s.ok j z e2
      cases z with
      | own ds =>
        obtain ⟨b, us, k1, k2, k3, k4⟩ := h
        have nb : b ≠ a := fun z => hj (s.dis i j a x _ e e2 ox rfl h1 (by rw [← z]; exact k1))
        exact ⟨b, us, k1, by rw [upd_ne nb]; exact k2, k3, k4⟩
      | dic ks =>
        obtain ⟨b, us, k1, k2, k3⟩ := h
        have nb : b ≠ a := fun z => hj (s.dis i j a x _ e e2 ox rfl h1 (by rw [← z]; exact k1))
        exact ⟨b, us, k1, by rw [upd_ne nb]; exact k2, k3⟩
      | un => exact h
      | val d => exact h
      | raw v => exact h
      | exn c =>
        obtain ⟨b, k1, k2⟩ := h
        refine ⟨b, k1, ?_⟩
        obtain ⟨p0, o0, q1, q2, _⟩ := s.ow e ox
        rw [h1] at q1
        cases q1
        have nb : b ≠ a := fun z => by
          cases x with
          | own ds => obtain ⟨p1, vs1, r1, r2, _⟩ := s.own i ds e; rw [h1] at r1; cases r1; rw [← z, k2] at r2; unfold ExK at r2; cases r2
          | dic ks => obtain ⟨p1, vs1, r1, r2, _⟩ := s.dic i ks e; rw [h1] at r1; cases r1; rw [← z, k2] at r2; unfold ExK at r2; cases r2
          | _ => cases ox
        rw [upd_ne nb]; exact k2
  dis := fun j k p z1 z2 e1 e2 o1 o2 e3 e4 => by
    have at_ : ∀ {m : Nat} {z : SV}, (S.set i y)[m]? = some z → isOw z = true → ∃ z', S[m]? = some z' ∧ isOw z' = true := fun {m z} e2 oz => by
      by_cases hj : i = m
      · subst hj; exact ⟨x, e, ox⟩
      · rw [List.getElem?_set_ne hj] at e2
        exact ⟨z, e2, oz⟩
    obtain ⟨d1, e1, o1⟩ := at_ e1 o1
    obtain ⟨d2, e2, o2⟩ := at_ e2 o2
    exact s.dis j k p d1 d2 e1 e2 o1 o2 e3 e4
/-- a list that is not frozen is changed -/
theorem Wf.updL {C : Cn} {g : G} {H : Hp} {t : Tn} {p : Addr} {xs ys : List V} (w : Wf C g H t) (hp : H p = some (.lst xs)) (fp : g.Fz p = none) : Wf C g (upd H p (.lst ys)) t where
  fz := fun b o' h => by
    rw [upd_ne (ne_of_none h fp)]
    exact w.fz b o' h
  tw := by
    cases t with
    | none => exact w.tw
    | some cr =>
      obtain ⟨a, b, e1, e2, e3, e4⟩ := w.tw
      exact ⟨a, b, e1, e2, by rw [upd_ne (ne_of e3 hp (fun z => nomatch z))]; exact e3, by rw [upd_ne (ne_of e4 hp (fun z => nomatch z))]; exact e4⟩
  ntw := w.ntw
  nft := w.nft
  tab := fun q hq => by
    obtain ⟨ps, h1, h2, h3⟩ := w.tab q hq
    refine ⟨ps, by rw [upd_ne (ne_of h1 hp (fun z => nomatch z))]; exact h1, h2, fun pos cv e => ?_⟩
    obtain ⟨c, e1, e2⟩ := h3 pos cv e
    exact ⟨c, e1, by rw [upd_ne (ne_of e2 hp (fun z => by unfold LamX.CodeO at z; cases z))]; exact e2⟩
def cmpL (tg : Tg) (cond elt : Ex) (S : Sl) : List D → M (List D)
  | [] => ret []
  | d :: ds => match tg d S with
    | none => stuck
    | some S' => bnd (calm (cond S')) fun b => match b with
      | .bl true => bnd (calm (elt S')) fun r => bnd (cmpL tg cond elt S ds) fun rs => ret (r :: rs)
      | .bl false => cmpL tg cond elt S ds
      | _ => stuck
def eComp (vs : List Nat) (it : Sl → M (List D)) (tg : Tg) (cond elt : Ex) : Ex := fun S => bnd (it S) fun ds => if ds.length ≤ sizeLine then bnd (cmpL tg cond elt (wipeS S vs) ds) fun rs => ret (.lst rs) else stuck
abbrev CTs (X : Cx) (C : Cn) (E : XK) (ifs : List Expr) (f : Ex) : Prop := PTs X ifs (tT X.K C E f)
theorem PTs.imp {X : Cx} {e : List Expr} {t t' : TT} (h : PTs X e t) (f : ∀ σ H Q, t' σ H Q → t σ H Q) : PTs X e t' := ⟨fun pins s σ H Q I q => h.run pins s σ H Q I (f σ H Q q)⟩
section
variable {X : Cx} {C : Cn} {E : XK}
theorem cts_nil : CTs X C E [] (eC (.bl true)) := PTs.imp pts_nil fun σ H Q ⟨g, S, t, w, s, p⟩ => by
  obtain ⟨b, e, q⟩ := postRet p w
  cases e
  exact q
theorem cts_one {c : Expr} {f : Ex} (h : CT X C E c f) : CTs X C E [c] f := pts_one h
/-- a list that is built at D: a step leaves it -/
theorem Yl.stp {K : PySem.W.Frag} {g g1 : G} {H H' : Hp} {t : Tn} {x : V} {d : D} (h : Yl K g1 H x H' d) (f : Same g1.Fz g.Fz) (tw : ∀ p, g1.tw = some p → g.tw = some p) (w : Wf C g H t) : ∃ g', Stp g H g' H' ∧ Wf C g' H' t ∧ Rp K g' x d ∧ ∀ b, H b ≠ none → H' b = H b := by
  rcases h with ⟨rfl, r⟩ | ⟨T, vs, ds, rfl, hT, rfl, rfl, ra⟩
  · exact ⟨g, .refl _ _, w, r.mono f tw, fun _ _ => rfl⟩
  · obtain ⟨g2, s2, w2, r2⟩ := layT w hT (ra.mono f tw)
    refine ⟨g2, s2, w2, r2, fun b hb => ?_⟩
    rw [upd_ne fun z => hb (by rw [z]; exact hT)]
theorem tF.lc {own : List (Str × Nat)} {is : List Nat} {fi : Sl → M (List D)} {ft : Tg} {fc fe : Ex} {σ : L2.St} {H : Hp} {Q : VK} (hv : ∀ i ∈ is, i ∈ own.map (·.2)) (h : tF X.K C E (eComp (own.map (·.2)) fi ft fc fe) σ H Q) :
    tLc (tIW X.K C E fi) (tG X.K C is ft) (tT X.K C E0 fc) (tE X.K C E0 fe) (own.map (·.2)) σ H Q := by
  obtain ⟨g, S, t, w, s, p⟩ := h
  refine ⟨g, S, t, w, s, p.bnd.imp fun ds t1 g1 H1 st1 w1 q J B kp wk => ?_⟩
  have q : Post C E g1 H1 (fun d _ g' H' => ∀ v, RpF X.K H g' H' v d → Q v H') ((if ds.length ≤ sizeLine then bnd (cmpL ft fc fe (wipeS S (own.map (·.2))) ds) fun rs => ret (BG.D.lst rs) else stuck) t1) := q
  split at q
  case isFalse => exact q.elim
  rename_i hsz
  intro La hD
  have s1 := s.stp w st1
  refine ⟨fun i m Hk => m = ds.length - i ∧ i ≤ ds.length ∧ ∃ gk tk av ad, Stp g1 H1 gk Hk ∧ Wf C gk Hk tk ∧ Hk La = some (.lst av) ∧ gk.Fz La = none ∧ RpA X.K gk av ad ∧ ad.length ≤ i ∧
    Post C E g1 H1 (fun d _ g' H' => ∀ v, RpF X.K H g' H' v d → Q v H') (bnd (cmpL ft fc fe (wipeS S (own.map (·.2))) (ds.drop i)) (fun rs => ret (BG.D.lst (ad ++ rs))) tk), ⟨ds.length, by simp, Nat.zero_le _, g1, t1, [], [], Stp.lay w1 hD, Wf.lay w1 hD, upd_same, w1.fzN hD, .nil, Nat.zero_le _, ?_⟩, ?_⟩
  · rw [List.drop_zero]
    exact q
  rintro i m Hk ⟨rfl, hi', gk, tk, av, ad, stk, wk', eD, fD, ra, hal, pk⟩
  obtain ⟨wgo, wstop⟩ := wk i Hk (kp gk Hk tk stk wk')
  by_cases hlt : i < ds.length
  · have ed : ds[i]? = some ds[i] := List.getElem?_eq_getElem hlt
    obtain ⟨go, yl⟩ := wgo _ ed
    have edr : ds.drop i = ds[i] :: ds.drop (i + 1) := List.drop_eq_getElem_cons hlt
    rw [edr] at pk
    refine .inr ⟨go, fun Hn => ∃ gn tn bv bd, Stp g1 H1 gn Hn ∧ Wf C gn Hn tn ∧ Hn La = some (.lst bv) ∧ gn.Fz La = none ∧ RpA X.K gn bv bd ∧ bd.length ≤ i + 1 ∧
      Post C E g1 H1 (fun d _ g' H' => ∀ v, RpF X.K H g' H' v d → Q v H') (bnd (cmpL ft fc fe (wipeS S (own.map (·.2))) (ds.drop (i + 1))) (fun rs => ret (BG.D.lst (bd ++ rs))) tn), fun H' hn => ⟨_, Nat.sub_lt_sub_left hlt (Nat.lt_succ_self i), rfl, hlt, hn⟩, fun x H' hy => ?_⟩
    obtain ⟨g3, st3, w3, r3, kp3⟩ := (yl x H' hy).stp stk.fz stk.tw wk'
    have st13 : Stp g1 H1 g3 H' := stk.trans st3
    have eD3 : H' La = some (.lst av) := by rw [kp3 La (by rw [eD]; exact fun z => nomatch z)]; exact eD
    have fD3 : g3.Fz La = none := by rw [st3.new La ⟨_, eD, fun _ z => nomatch z⟩]; exact fD
    have ra3 := ra.stp st3
    have sl3 : SL X.K g3 H' (L2.wipe σ (own.map (·.2))) (wipeS S (own.map (·.2))) := (s1.stp w1 st13).wipe _
    have pk : Post C E g1 H1 (fun d _ g' H' => ∀ v, RpF X.K H g' H' v d → Q v H') (bnd (match ft ds[i] (wipeS S (own.map (·.2))) with
      | none => stuck
      | some S' => bnd (calm (fc S')) fun b => match b with
        | .bl true => bnd (calm (fe S')) fun r => bnd (cmpL ft fc fe (wipeS S (own.map (·.2))) (ds.drop (i + 1))) fun rs => ret (r :: rs)
        | .bl false => cmpL ft fc fe (wipeS S (own.map (·.2))) (ds.drop (i + 1))
        | _ => stuck) (fun rs => ret (BG.D.lst (ad ++ rs))) tk) := pk
    cases eft : ft ds[i] (wipeS S (own.map (·.2))) with
    | none => rw [eft] at pk; exact pk.elim
    | some S' =>
      rw [eft] at pk
      refine ⟨g3, _, tk, _, S', w3, sl3, r3, eft, fun σ2 sl2 hl2 hout _ => ⟨wipe_eq (by rw [hl2, wipe_length]) fun j hj => hout j fun z => hj (hv j z), ?_⟩⟩
      have pk : Post C E g1 H1 (fun d _ g' H' => ∀ v, RpF X.K H g' H' v d → Q v H') (bnd (bnd (calm (fc S')) fun b => match b with
        | .bl true => bnd (calm (fe S')) fun r => bnd (cmpL ft fc fe (wipeS S (own.map (·.2))) (ds.drop (i + 1))) fun rs => ret (r :: rs)
        | .bl false => cmpL ft fc fe (wipeS S (own.map (·.2))) (ds.drop (i + 1))
        | _ => stuck) (fun rs => ret (BG.D.lst (ad ++ rs))) tk) := pk
      rw [bnd_assoc] at pk
      have pc := (Post.calm pk.bnd0 E0).stp st13
      refine ⟨g3, S', tk, w3, sl2, pc.imp fun b tb gb Hb stb wb qb => ?_⟩
      have st1b := st13.trans stb
      have eDb : Hb La = some (.lst av) := stb.frm _ _ eD3 (w3.ntL eD3) (fun _ z => nomatch z)
      have fDb : gb.Fz La = none := by rw [stb.new La ⟨_, eD3, fun _ z => nomatch z⟩]; exact fD3
      have rab := ra3.stp stb
      cases b with
      | bl b =>
        refine ⟨b, rfl, ?_⟩
        cases b with
        | false => exact iteF ⟨gb, tb, av, ad, st1b, wb, eDb, fDb, rab, Nat.le_succ_of_le hal, qb⟩
        | true =>
          refine iteT ?_
          have qb : Post C E g1 H1 (fun d _ g' H' => ∀ v, RpF X.K H g' H' v d → Q v H') (bnd (bnd (calm (fe S')) fun r => bnd (cmpL ft fc fe (wipeS S (own.map (·.2))) (ds.drop (i + 1))) fun rs => ret (r :: rs)) (fun rs => ret (BG.D.lst (ad ++ rs))) tb) := qb
          rw [bnd_assoc] at qb
          have pe := (Post.calm qb.bnd0 E0).stp st1b
          refine ⟨gb, S', tb, wb, sl2.stp w3 stb, pe.imp fun r tr gr Hr str wr qr y ry => ?_⟩
          have eDr : Hr La = some (.lst av) := str.frm _ _ eDb (wb.ntL eDb) (fun _ z => nomatch z)
          have fDr : gr.Fz La = none := by rw [str.new La ⟨_, eDb, fun _ z => nomatch z⟩]; exact fDb
          have rar := rab.stp str
          have st1r := st1b.trans str
          have hH1D : H1 La = none := hD
          refine ⟨av, eDr, ?_, gr, tr, av ++ [y], ad ++ [r], ⟨st1r.fz, st1r.tw, st1r.twn, fun b o e1 e2 e3 => ?_, fun b e1 => ?_, st1r.new⟩, ?_, upd_same, fDr, rar.app (.one ry), by rw [List.length_append]; exact Nat.succ_le_succ hal, ?_⟩
          · rw [rar.length]
            exact Nat.lt_of_lt_of_le (Nat.lt_of_le_of_lt hal hlt) hsz
          · rw [upd_ne (ne_of_none e1 hH1D)]
            exact st1r.frm b o e1 e2 e3
          · by_cases hb : b = La
            · exact ⟨_, by rw [hb]; exact upd_same, fun _ z => by cases z⟩
            · obtain ⟨o', e', n'⟩ := st1r.thr b e1
              exact ⟨o', by rw [upd_ne hb]; exact e', n'⟩
          · exact wr.updL eDr fDr
          · rw [bnd_assoc] at qr
            have er : (fun rs => ret (BG.D.lst (ad ++ [r] ++ rs))) = (fun rs => bnd (ret (r :: rs)) fun rs => ret (BG.D.lst (ad ++ rs))) := by
              funext rs
              rw [ret_bnd, List.append_assoc]; rfl
            rw [er]
            exact qr
      | _ => exact qb.elim
  · have e : i = ds.length := by omega
    subst e
    refine .inl ⟨wstop (Nat.le_refl _), ?_⟩
    rw [List.drop_length] at pk
    have pk : Post C E g1 H1 (fun d _ g' H' => ∀ v, RpF X.K H g' H' v d → Q v H') (ret (BG.D.lst (ad ++ [])) tk) := pk
    rw [List.append_nil] at pk
    exact pk gk Hk stk wk' _ ⟨La, av, ad, rfl, rfl, st1.back hD, eD, ra, fD⟩
theorem cf_comp {elt tg iter : Expr} {ifs : List Expr} {scope : Scope} {own : List (Str × Nat)} {pos : Pos} {is : List Nat} {fi : Sl → M (List D)} {ft : Tg} {fc fe : Ex} (hc : X.calm = true) (hN : X.N.Nodup) (hi : CIW X C E tg iter fi) (ok : BlkOk X.N X.env.scope scope own) (hv : ∀ i ∈ is, i ∈ own.map (·.2))
    (hg : ∀ (s : Shared) (H : Hp) (Ca : Addr) (cl : List (Str × Addr)) (fp : List Addr), CG (X.blk s H scope (compEnvC scope cl Ca X.env) fp) C is tg ft) (ht : ∀ (s : Shared) (H : Hp) (Ca : Addr) (cl : List (Str × Addr)) (fp : List Addr), CTs (X.blk s H scope (compEnvC scope cl Ca X.env) fp) C E0 ifs fc)
    (he : ∀ (s : Shared) (H : Hp) (Ca : Addr) (cl : List (Str × Addr)) (fp : List Addr), CE (X.blk s H scope (compEnvC scope cl Ca X.env) fp) C E0 elt fe) (hs : ∀ x, foldedSetIterable iter X.env x = pure x := by intro _; rfl) :
    CF X C E (.ListComp elt [⟨tg, iter, ifs, 0⟩] scope pos) (eComp (own.map (·.2)) fi ft fc fe) := by
  exact PE.imp (pe_lc (te := tE X.K C E0 fe) (g := tG X.K C is ft) (tt := tT X.K C E0 fc) hc hN hi ok hg ht he hs) fun σ H Q h => tF.lc hv h
end
end BG
set_option Elab.async false
set_option linter.all false
set_option maxRecDepth 100000
set_option maxHeartbeats 4000000
namespace BG
open PySem PySem.Spec PyProof.Rows L2
inductive Fl where
  | nx (S : Sl)
  | ret (d : D)
abbrev Stm := Sl → M Fl
def OwnF (H0 : Hp) (σ : L2.St) (S : Sl) : Prop := ∀ (j : Nat) x p, S[j]? = some x → isOw x = true → σ[j]? = some (some (.ref p)) → ¬ Nt H0 p
/-- what is frozen stays frozen -/
structure Gw (g g' : G) : Prop where
  fz : Same g.Fz g'.Fz
  tw : ∀ p, g.tw = some p → g'.tw = some p
theorem Gw.refl (g : G) : Gw g g := ⟨fun _ _ h => h, fun _ h => h⟩
theorem Gw.trans {g g1 g2 : G} (a : Gw g g1) (b : Gw g1 g2) : Gw g g2 := ⟨a.fz.trans b.fz, fun p h => b.tw p (a.tw p h)⟩
theorem Stp.gw {g g' : G} {H H' : Hp} (s : Stp g H g' H') : Gw g g' := ⟨s.fz, s.tw⟩
/-- what follows a statement -/
def Rs (K : PySem.W.Frag) (H0 : Hp) (gs : G) (De : Ends) : Fl → Tn → G → Hp → Prop
  | .nx S', _, g', H' => ∀ σ', Gw gs g' → SL K g' H' σ' S' → OwnF H0 σ' S' → De.nx σ' H'
  | .ret d, _, g', H' => ∀ v, Gw gs g' → Rp K g' v d → De.rt v H'
def tS (K : PySem.W.Frag) (C : Cn) (E : XK) (f : Stm) : TS := fun De σ H => ∃ g0 H0 gs g S t, Stp g0 H0 g H ∧ Gw gs g ∧ Wf C g H t ∧ SL K g H σ S ∧ OwnF H0 σ S ∧ Post C E g0 H0 (Rs K H0 gs De) (f S t)
abbrev CS (X : Cx) (C : Cn) (E : XK) (st : Stmt) (f : Stm) : Prop := PS X st (tS X.K C E f)
abbrev CSs (X : Cx) (C : Cn) (E : XK) (st : List Stmt) (f : Stm) : Prop := PSs X st (tS X.K C E f)
def sNil : Stm := fun S => ret (.nx S)
def sSeq (a b : Stm) : Stm := fun S => bnd (a S) fun fl => match fl with
  | .nx S' => b S'
  | .ret d => ret (.ret d)
def sAsg (i : Nat) (e : Ex) : Stm := fun S => bnd (e S) fun d => ret (.nx (S.set i (.val d)))
def sOwn (i : Nat) (e : Ex) : Stm := fun S => bnd (e S) fun d => match d with
  | .lst ds => ret (.nx (S.set i (.own ds)))
  | _ => stuck
def sAsgG (tg : Tg) (e : Ex) : Stm := fun S => bnd (e S) fun d => match tg d S with
  | some S' => ret (.nx S')
  | none => stuck
def sPar (i j : Nat) (a b : Ex) : Stm := fun S => bnd (a S) fun x => bnd (b S) fun y => ret (.nx ((S.set i (.val x)).set j (.val y)))
def sParO (i j : Nat) (a b : Ex) : Stm := fun S => bnd (a S) fun x => bnd (b S) fun y => match y with
  | .lst ds => ret (.nx ((S.set i (.val x)).set j (.own ds)))
  | _ => stuck
def sApp (i : Nat) (e : Ex) : Stm := fun S => match S[i]? with
  | some (.own _) => bnd (e S) fun d => match S[i]? with
    | some (.own ds) => if ds.length < sizeLine then ret (.nx (S.set i (.own (ds ++ [d])))) else stuck
    | _ => stuck
  | _ => stuck
def sExt (i : Nat) (e : Ex) : Stm := fun S => match S[i]? with
  | some (.own _) => bnd (e S) fun d => match S[i]?, d with
    | some (.own ds), .lst es => if ds.length + es.length ≤ sizeLine then ret (.nx (S.set i (.own (ds ++ es)))) else stuck
    | _, _ => stuck
  | _ => stuck
def sPut (i : Nat) (k e : Ex) : Stm := fun S => match S[i]? with
  | some (.own _) => bnd (e S) fun d => bnd (k S) fun n => match S[i]?, n with
    | some (.own ds), .int n => match ixN ds.length n with
      | some j => ret (.nx (S.set i (.own (ds.set j d))))
      | none => stuck
    | _, _ => stuck
  | _ => stuck
def sExpr (e : Ex) : Stm := fun S => bnd (e S) fun _ => ret (.nx S)
def sIf (c : Ex) (a b : Stm) : Stm := fun S => bnd (c S) fun d => match d with
  | .bl true => a S
  | .bl false => b S
  | _ => stuck
def sRet (e : Ex) : Stm := fun S => bnd (e S) fun d => ret (.ret d)
def sFrz (i : Nat) (a : Stm) : Stm := fun S => match S[i]? with
  | some (.own ds) => a (S.set i (.val (.lst ds)))
  | _ => a S
def sRaise (c : Nat) : Stm := fun _ => raise c
def forL (tg : Tg) (body : Stm) : List D → Stm
  | [], S => ret (.nx S)
  | d :: ds, S => match tg d S with
    | none => stuck
    | some S' => bnd (calm (body S')) fun fl => match fl with
      | .nx S'' => forL tg body ds S''
      | .ret v => ret (.ret v)
def sFor (it : Sl → M (List D)) (tg : Tg) (body : Stm) : Stm := fun S => bnd (calm (it S)) fun ds => forL tg body ds S
def whileL (c : Ex) (body : Stm) : Nat → Stm
  | 0, _ => stuck
  | n + 1, S => bnd (calm (c S)) fun d => match d with
    | .bl true => bnd (calm (body S)) fun fl => match fl with
      | .nx S'' => whileL c body n S''
      | .ret v => ret (.ret v)
    | .bl false => ret (.nx S)
    | _ => stuck
def sWhile (n : Nat) (c : Ex) (body : Stm) : Stm := whileL c body n
section
variable {K : PySem.W.Frag} {C : Cn} {E : XK}
theorem OwnF.set {H0 : Hp} {σ : L2.St} {S : Sl} {i : Nat} {v : V} {d : D} (h : OwnF H0 σ S) : OwnF H0 (σ.set i (some v)) (S.set i (.val d)) := fun j ds p e1 ox e2 => by
  have n := set_ow e1 ox
  rw [List.getElem?_set_ne n] at e1 e2
  exact h j ds p e1 ox e2
theorem OwnF.keep {H0 : Hp} {σ σ' : L2.St} {S S' : Sl} (h : OwnF H0 σ S) (k : ∀ (j : Nat) x, S'[j]? = some x → isOw x = true → S[j]? = some x ∧ σ'[j]? = σ[j]?) : OwnF H0 σ' S' := fun j ds p e1 ox e2 => by
  obtain ⟨a, b⟩ := k j ds e1 ox
  rw [b] at e2
  exact h j ds p a ox e2
/-- an expression within a statement -/
theorem tS.ex {f : Ex} {k : D → M Fl} {σ : L2.St} {H : Hp} {De : Ends} {g0 gs g : G} {H0 : Hp} {S : Sl} {t : Tn} {Q : VK} (st : Stp g0 H0 g H) (gr : Gw gs g) (w : Wf C g H t) (s : SL K g H σ S) (p : Post C E g0 H0 (Rs K H0 gs De) (bnd (f S) k t))
    (h : ∀ d t1 g1 H1 v, Stp g H g1 H1 → Stp g0 H0 g1 H1 → Gw gs g1 → Wf C g1 H1 t1 → SL K g1 H1 σ S → Rp K g1 v d → Post C E g0 H0 (Rs K H0 gs De) (k d t1) → Q v H1) : tE K C E f σ H Q :=
  ⟨g, S, t, w, s, (p.bnd0.stp st).imp fun d t1 g1 H1 st1 w1 q v r => h d t1 g1 H1 v st1 (st.trans st1) (gr.trans st1.gw) w1 (s.stp w st1) r q⟩
theorem tS.exW {f : Ex} {k : D → M Fl} {σ : L2.St} {H : Hp} {De : Ends} {g0 gs g : G} {H0 : Hp} {S : Sl} {t : Tn} {Q : VK} (st : Stp g0 H0 g H) (gr : Gw gs g) (w : Wf C g H t) (s : SL K g H σ S) (p : Post C E g0 H0 (Rs K H0 gs De) (bnd (f S) k t))
    (h : ∀ d t1 g1 H1 v, Stp g H g1 H1 → Stp g0 H0 g1 H1 → Gw gs g1 → Wf C g1 H1 t1 → SL K g1 H1 σ S → RpW K g1 H1 v d → Post C E g0 H0 (Rs K H0 gs De) (k d t1) → Q v H1) : tW K C E f σ H Q :=
  ⟨g, S, t, w, s, (p.bnd0.stp st).imp fun d t1 g1 H1 st1 w1 q v r => h d t1 g1 H1 v st1 (st.trans st1) (gr.trans st1.gw) w1 (s.stp w st1) r q⟩
theorem tS.exF {f : Ex} {k : D → M Fl} {σ : L2.St} {H : Hp} {De : Ends} {g0 gs g : G} {H0 : Hp} {S : Sl} {t : Tn} {Q : VK} (st : Stp g0 H0 g H) (gr : Gw gs g) (w : Wf C g H t) (s : SL K g H σ S) (p : Post C E g0 H0 (Rs K H0 gs De) (bnd (f S) k t))
    (h : ∀ d t1 g1 H1 v, Stp g H g1 H1 → Stp g0 H0 g1 H1 → Gw gs g1 → Wf C g1 H1 t1 → SL K g1 H1 σ S → RpF K H g1 H1 v d → Post C E g0 H0 (Rs K H0 gs De) (k d t1) → Q v H1) : tF K C E f σ H Q :=
  ⟨g, S, t, w, s, (p.bnd0.stp st).imp fun d t1 g1 H1 st1 w1 q v r => h d t1 g1 H1 v st1 (st.trans st1) (gr.trans st1.gw) w1 (s.stp w st1) r q⟩
theorem tS.tst {f : Ex} {k : D → M Fl} {σ : L2.St} {H : Hp} {De : Ends} {g0 gs g : G} {H0 : Hp} {S : Sl} {t : Tn} {Q : Bool → Hp → Prop} (st : Stp g0 H0 g H) (gr : Gw gs g) (w : Wf C g H t) (s : SL K g H σ S) (p : Post C E g0 H0 (Rs K H0 gs De) (bnd (f S) k t))
    (nb : ∀ d t, (∀ b, d ≠ .bl b) → k d t = none) (h : ∀ b t1 g1 H1, Stp g H g1 H1 → Stp g0 H0 g1 H1 → Gw gs g1 → Wf C g1 H1 t1 → SL K g1 H1 σ S → Post C E g0 H0 (Rs K H0 gs De) (k (.bl b) t1) → Q b H1) : tT K C E f σ H Q :=
  ⟨g, S, t, w, s, (p.bnd0.stp st).imp fun d t1 g1 H1 st1 w1 q => by
    by_cases hb : ∃ b, d = .bl b
    · obtain ⟨b, rfl⟩ := hb
      exact ⟨b, rfl, h b t1 g1 H1 st1 (st.trans st1) (gr.trans st1.gw) w1 (s.stp w st1) q⟩
    · rw [nb d t1 fun b z => hb ⟨b, z⟩] at q
      exact q.elim⟩
/-- the slot gets a list of its own -/
theorem SL.setO {g : G} {H : Hp} {σ : L2.St} {S : Sl} {i : Nat} {p : Addr} {vs : List V} {ds : List D} (s : SL K g H σ S) (hp : H p = some (.lst vs)) (r : RpA K g vs ds) (fp : g.Fz p = none) (hn : ∀ (j : Nat) x, S[j]? = some x → isOw x = true → σ[j]? = some (some (.ref p)) → j = i) :
    SL K g H (σ.set i (some (.ref p))) (S.set i (.own ds)) := s.put ⟨p, vs, rfl, hp, r, fp⟩ fun _ q e => by cases e; exact hn
theorem SL.setD {g : G} {H : Hp} {σ : L2.St} {S : Sl} {i : Nat} {p : Addr} {vs : List (Key × V)} {ks : List (Key × D)} (s : SL K g H σ S) (hp : H p = some (.dK vs)) (r : RpK K g vs ks) (fp : g.Fz p = none) (nt : ¬ g.isTw p) (hn : ∀ (j : Nat) x, S[j]? = some x → isOw x = true → σ[j]? = some (some (.ref p)) → j = i) :
    SL K g H (σ.set i (some (.ref p))) (S.set i (.dic ks)) := s.put ⟨p, vs, rfl, hp, r, fp, nt⟩ fun _ q e => by cases e; exact hn
theorem OwnF.put {H0 : Hp} {σ : L2.St} {S : Sl} {i : Nat} {p : Addr} {x : SV} (h : OwnF H0 σ S) (hp : ¬ Nt H0 p) : OwnF H0 (σ.set i (some (.ref p))) (S.set i x) := fun j dj q e1 ox e2 => by
  by_cases hj : i = j
  · subst hj
    obtain ⟨hl, _⟩ := List.getElem?_eq_some_iff.mp e2
    rw [List.length_set] at hl
    rw [List.getElem?_set_self hl] at e2
    cases e2
    exact hp
  · rw [List.getElem?_set_ne hj] at e1 e2
    exact h j dj q e1 ox e2
theorem OwnF.setO {H0 : Hp} {σ : L2.St} {S : Sl} {i : Nat} {p : Addr} {ds : List D} (h : OwnF H0 σ S) (hp : ¬ Nt H0 p) : OwnF H0 (σ.set i (some (.ref p))) (S.set i (.own ds)) := h.put hp
/-- an object that was just made is nobody's -/
theorem SL.noOne {g : G} {H : Hp} {σ : L2.St} {S : Sl} {p : Addr} (s : SL K g H σ S) (hp : ¬ Nt H p) (i : Nat) : ∀ (j : Nat) x, S[j]? = some x → isOw x = true → σ[j]? = some (some (.ref p)) → j = i := fun j x e1 ox e2 => by
  obtain ⟨a, o, h1, h2, _, h4⟩ := s.ow e1 ox
  rw [e2] at h1
  cases h1
  exact absurd ⟨o, h2, h4⟩ hp
end
section
variable {X : Cx} {C : Cn} {E : XK}
theorem css_nil : CSs X C E [] sNil := PSs.imp pss_nil fun De σ H ⟨g0, H0, gs, g, S, t, st, gr, w, s, o, p⟩ => p g H st w σ gr s o
theorem css_cons {st : Stmt} {rest : List Stmt} {a b : Stm} (h1 : CS X C E st a) (h2 : CSs X C E rest b) : CSs X C E (st :: rest) (sSeq a b) := PSs.imp (pss_cons h1 h2) fun De σ H ⟨g0, H0, gs, g, S, t, st, gr, w, s, o, p⟩ =>
  ⟨g0, H0, gs, g, S, t, st, gr, w, s, o, p.bnd0.imp fun fl t1 g1 H1 st1 w1 q => by
    cases fl with
    | nx S' => exact fun σ' gr' s' o' => ⟨g0, H0, gs, g1, S', t1, st1, gr', w1, s', o', q⟩
    | ret d => exact q g1 H1 st1 w1⟩
theorem css_one {st : Stmt} {a : Stm} (h1 : CS X C E st a) : CSs X C E [st] a := PSs.imp (pss_one h1) fun De σ H h => h
theorem cs_asg (i : Nat) {x : Str} {e : Expr} {f : Ex} {pos pos' : Pos} (hN : X.N.Nodup) (he : CE X C E e f) (hi : X.N[i]? = some x := by rfl) (hx : Loc X.env.scope x := by first | exact .inl rfl | exact .inr rfl) (hs : swapsWith e (some (.Name x pos')) pos.line X.env = pure false := by rfl)
    (hf : X.fn x = true ∨ X.env.scope.names.lookup x = some .local := by first | exact .inl rfl | exact .inr rfl | assumption) : CS X C E (.Assign [.Name x pos'] e pos) (sAsg i f) :=
  PS.imp (ps_set hN hi hx he hs hf) fun De σ H ⟨g0, H0, gs, g, S, t, st, gr, w, s, o, p⟩ => tS.ex st gr w s p fun d t1 g1 H1 v st1 st01 gr1 w1 s1 r q => q g1 H1 st01 w1 _ gr1 (s1.set r) o.set
theorem cs_own (i : Nat) {x : Str} {e : Expr} {f : Ex} {pos pos' : Pos} (hN : X.N.Nodup) (he : CF X C E e f) (hi : X.N[i]? = some x := by rfl) (hx : Loc X.env.scope x := by first | exact .inl rfl | exact .inr rfl) (hs : swapsWith e (some (.Name x pos')) pos.line X.env = pure false := by rfl)
    (hf : X.fn x = true ∨ X.env.scope.names.lookup x = some .local := by first | exact .inl rfl | exact .inr rfl | assumption) : CS X C E (.Assign [.Name x pos'] e pos) (sOwn i f) :=
  PS.imp (ps_set hN hi hx he hs hf) fun De σ H ⟨g0, H0, gs, g, S, t, st, gr, w, s, o, p⟩ => tS.exF st gr w s p fun d t1 g1 H1 v st1 st01 gr1 w1 s1 r q => by
    obtain ⟨a, vs, ds, rfl, rfl, e0, e1, ra, e2⟩ := r
    refine q g1 H1 st01 w1 _ gr1 (s1.setO e1 ra e2 fun j dj h1 hx h2 => s.noOne e0 i j dj h1 hx h2) (o.setO (st.backN e0))
theorem cs_asgG {tg e : Expr} {f : Ex} {is : List Nat} {ft : Tg} {pos : Pos} (he : CE X C E e f) (hg : CG X C is tg ft) (hs : swapsWithSole [tg] e pos.line X.env = pure false := by rfl) (hw : swappedStores [tg] e X.env = pure none := by rfl)
    (h1 : (assignEach [tg] X.env).map (·.2) = [assign tg X.env] := by rfl) : CS X C E (.Assign [tg] e pos) (sAsgG ft f) :=
  PS.imp (ps_asg he hg hs hw h1) fun De σ H ⟨g0, H0, gs, g, S, t, st, gr, w, s, o, p⟩ => tS.ex st gr w s p fun d t1 g1 H1 v st1 st01 gr1 w1 s1 r q => by
    have q : Post C E g0 H0 (Rs X.K H0 gs De) ((match ft d S with | some S' => ret (Fl.nx S') | none => stuck) t1) := q
    cases z : ft d S with
    | none => rw [z] at q; exact q.elim
    | some S' =>
      rw [z] at q
      exact ⟨g1, S, t1, d, S', w1, s1, r, z, fun σ' s' _ _ k => q g1 H1 st01 w1 _ gr1 s' (o.keep k)⟩
theorem cs_par (i j : Nat) {x y : Str} {a b : Expr} {fa fb : Ex} {px py pt : Pos} {kt k2 pt2} {pos : Pos} (hN : X.N.Nodup) (ha : CE X C E a fa) (hb : CE X C E b fb) (hc : X.calm = true := by rfl) (hi : X.N[i]? = some x := by rfl) (hj : X.N[j]? = some y := by rfl) (hij : i ≠ j := by decide)
    (hx : X.env.scope.names.lookup x = some .local := by rfl) (hy : X.env.scope.names.lookup y = some .local := by rfl)
    (hw : swappedStores [.Tuple [.Name x px, .Name y py] kt pt] (.Tuple [a, b] k2 pt2) X.env = pure (some [x, y]) := by rfl) (hs : swapsWithSole [.Tuple [.Name x px, .Name y py] kt pt] (.Tuple [a, b] k2 pt2) pos.line X.env = pure false := by rfl)
    (s1 : starEach [a, b] X.env = (false, eval a X.env) :: starEach [b] X.env := by rfl) (s2 : starEach [b] X.env = (false, eval b X.env) :: starEach [] X.env := by rfl) :
    CS X C E (.Assign [.Tuple [.Name x px, .Name y py] kt pt] (.Tuple [a, b] k2 pt2) pos) (sPar i j fa fb) :=
  PS.imp (ps_par hc hN hi hj hij hx hy (pa_cons ha (pa_cons hb pa_nil s2) s1) hw hs) fun De σ H ⟨g0, H0, gs, g, S, t, st, gr, w, s, o, p⟩ => tS.ex st gr w s p fun d t1 g1 H1 v st1 st01 gr1 w1 s1 r q =>
    tS.ex st01 gr1 w1 s1 q fun d2 t2 g2 H2 v2 st2 st02 gr2 w2 s2 r2 q2 => ⟨v, v2, rfl, q2 g2 H2 st02 w2 _ gr2 ((s2.set (r.stp st2)).set r2) o.set.set⟩
theorem cs_expr {e : Expr} {f : Ex} {pos : Pos} (he : CE X C E e f) (hs : swapsWith e none pos.line X.env = pure false := by rfl) : CS X C E (.Expr e pos) (sExpr f) :=
  PS.imp (ps_expr he hs) fun De σ H ⟨g0, H0, gs, g, S, t, st, gr, w, s, o, p⟩ => tS.ex st gr w s p fun d t1 g1 H1 v st1 st01 gr1 w1 s1 r q => q g1 H1 st01 w1 _ gr1 s1 o
theorem cs_ret {e : Expr} {f : Ex} {pos : Pos} (he : CE X C E e f) : CS X C E (.Return (some e) pos) (sRet f) :=
  PS.imp (ps_ret he) fun De σ H ⟨g0, H0, gs, g, S, t, st, gr, w, s, o, p⟩ => tS.ex st gr w s p fun d t1 g1 H1 v st1 st01 gr1 w1 s1 r q => q g1 H1 st01 w1 v gr1 r
theorem cs_if {c : Expr} {a b : List Stmt} {fc : Ex} {fa fb : Stm} {pos : Pos} (hc : CT X C E c fc) (ha : CSs X C E a fa) (hb : CSs X C E b fb) : CS X C E (.If c a b pos) (sIf fc fa fb) :=
  PS.imp (ps_if hc ha hb) fun De σ H ⟨g0, H0, gs, g, S, t, st, gr, w, s, o, p⟩ => tS.tst (k := fun d => match d with | .bl true => fa S | .bl false => fb S | _ => stuck) st gr w s p (fun d t h => by cases d <;> first | rfl | exact absurd rfl (h _)) fun b t1 g1 H1 st1 st01 gr1 w1 s1 q => by
    cases b with
    | true => exact iteT ⟨g0, H0, gs, g1, S, t1, st01, gr1, w1, s1, o, q⟩
    | false => exact iteF ⟨g0, H0, gs, g1, S, t1, st01, gr1, w1, s1, o, q⟩
/-- a list of one's own is frozen (a ghost's step) -/
theorem cs_frz (i : Nat) {st : Stmt} {f : Stm} (h : CS X C E st f) : CS X C E st (sFrz i f) := PS.imp h fun De σ H ⟨g0, H0, gs, g, S, t, st, gr, w, s, o, p⟩ => by
  unfold sFrz at p
  cases e : S[i]? with
  | none => rw [e] at p; exact ⟨g0, H0, gs, g, S, t, st, gr, w, s, o, p⟩
  | some sv =>
    rw [e] at p
    cases sv with
    | un => exact ⟨g0, H0, gs, g, S, t, st, gr, w, s, o, p⟩
    | val d => exact ⟨g0, H0, gs, g, S, t, st, gr, w, s, o, p⟩
    | dic d => exact ⟨g0, H0, gs, g, S, t, st, gr, w, s, o, p⟩
    | raw d => exact ⟨g0, H0, gs, g, S, t, st, gr, w, s, o, p⟩
    | exn d => exact ⟨g0, H0, gs, g, S, t, st, gr, w, s, o, p⟩
    | own ds =>
      obtain ⟨a, vs, h1, h2, h3, h4⟩ := s.own i ds e
      have h0 := o i _ a e rfl h1
      obtain ⟨g2, st2, w2, r2⟩ : ∃ g', Stp g0 H0 g' H ∧ Wf C g' H t ∧ (Rp X.K g' (.ref a) (.lst ds) ∧ Same g.Fz g'.Fz ∧ g'.tw = g.tw ∧ ∀ b, b ≠ a → g'.Fz b = g.Fz b) := by
        have sm : Same g.Fz (upd g.Fz a (.lst vs)) := fun b o h => by
          rw [upd_ne (ne_of_none h h4)]; exact h
        refine ⟨⟨upd g.Fz a (.lst vs), g.tw⟩, ⟨st.fz.trans sm, st.tw, st.twn, st.frm, st.thr, fun b h => ?_⟩, ⟨fun b o h => ?_, w.tw, fun b h => ?_, w.tab, nft_upd w.nft fun _ z => by cases z⟩, ?_, sm, rfl, fun b hb => upd_ne hb⟩
        · have nb : b ≠ a := fun z => h0 (by rw [← z]; exact h)
          show upd g.Fz a (.lst vs) b = _
          rw [upd_ne nb]
          exact st.new b h
        · have h : upd g.Fz a (.lst vs) b = some o := h
          by_cases hb : b = a
          · rw [hb, upd_same] at h
            cases h
            rw [hb]; exact h2
          · rw [upd_ne hb] at h
            exact w.fz b o h
        · have nb : b ≠ a := fun z => w.ntL h2 (by rw [← z]; exact h)
          show upd g.Fz a (.lst vs) b = _
          rw [upd_ne nb]
          exact w.ntw b h
        · exact .lst upd_same (RpA.mono (g' := ⟨upd g.Fz a (.lst vs), g.tw⟩) sm (fun _ h => h) h3)
      obtain ⟨r2, sm, tw, nw⟩ := r2
      have tw' : ∀ p, g.tw = some p → g2.tw = some p := fun p h => by rw [tw]; exact h
      have s2 : SL X.K g2 H σ (S.set i (.val (.lst ds))) := by
        refine ⟨by rw [List.length_set]; exact s.len, fun j x e2 => ?_, fun j k p x y e1 e2 o1 o2 e3 e4 => ?_⟩
        · by_cases hj : i = j
          · subst hj
            obtain ⟨hl, _⟩ := List.getElem?_eq_some_iff.mp e
            rw [List.getElem?_set_self hl] at e2
            cases e2
            exact ⟨_, h1, r2⟩
          · rw [List.getElem?_set_ne hj] at e2
            have h := s.ok j x e2
            cases x with
            | un => trivial
            | raw v => exact h
            | exn v => exact h
            | val d => obtain ⟨v, k1, k2⟩ := h; exact ⟨v, k1, k2.mono sm tw'⟩
            | own dj =>
              obtain ⟨b, us, k1, k2, k3, k4⟩ := h
              have nb : b ≠ a := fun z => hj (s.dis i j a _ _ e e2 rfl rfl h1 (by rw [← z]; exact k1))
              exact ⟨b, us, k1, k2, k3.mono sm tw', by rw [nw b nb]; exact k4⟩
            | dic kj =>
              obtain ⟨b, us, k1, k2, k3, k4, k5⟩ := h
              have nb : b ≠ a := fun z => hj (s.dis i j a _ _ e e2 rfl rfl h1 (by rw [← z]; exact k1))
              exact ⟨b, us, k1, k2, ⟨k3.1, k3.2.mono sm tw'⟩, by rw [nw b nb]; exact k4, fun ⟨q, hq, z⟩ => k5 ⟨q, by rw [← tw]; exact hq, z⟩⟩
        · have n1 := set_ow e1 o1
          have n2 := set_ow e2 o2
          rw [List.getElem?_set_ne n1] at e1
          rw [List.getElem?_set_ne n2] at e2
          exact s.dis j k p x y e1 e2 o1 o2 e3 e4
      refine ⟨g0, H0, gs, g2, _, t, st2, gr.trans ⟨sm, tw'⟩, w2, s2, fun j dj p e1 ox e2 => ?_, p⟩
      have n := set_ow e1 ox
      rw [List.getElem?_set_ne n] at e1
      exact o j dj p e1 ox e2
/-- a list of one's own is changed -/
theorem SL.updO {K : PySem.W.Frag} {g : G} {H : Hp} {σ : L2.St} {S : Sl} {i : Nat} {a : Addr} {vs : List V} {ds0 ds : List D} (s : SL K g H σ S) (e : S[i]? = some (.own ds0)) (h1 : σ[i]? = some (some (.ref a))) (ra : RpA K g vs ds) : SL K g (upd H a (.lst vs)) σ (S.set i (.own ds)) := by
  obtain ⟨b, us, k1, k2, k3, k4⟩ := s.own i ds0 e
  rw [h1] at k1
  cases k1
  exact s.updX e rfl h1 rfl ⟨a, vs, rfl, upd_same, ra, k4⟩
theorem OwnF.updX {H0 : Hp} {σ : L2.St} {S : Sl} {i : Nat} {x y : SV} (o : OwnF H0 σ S) (e : S[i]? = some x) (ox : isOw x = true) : OwnF H0 σ (S.set i y) := fun j dj p e1 oy e2 => by
  by_cases hj : i = j
  · subst hj; exact o i x p e ox e2
  · rw [List.getElem?_set_ne hj] at e1
    exact o j dj p e1 oy e2
theorem OwnF.updO {H0 : Hp} {σ : L2.St} {S : Sl} {i : Nat} {ds0 ds : List D} (o : OwnF H0 σ S) (e : S[i]? = some (.own ds0)) : OwnF H0 σ (S.set i (.own ds)) := o.updX e rfl
theorem Stp.updO {g0 g : G} {H0 H : Hp} {a : Addr} {ob : HO} (st : Stp g0 H0 g H) (h0 : ¬ Nt H0 a) : Stp g0 H0 g (upd H a ob) := ⟨st.fz, st.tw, st.twn, fun b o e1 e2 e3 => by rw [upd_ne (fun z => h0 ⟨o, by rw [← z]; exact e1, e3⟩)]; exact st.frm b o e1 e2 e3, fun b e1 => by
  obtain ⟨o', e', n'⟩ := st.thr b e1
  exact ⟨o', by rw [upd_ne (fun z => h0 (by rw [← z]; exact e1))]; exact e', n'⟩, st.new⟩
theorem cs_app (i : Nat) {x : Str} {e : Expr} {f : Ex} {p1 apos cpos pos : Pos} (he : CE X C E e f) (hN : X.N[i]? = some x := by rfl) (hv : Vis X.env.scope x := by first | exact Or.inl rfl | exact Or.inr (Or.inl rfl) | exact Or.inr (Or.inr rfl)) (hd : (x == ("__debug__" : Str)) = false := by decide)
    (hcd : (x == ("__classdict__" : Str)) = false := by decide) (hbase : attributeBase (.Name x p1) "append" X.env (eval (.Name x p1) X.env) = eval (.Name x p1) X.env := by rfl)
    (hfew : ((backTo cpos (starEach [e] X.env)).all (fun x => !x.1) && (backToKw cpos (keywordEach [] X.env)).all (fun x => x.1.isSome) && decide ([e].length + ([] : List Keyword).length + (if ([] : List Keyword).isEmpty then 0 else 1) < 30)) = true := by rfl)
    (hline : (apos.endLine == cpos.line) = true := by rfl) (hs : starEach [e] X.env = (false, eval e X.env) :: starEach [] X.env := by rfl) (hplain : (backTo cpos (starEach [] X.env)).any (·.1) = false := by rfl) (hsw : swapsWith (.Call (.Attribute (.Name x p1) "append" apos) [e] [] cpos) none pos.line X.env = pure false := by rfl) :
    CS X C E (.Expr (.Call (.Attribute (.Name x p1) "append" apos) [e] [] cpos) pos) (sApp i f) :=
  PS.imp (ps_expr (pe_bm PySem.F.plainAttrs_list PySem.F.slot_list_append PySem.F.type_list_append mt_append (pe_var hN hv hd hcd) (pa_cons he pa_nil hs) hbase hfew hline hs hplain) hsw) fun De σ H ⟨g0, H0, gs, g, S, t, st, gr, w, s, o, p⟩ => by
    unfold sApp at p
    cases e : S[i]? with
    | none => rw [e] at p; exact p.elim
    | some sv =>
      rw [e] at p
      cases sv with
      | un => exact p.elim
      | val d => exact p.elim
      | dic d => exact p.elim
      | raw d => exact p.elim
      | exn d => exact p.elim
      | own ds =>
        obtain ⟨a, vs, h1, h2, h3, h4⟩ := s.own i ds e
        refine ⟨_, h1, .inl ⟨rfl, vs, .of h2⟩, tS.ex st gr w s p fun d t1 g1 H1 v st1 st01 gr1 w1 s1 r q => ?_⟩
        have q : Post C E g0 H0 (Rs X.K H0 gs De) ((if ds.length < sizeLine then ret (Fl.nx (S.set i (.own (ds ++ [d])))) else stuck) t1) := q
        split at q
        · rename_i hz
          obtain ⟨a', vs', k1, k2, k3, k4⟩ := s1.own i ds e
          rw [h1] at k1
          cases k1
          refine ⟨a, vs', v, rfl, rfl, k2, by rw [k3.length]; exact hz, ?_⟩
          exact q g1 _ (st01.updO (o i _ a e rfl h1)) (w1.updL k2 k4) _ gr1 (s1.updO e h1 (k3.app (.one r))) (o.updO e)
        · exact q.elim
theorem cs_ext (i : Nat) {x : Str} {e : Expr} {f : Ex} {p1 apos cpos pos : Pos} (he : CW X C E e f) (hN : X.N[i]? = some x := by rfl) (hv : Vis X.env.scope x := by first | exact Or.inl rfl | exact Or.inr (Or.inl rfl) | exact Or.inr (Or.inr rfl)) (hd : (x == ("__debug__" : Str)) = false := by decide)
    (hcd : (x == ("__classdict__" : Str)) = false := by decide) (hbase : attributeBase (.Name x p1) "extend" X.env (eval (.Name x p1) X.env) = eval (.Name x p1) X.env := by rfl)
    (hfew : ((backTo cpos (starEach [e] X.env)).all (fun x => !x.1) && (backToKw cpos (keywordEach [] X.env)).all (fun x => x.1.isSome) && decide ([e].length + ([] : List Keyword).length + (if ([] : List Keyword).isEmpty then 0 else 1) < 30)) = true := by rfl)
    (hline : (apos.endLine == cpos.line) = true := by rfl) (hs : starEach [e] X.env = (false, eval e X.env) :: starEach [] X.env := by rfl) (hplain : (backTo cpos (starEach [] X.env)).any (·.1) = false := by rfl) (hsw : swapsWith (.Call (.Attribute (.Name x p1) "extend" apos) [e] [] cpos) none pos.line X.env = pure false := by rfl) :
    CS X C E (.Expr (.Call (.Attribute (.Name x p1) "extend" apos) [e] [] cpos) pos) (sExt i f) :=
  PS.imp (ps_expr (pe_bm PySem.F.plainAttrs_list PySem.F.slot_list_extend PySem.F.type_list_extend mt_extend (pe_var hN hv hd hcd) (pa_cons he pa_nil hs) hbase hfew hline hs hplain) hsw) fun De σ H ⟨g0, H0, gs, g, S, t, st, gr, w, s, o, p⟩ => by
    unfold sExt at p
    cases e : S[i]? with
    | none => rw [e] at p; exact p.elim
    | some sv =>
      rw [e] at p
      cases sv with
      | un => exact p.elim
      | val d => exact p.elim
      | dic d => exact p.elim
      | raw d => exact p.elim
      | exn d => exact p.elim
      | own ds =>
        obtain ⟨a, vs, h1, h2, h3, h4⟩ := s.own i ds e
        refine ⟨_, h1, .inl ⟨rfl, vs, .of h2⟩, tS.exW st gr w s p fun d t1 g1 H1 v st1 st01 gr1 w1 s1 r q => ?_⟩
        cases d with
        | lst es =>
          have q : Post C E g0 H0 (Rs X.K H0 gs De) ((if ds.length + es.length ≤ sizeLine then ret (Fl.nx (S.set i (.own (ds ++ es)))) else stuck) t1) := q
          split at q
          · rename_i hz
            obtain ⟨a', vs', k1, k2, k3, k4⟩ := s1.own i ds e
            rw [h1] at k1
            cases k1
            obtain ⟨b, us, rfl, m1, m2⟩ := r.lst w1
            refine ⟨a, b, vs', us, rfl, rfl, k2, m1, by rw [k3.length, m2.length]; exact hz, ?_⟩
            exact q g1 _ (st01.updO (o i _ a e rfl h1)) (w1.updL k2 k4) _ gr1 (s1.updO e h1 (k3.app m2)) (o.updO e)
          · exact q.elim
        | _ => exact q.elim
/-- x[k] = e of a list of one's own -/
theorem cs_put (i : Nat) {x : Str} {k e : Expr} {fk f : Ex} {p1 pos' pos : Pos} (he : CE X C E e f) (hk : CE X C E k fk) (hN : X.N[i]? = some x := by rfl) (hv : Vis X.env.scope x := by first | exact Or.inl rfl | exact Or.inr (Or.inl rfl) | exact Or.inr (Or.inr rfl)) (hd : (x == ("__debug__" : Str)) = false := by decide)
    (hcd : (x == ("__classdict__" : Str)) = false := by decide)
    (ha : ∀ v, assign (.Subscript (.Name x p1) k pos') X.env v = (do
      let ov ← holding [v] (eval (.Name x p1) X.env)
      let iv ← holding [v, ov] (eval k X.env)
      standAt pos'
      holding [v, ov, iv] (setItem ov iv v)
      release [v, ov, iv] []) := by intro _; rfl) (hs : swapsWithSole [.Subscript (.Name x p1) k pos'] e pos.line X.env = pure false := by rfl) (hw : swappedStores [.Subscript (.Name x p1) k pos'] e X.env = pure none := by rfl)
    (h1 : (assignEach [.Subscript (.Name x p1) k pos'] X.env).map (·.2) = [assign (.Subscript (.Name x p1) k pos') X.env] := by rfl) : CS X C E (.Assign [.Subscript (.Name x p1) k pos'] e pos) (sPut i fk f) :=
  PS.imp (ps_asg he (pg_sub (pe_var hN hv hd hcd) hk set_list ha) hs hw h1) fun De σ H ⟨g0, H0, gs, g, S, t, st, gr, w, s, o, p⟩ => by
    unfold sPut at p
    cases e : S[i]? with
    | none => rw [e] at p; exact p.elim
    | some sv =>
      rw [e] at p
      cases sv with
      | un => exact p.elim
      | val d => exact p.elim
      | dic d => exact p.elim
      | raw d => exact p.elim
      | exn d => exact p.elim
      | own ds =>
        refine tS.ex st gr w s p fun d t1 g1 H1 v st1 st01 gr1 w1 s1 r q => ?_
        obtain ⟨a, vs, h1, h2, h3, h4⟩ := s1.own i ds e
        refine ⟨_, h1, tS.ex st01 gr1 w1 s1 q fun n t2 g2 H2 v2 st2 st02 gr2 w2 s2 r2 q2 => ?_⟩
        cases n with
        | int n =>
          have q2 : Post C E g0 H0 (Rs X.K H0 gs De) ((match ixN ds.length n with | some j => ret (Fl.nx (S.set i (.own (ds.set j d)))) | none => stuck) t2) := q2
          cases z : ixN ds.length n with
          | none => rw [z] at q2; exact q2.elim
          | some j =>
            rw [z] at q2
            cases r2
            obtain ⟨a', vs', k1, k2, k3, k4⟩ := s2.own i ds e
            rw [h1] at k1
            cases k1
            refine ⟨a, vs', n, j, rfl, rfl, k2, by rw [k3.length]; exact z, ?_⟩
            exact q2 g2 _ (st02.updO (o i _ a e rfl h1)) (w2.updL k2 k4) _ gr2 (s2.updO e h1 (RpA.set (r.stp st2) j k3)) (o.updO e)
        | _ => exact q2.elim
theorem PS.nox {st : Stmt} {t : TS} (h : PS X.nox st t) : PS X st t := ⟨fun pins s σ H D I hw =>
  wpAny_mono (h.run pins s σ H D (I.wish _) hw) (fun _ _ q => q.unwish) fun _ _ z => False.elim z⟩
theorem cs_for {tg iter : Expr} {body : List Stmt} {fi : Sl → M (List D)} {is : List Nat} {ft : Tg} {fb : Stm} {pos : Pos} (hc : X.calm = true) (hi : CI X.nox C E0 tg iter fi) (hg : CG X.nox C is tg ft) (hb : CSs X.nox C E0 body fb)
    (hs : ∀ x, foldedSetIterable iter X.env x = pure x := by intro _; rfl) : CS X C E (.For tg iter body [] pos) (sFor fi ft fb) := by
  refine PS.imp (PS.nox (ps_for (X := X.nox) PassesOwn.never hc hi hg hb hs)) fun De σ H ⟨g0, H0, gs, g, S, t, st, gr, w, s, o, p⟩ => ?_
  refine ⟨g, S, t, w, s, (Post.calm p.bnd0 E0 |>.stp st).imp fun ds t1 g1 H1 st1 w1 q J wk => ?_⟩
  have gr1 := gr.trans st1.gw
  refine ⟨fun i m σk Hk => m = ds.length - i ∧ i ≤ ds.length ∧ ∃ gk Sk tk, Stp g0 H0 gk Hk ∧ Gw g1 gk ∧ Wf C gk Hk tk ∧ SL X.K gk Hk σk Sk ∧ OwnF H0 σk Sk ∧ Post C E g0 H0 (Rs X.K H0 gs De) (forL ft fb (ds.drop i) Sk tk),
    ⟨ds.length, by simp, Nat.zero_le _, g1, S, t1, st.trans st1, .refl _, w1, s.stp w st1, o, by rw [List.drop_zero]; exact q⟩, ?_⟩
  rintro i m σk Hk ⟨rfl, hi', gk, Sk, tk, stk, gwk, wk', sk, ok, pk⟩
  obtain ⟨wgo, wstop⟩ := wk i Hk (gwk.fz.trans wk'.fz)
  by_cases hlt : i < ds.length
  · have ed : ds[i]? = some ds[i] := List.getElem?_eq_getElem hlt
    obtain ⟨go, yl⟩ := wgo _ ed
    have edr : ds.drop i = ds[i] :: ds.drop (i + 1) := List.drop_eq_getElem_cons hlt
    rw [edr] at pk
    refine .inr ⟨go, fun σn Hn => ∃ gn Sn tn, Stp g0 H0 gn Hn ∧ Gw g1 gn ∧ Wf C gn Hn tn ∧ SL X.K gn Hn σn Sn ∧ OwnF H0 σn Sn ∧ Post C E g0 H0 (Rs X.K H0 gs De) (forL ft fb (ds.drop (i + 1)) Sn tn), fun σ' H' hn => ⟨_, Nat.sub_lt_sub_left hlt (Nat.lt_succ_self i), rfl, hlt, hn⟩, fun x H' hy => ?_⟩
    obtain ⟨g3, st3, w3, r3, kp3⟩ := (yl x H' hy).stp gwk.fz gwk.tw wk'
    have sl3 := sk.stp wk' st3
    have pk : Post C E g0 H0 (Rs X.K H0 gs De) ((match ft ds[i] Sk with
      | none => stuck
      | some S' => bnd (calm (fb S')) fun fl => match fl with
        | .nx S'' => forL ft fb (ds.drop (i + 1)) S''
        | .ret v => ret (.ret v)) tk) := pk
    cases eft : ft ds[i] Sk with
    | none => rw [eft] at pk; exact pk.elim
    | some S' =>
      rw [eft] at pk
      refine ⟨g3, Sk, tk, _, S', w3, sl3, r3, eft, fun σ2 sl2 _ _ k2 => ?_⟩
      have pb := Post.calm pk.bnd0 E0
      refine ⟨g0, H0, g1, g3, S', tk, stk.trans st3, gwk.trans st3.gw, w3, sl2, ok.keep k2, pb.imp fun fl t4 g4 H4 st4 w4 q4 => ?_⟩
      cases fl with
      | nx S'' => exact fun σ' gw' s' o' => ⟨g4, S'', t4, st4, gw', w4, s', o', q4⟩
      | ret d => exact fun v gw' r => q4 g4 H4 st4 w4 v (gr1.trans gw') r
  · have e : i = ds.length := by omega
    subst e
    rw [List.drop_length] at pk
    exact .inl ⟨wstop (Nat.le_refl _), pk gk Hk stk wk' σk (gr1.trans gwk) sk ok⟩
theorem cs_while {c : Expr} {body : List Stmt} {n : Nat} {fc : Ex} {fb : Stm} {pos : Pos} (hc : CT X.nox C E0 c fc) (hb : CSs X.nox C E0 body fb) : CS X C E (.While c body [] pos) (sWhile n fc fb) := by
  refine PS.imp (PS.nox (ps_while (X := X.nox) PassesOwn.never hc hb)) fun De σ H ⟨g0, H0, gs, g, S, t, st, gr, w, s, o, p⟩ => ?_
  refine ⟨fun m σk Hk => ∃ gk Sk tk, Stp g0 H0 gk Hk ∧ Gw gs gk ∧ Wf C gk Hk tk ∧ SL X.K gk Hk σk Sk ∧ OwnF H0 σk Sk ∧ Post C E g0 H0 (Rs X.K H0 gs De) (whileL fc fb m Sk tk), ⟨n, g, S, t, st, gr, w, s, o, p⟩, ?_⟩
  rintro m σk Hk ⟨gk, Sk, tk, stk, gwk, wk, sk, ok, pk⟩
  cases m with
  | zero => exact pk.elim
  | succ m =>
    have pk : Post C E g0 H0 (Rs X.K H0 gs De) (bnd (calm (fc Sk)) (fun d => match d with
      | .bl true => bnd (calm (fb Sk)) fun fl => match fl with
        | .nx S'' => whileL fc fb m S''
        | .ret v => ret (.ret v)
      | .bl false => ret (.nx Sk)
      | _ => stuck) tk) := pk
    refine ⟨gk, Sk, tk, wk, sk, (Post.calm pk.bnd0 E0 |>.stp stk).imp fun d t1 g1 H1 st1 w1 q => ?_⟩
    cases d with
    | bl b =>
      refine ⟨b, rfl, ?_⟩
      cases b with
      | true =>
        refine iteT ⟨fun σn Hn => ∃ gn Sn tn, Stp g0 H0 gn Hn ∧ Gw gs gn ∧ Wf C gn Hn tn ∧ SL X.K gn Hn σn Sn ∧ OwnF H0 σn Sn ∧ Post C E g0 H0 (Rs X.K H0 gs De) (whileL fc fb m Sn tn), fun σ' H' hn => ⟨m, Nat.lt_succ_self m, hn⟩, ?_⟩
        have pb := Post.calm q.bnd0 E0
        refine ⟨g0, H0, gs, g1, Sk, t1, stk.trans st1, gwk.trans st1.gw, w1, sk.stp wk st1, ok, pb.imp fun fl t4 g4 H4 st4 w4 q4 => ?_⟩
        cases fl with
        | nx S'' => exact fun σ' gw' s' o' => ⟨g4, S'', t4, st4, gw', w4, s', o', q4⟩
        | ret d => exact fun v gw' r => q4 g4 H4 st4 w4 v gw' r
      | false => exact iteF (q g1 H1 (stk.trans st1) w1 σk (gwk.trans st1.gw) (sk.stp wk st1) ok)
    | _ => exact q.elim
theorem cs_asgLc (i : Nat) {y : Str} {py : Pos} {elt tg iter : Expr} {ifs : List Expr} {scope : Scope} {own : List (Str × Nat)} {pos spos : Pos} {is : List Nat} {fi : Sl → M (List D)} {ft : Tg} {fc fe : Ex} (hc : X.calm = true) (hN : X.N.Nodup) (hyl : X.env.scope.names.lookup y = some .local)
    (hsw : swapsWith (.ListComp elt [⟨tg, iter, ifs, 0⟩] scope pos) (some (.Name y py)) spos.line X.env = pure true) (hi : CIW X C E tg iter fi) (ok : BlkOk X.N X.env.scope scope own) (hv : ∀ i ∈ is, i ∈ own.map (·.2))
    (hg : ∀ (s : Shared) (H : Hp) (Ca : Addr) (cl : List (Str × Addr)) (fp : List Addr), CG (X.blk s H scope (compEnvC scope cl Ca X.env) fp) C is tg ft) (ht : ∀ (s : Shared) (H : Hp) (Ca : Addr) (cl : List (Str × Addr)) (fp : List Addr), CTs (X.blk s H scope (compEnvC scope cl Ca X.env) fp) C E0 ifs fc)
    (he : ∀ (s : Shared) (H : Hp) (Ca : Addr) (cl : List (Str × Addr)) (fp : List Addr), CE (X.blk s H scope (compEnvC scope cl Ca X.env) fp) C E0 elt fe) (hy : X.N[i]? = some y := by rfl) (hs : ∀ x, foldedSetIterable iter X.env x = pure x := by intro _; rfl) :
    CS X C E (.Assign [.Name y py] (.ListComp elt [⟨tg, iter, ifs, 0⟩] scope pos) spos) (sAsg i (eComp (own.map (·.2)) fi ft fc fe)) :=
  PS.imp (ps_setLc (te := tE X.K C E0 fe) (g := tG X.K C is ft) (tt := tT X.K C E0 fc) hc hN hy hyl hsw hi ok hg ht he hs) fun De σ H ⟨g0, H0, gs, g, S, t, st, gr, w, s, o, p⟩ => tF.lc hv (tS.exF st gr w s p fun d t1 g1 H1 v st1 st01 gr1 w1 s1 r q => by
    obtain ⟨g2, st2, w2, r2⟩ := Rp.frz r st1 w1
    exact q g2 H1 (st.trans st2) w2 _ (gr.trans st2.gw) ((s.stp w st2).set r2) o.set)
end
def slots0 (n : Nat) (ds : List D) : Sl := ds.map SV.val ++ List.replicate (n - ds.length) .un
def fnOf (n : Nat) (body : Stm) : Fn := fun ds => bnd (body (slots0 n ds)) fun fl => match fl with
  | .nx _ => ret .non
  | .ret d => ret d
theorem SL.start {K : PySem.W.Frag} {g : G} {H : Hp} {N : List Str} {vs : List V} {ds : List D} (r : RpA K g vs ds) : SL K g H (L2.start N vs) (slots0 N.length ds) := by
  have hl := r.length
  have un : ∀ {i : Nat} {x : SV}, (slots0 N.length ds)[i]? = some x → x ≠ .un → i < ds.length ∧ ∃ d, ds[i]? = some d ∧ x = .val d := fun {i x} e hx => by
    unfold slots0 at e
    by_cases h : i < ds.length
    · rw [List.getElem?_append_left (by rw [List.length_map]; exact h), List.getElem?_map] at e
      cases z : ds[i]? with
      | none => rw [z] at e; cases e
      | some d =>
        rw [z] at e
        cases e
        exact ⟨h, d, rfl, rfl⟩
    · rw [List.getElem?_append_right (by rw [List.length_map]; omega), List.getElem?_replicate] at e
      split at e
      · cases e; exact absurd rfl hx
      · cases e
  refine ⟨by unfold L2.start slots0; rw [List.length_append, List.length_append, List.length_map, List.length_map, List.length_replicate, List.length_replicate, hl], fun i x e => ?_, fun i j p x y e1 _ ox => ?_⟩
  · by_cases hx : x = .un
    · subst hx; trivial
    · obtain ⟨h, d', e1, e2⟩ := un e hx
      subst e2
      obtain ⟨v, e3, r3⟩ := r.get e1
      refine ⟨v, ?_, r3⟩
      unfold L2.start
      rw [List.getElem?_append_left (by rw [List.length_map]; omega), List.getElem?_map, e3]; rfl
  · obtain ⟨h, d', _, e2⟩ := un e1 (fun z => by subst z; cases ox)
    subst e2
    cases ox
theorem OwnF.start {H0 : Hp} {σ : L2.St} {n : Nat} {ds : List D} : OwnF H0 σ (slots0 n ds) := fun j x p e ox _ => by
  unfold slots0 at e
  by_cases h : j < ds.length
  · rw [List.getElem?_append_left (by rw [List.length_map]; exact h), List.getElem?_map] at e
    cases z : ds[j]? with
    | none => rw [z] at e; cases e
    | some d => rw [z] at e; cases e; cases ox
  · rw [List.getElem?_append_right (by rw [List.length_map]; omega), List.getElem?_replicate] at e
    split at e
    · cases e; cases ox
    · cases e
/-- THE RULE: a def of the text, its body as read -/
theorem fn_ok {P : Program} {w : World} {K : PySem.W.Frag} {mg : Str → Option Value} {base : Heap} {C : Cn} {x qual : Str} {st : Stmt} {f : Addr} {fd : FuncData} {N ps : List Str} {k : Nat} {body : Stm} (F : Fun K x qual st f fd) (S : FnScope N ps (defScope st))
    (hb : ∀ (cdv : Value) (A : Around) (outer : List Env) (s : Shared) (H : Hp) (E : XK), Room k (A.deeper (envOfC qual (defScope st) s.heap.objs.size f cdv)) →
      CSs (cxOf (L2.CX P w) P w K mg base N qual (defScope st) f cdv A outer s H E) C E (defBody st) body) : FnOk P w K mg base (L2.CX P w) (k + 1) f fd ps (spF K C ps.length (fnOf N.length body)) := by
  refine F.okX S (fun vs H Q E ⟨g, ds, t, r, w, hl, p⟩ => hl) fun cdv A outer s H vs Q E hr ⟨g, ds, t, r, w, hl, p⟩ => ⟨_, hb cdv A outer s H E hr, ?_⟩
  refine ⟨g, H, g, g, _, t, .refl _ _, .refl _, w, SL.start r, OwnF.start, p.bnd0.imp fun fl t1 g1 H1 st1 w1 q => ?_⟩
  cases fl with
  | nx S' => exact fun _ _ _ _ => q g1 H1 st1 w1 _ .non
  | ret d => exact fun v _ r => q g1 H1 st1 w1 v r
end BG
set_option Elab.async false
set_option linter.all false
set_option maxRecDepth 100000
set_option maxHeartbeats 4000000
namespace BG
open PySem PySem.Spec PyProof.Rows L2
def pPow : D → D → M D
  | .int i, .int j => if 0 ≤ j ∧ j ≤ 1000000 ∧ i.natAbs < 2 ^ 64 then ret (.int (i ^ j.toNat)) else stuck
  | _, _ => stuck
section
variable {X : Cx} {C : Cn} {E : XK}
theorem bin_pow : BinOk X C E (binaryOp .Pow) pPow := OpR.imp op_pow fun x y H Q ⟨g, t, p, q, w, rx, ry, h⟩ => by
  cases p <;> cases q <;> first | exact h.elim | skip
  rename_i i j
  have h : PostQ X.K C E g H Q ((if 0 ≤ j ∧ j ≤ 1000000 ∧ i.natAbs < 2 ^ 64 then ret (.int (i ^ j.toNat)) else stuck) t) := h
  split at h
  · exact ⟨_, _, rx.int, ry.int, by assumption, pRetV h w (.int _)⟩
  · exact h.elim
def isTown (S : Sl) (i : Nat) : Bool := match S[i]? with
  | some (.val .town) => true
  | _ => false
theorem isTown_eq {S : Sl} {i : Nat} (h : isTown S i = true) : S[i]? = some (.val .town) := by
  unfold isTown at h
  cases e : S[i]? with
  | none => rw [e] at h; cases h
  | some sv =>
    rw [e] at h
    cases sv with
    | val d => cases d <;> first | rfl | cases h
    | un => cases h
    | dic ds => cases h
    | raw ds => cases h
    | exn ds => cases h
    | own ds => cases h
def scrAt (S : Sl) (i : Nat) : Option (List Int) := match S[i]? with
  | some (.val (.scr ns)) => some ns
  | _ => none
theorem scrAt_eq {S : Sl} {i : Nat} {ns : List Int} (h : scrAt S i = some ns) : S[i]? = some (.val (.scr ns)) := by
  unfold scrAt at h
  cases e : S[i]? with
  | none => rw [e] at h; cases h
  | some sv =>
    rw [e] at h
    cases sv with
    | val d => cases d <;> first | (cases h; rfl) | cases h
    | un => cases h
    | dic ds => cases h
    | raw ds => cases h
    | exn ds => cases h
    | own ds => cases h
def oTC : M D := fun t => match t with
  | some (c, rs) => some (.ok (.int c) (some (c, rs)))
  | none => none
def eTC (i : Nat) : Ex := fun S => if isTown S i = true then oTC else stuck
theorem val_count {a b : V} : valV [((.inr "count" : Key), a), (.inr "rests", b)] (.inr "count") = some a := valV_pos rfl
theorem val_rests {a b : V} : valV [((.inr "count" : Key), a), (.inr "rests", b)] (.inr "rests") = some b := by
  rw [valV_neg (show ¬ ((Sum.inr "count" : Key) = .inr "rests") by decide +kernel)]
  exact valV_pos rfl
theorem town_at {K : PySem.W.Frag} {g : G} {H : Hp} {σ : L2.St} {S : Sl} {i : Nat} {c : Int} {rs : List (Int × Int)} (w : Wf C g H (some (c, rs))) (s : SL K g H σ S) (e : S[i]? = some (.val .town)) :
    ∃ a b, g.tw = some (a, b) ∧ a ≠ b ∧ σ[i]? = some (some (.ref a)) ∧ H a = some (.dK [(.inr "count", .int c), (.inr "rests", .ref b)]) ∧ H b = some (.dK (rs.map fun p => (Sum.inl p.1, V.int p.2))) := by
  obtain ⟨a, b, e1, e2, e3, e4⟩ := w.tw
  obtain ⟨v, h1, h2⟩ := s.val i _ e
  cases h2 with
  | town e5 =>
    rw [e1] at e5
    cases e5
    exact ⟨a, b, e1, e2, h1, e3, e4⟩
theorem ce_tc (i : Nat) {x : Str} {j : Nat} {p1 p2 pos : Pos} (hu : X.A.units + 1 < cLine) (hN : X.N[i]? = some x := by rfl) (hv : Vis X.env.scope x := by first | exact Or.inl rfl | exact Or.inr (Or.inl rfl) | exact Or.inr (Or.inr rfl)) (hd : (x == ("__debug__" : Str)) = false := by decide)
    (hcd : (x == ("__classdict__" : Str)) = false := by decide) (hs : NoSl (.Constant (.str "count") j p2) := by exact fun _ _ => rfl) : CE X C E (.Subscript (.Name x p1) (.Constant (.str "count") j p2) pos) (eTC i) :=
  PE.imp (pe_dget hu (pe_var hN hv hd hcd) pe_str hs) fun σ H Q ⟨g, S, t, w, s, p⟩ => by
    unfold eTC at p
    by_cases hT : isTown S i = true
    · rw [if_pos hT] at p
      have e := isTown_eq hT
      cases t with
      | none => exact p.elim
      | some cr =>
        obtain ⟨c, rs⟩ := cr
        have p : PostQ X.K C E g H Q (some (.ok (.int c) (some (c, rs)))) := p
        obtain ⟨a, b, e1, e2, e3, e4, e5⟩ := town_at w s e
        refine ⟨_, e3, a, .int c, rfl, ?_, p g H (.refl _ _) w _ (.int c)⟩
        have := DGet.k (k := .inr "count") e4
        rw [val_count] at this
        exact this
    · rw [if_neg hT] at p; exact p.elim
/-- a step that changes a draws' dict -/
theorem Stp.tww {g0 g : G} {H0 H : Hp} {a : Addr} {o : HO} (st : Stp g0 H0 g H) (h : g.isTw a) (ho : ∀ ps, o ≠ .tbl ps := by intro _ z; cases z) : Stp g0 H0 g (upd H a o) := ⟨st.fz, st.tw, st.twn, fun b o' e1 e2 e3 => by
  have nb : b ≠ a := fun z => by
    subst z
    obtain ⟨p, hp, q⟩ := h
    cases z : g0.tw with
    | some p' =>
      have := st.tw p' z
      rw [hp] at this
      cases this
      exact e2 ⟨p, z, q⟩
    | none =>
      obtain ⟨z1, z2⟩ := st.twn z p.1 p.2 hp
      rcases q with q | q
      · exact z1 ⟨o', by rw [← q]; exact e1, e3⟩
      · exact z2 ⟨o', by rw [← q]; exact e1, e3⟩
  rw [upd_ne nb]
  exact st.frm b o' e1 e2 e3, fun b e1 => by
  by_cases hb : b = a
  · exact ⟨o, by rw [hb]; exact upd_same, ho⟩
  · obtain ⟨o', e', n'⟩ := st.thr b e1
    exact ⟨o', by rw [upd_ne hb]; exact e', n'⟩, st.new⟩
theorem SL.tww {K : PySem.W.Frag} {g : G} {H : Hp} {σ : L2.St} {S : Sl} {a : Addr} {o : HO} {kvs : List (Key × V)} (s : SL K g H σ S) (h : H a = some (.dK kvs)) (ht : g.isTw a) : SL K g (upd H a o) σ S := ⟨s.len, fun i x e => by
  have q := s.ok i x e
  cases x with
  | un => trivial
  | raw v => exact q
  | exn c =>
    obtain ⟨p, h1, h2⟩ := q
    exact ⟨p, h1, by rw [upd_ne (fun z => by rw [z, h] at h2; unfold ExK at h2; cases h2)]; exact h2⟩
  | val d => exact q
  | own ds =>
    obtain ⟨p, vs, h1, h2, h3, h4⟩ := q
    exact ⟨p, vs, h1, by rw [upd_ne (ne_of h2 h (fun z => nomatch z))]; exact h2, h3, h4⟩
  | dic ks =>
    obtain ⟨p, vs, h1, h2, h3, h4, h5⟩ := q
    exact ⟨p, vs, h1, by rw [upd_ne (fun z => h5 (by rw [z]; exact ht))]; exact h2, h3, h4, h5⟩, s.dis⟩
theorem Wf.tww {g : G} {H : Hp} {t t' : Tn} {a : Addr} {kvs kvs' : List (Key × V)} (w : Wf C g H t) (h : H a = some (.dK kvs)) (ht : g.isTw a) (n : TownOk g (upd H a (.dK kvs')) t') : Wf C g (upd H a (.dK kvs')) t' := ⟨fun b o e => by
  have nb : b ≠ a := fun z => by rw [z, w.ntw a ht] at e; cases e
  rw [upd_ne nb]; exact w.fz b o e, n, w.ntw, fun q hq => by
  obtain ⟨ps, h1, h2, h3⟩ := w.tab q hq
  refine ⟨ps, by rw [upd_ne (ne_of h1 h (fun z => nomatch z))]; exact h1, h2, fun pos cv e => ?_⟩
  obtain ⟨c, e1, e2⟩ := h3 pos cv e
  exact ⟨c, e1, by rw [upd_ne (ne_of e2 h (fun z => by unfold LamX.CodeO at z; cases z))]; exact e2⟩, w.nft⟩
def sTC (i : Nat) (e : Ex) : Stm := fun S => if isTown S i = true then bnd (e S) fun d t => match d, t with
    | .int n, some (_, rs) => some (.ok (.nx S) (some (n, rs)))
    | _, _ => none
  else stuck
theorem put_count {a b v : V} : putK [((.inr "count" : Key), a), (.inr "rests", b)] (.inr "count") v = [(.inr "count", v), (.inr "rests", b)] := by
  have h : ([((.inr "count" : Key), a), (.inr "rests", b)].any fun kv => decide (kv.1 = .inr "count")) = true := by
    show (decide ((Sum.inr "count" : Key) = .inr "count") || (decide ((Sum.inr "rests" : Key) = .inr "count") || false)) = true
    decide +kernel
  unfold putK
  rw [if_pos h]
  show [if (Sum.inr "count" : Key) = .inr "count" then ((.inr "count" : Key), v) else (.inr "count", a), if (Sum.inr "rests" : Key) = .inr "count" then (.inr "rests", v) else (.inr "rests", b)] = _
  rw [if_pos rfl, if_neg (by decide +kernel)]
theorem cs_tc (i : Nat) {x : Str} {j : Nat} {e : Expr} {f : Ex} {p1 p2 pos' pos : Pos} (hu : X.A.units + 1 < cLine) (he : CE X C E e f) (hN : X.N[i]? = some x := by rfl) (hv : Vis X.env.scope x := by first | exact Or.inl rfl | exact Or.inr (Or.inl rfl) | exact Or.inr (Or.inr rfl)) (hd : (x == ("__debug__" : Str)) = false := by decide)
    (hcd : (x == ("__classdict__" : Str)) = false := by decide) (hs : swapsWith e (some (.Subscript (.Name x p1) (.Constant (.str "count") j p2) pos')) pos.line X.env = pure false := by rfl) : CS X C E (.Assign [.Subscript (.Name x p1) (.Constant (.str "count") j p2) pos'] e pos) (sTC i f) :=
  PS.imp (ps_dput hu (pe_var hN hv hd hcd) pe_str he hs) fun De σ H ⟨g0, H0, gs, g, S, t, st, gr, w, s, o, p⟩ => by
    unfold sTC at p
    by_cases hT : isTown S i = true
    case neg => rw [if_neg hT] at p; exact p.elim
    · rw [if_pos hT] at p
      have e := isTown_eq hT
      refine tS.ex st gr w s p fun d t1 g1 H1 v st1 st01 gr1 w1 s1 r q => ?_
      cases d with
      | int n =>
        cases t1 with
        | none => exact q.elim
        | some cr =>
          obtain ⟨c, rs⟩ := cr
          cases r
          obtain ⟨a, b, e1, e2, e3, e4, e5⟩ := town_at w1 s1 e
          have q : Post C E g0 H0 (Rs X.K H0 gs De) (some (.ok (.nx S) (some (n, rs)))) := q
          have ht : g1.isTw a := ⟨_, e1, .inl rfl⟩
          refine ⟨_, e3, a, _, rfl, DPut.k (k := .inr "count") e4 (show 2 < sizeLine by decide), ?_⟩
          rw [put_count]
          exact q g1 _ (st01.tww ht) (w1.tww e4 ht ⟨a, b, e1, e2, upd_same, by rw [upd_ne (Ne.symm e2)]; exact e5⟩) _ gr1 (s1.tww e4 ht) o
      | _ => exact q.elim
def rLook (rs : List (Int × Int)) (k : Int) : Option Int := (rs.find? fun p => decide (p.1 = k)).map (·.2)
def rPut (rs : List (Int × Int)) (k v : Int) : List (Int × Int) := if (rs.any fun p => decide (p.1 = k)) = true then rs.map fun p => if p.1 = k then (p.1, v) else p else rs ++ [(k, v)]
theorem rLook_val (k : Int) : ∀ rs : List (Int × Int), valV (rs.map fun p => ((Sum.inl p.1 : Key), V.int p.2)) (.inl k) = (rLook rs k).map V.int
  | [] => rfl
  | (a, b) :: r => by
    have ih := rLook_val k r
    by_cases h : a = k
    · subst h
      show valV (((Sum.inl a : Key), V.int b) :: _) (.inl a) = _
      rw [valV_pos rfl]
      unfold rLook
      rw [List.find?_cons]
      simp
    · show valV (((Sum.inl a : Key), V.int b) :: _) (.inl k) = _
      rw [valV_neg (fun z => h (Sum.inl.inj z)), ih]
      unfold rLook
      rw [List.find?_cons]
      simp [h]
theorem rPut_put (rs : List (Int × Int)) (k v : Int) : putK (rs.map fun p => ((Sum.inl p.1 : Key), V.int p.2)) (.inl k) (.int v) = (rPut rs k v).map fun p => ((Sum.inl p.1 : Key), V.int p.2) := by
  unfold putK rPut
  have e : ((rs.map fun p => ((Sum.inl p.1 : Key), V.int p.2)).any fun kv => decide (kv.1 = .inl k)) = rs.any fun p => decide (p.1 = k) := by
    rw [List.any_map]
    congr 1
    funext p
    show decide ((Sum.inl p.1 : Key) = .inl k) = decide (p.1 = k)
    exact decide_eq_decide.mpr ⟨fun z => Sum.inl.inj z, fun z => by rw [z]⟩
  rw [e]
  split
  · rw [List.map_map, List.map_map]
    congr 1
    funext p
    show (if (Sum.inl p.1 : Key) = .inl k then _ else _) = _
    by_cases h : p.1 = k
    · rw [if_pos (by rw [h]), Function.comp, if_pos h]
    · rw [if_neg (fun z => h (Sum.inl.inj z)), Function.comp, if_neg h]
  · rw [List.map_append]; rfl
/-- town['rests'].get(k, d) -/
def eTR (i : Nat) (k d : Ex) : Ex := fun S => if isTown S i = true then bnd (k S) fun a => bnd (d S) fun b t => match a, t with
    | .int n, some (c, rs) => some (.ok (match rLook rs n with | some v => .int v | none => b) (some (c, rs)))
    | _, _ => none
  else stuck
theorem ce_tr (i : Nat) {x : Str} {j : Nat} {k d : Expr} {fk fd : Ex} {p1 p2 p3 apos cpos : Pos} (hu : X.A.units + 1 < cLine) (hk : CE X C E k fk) (hdf : CE X C E d fd) (hN : X.N[i]? = some x := by rfl) (hv : Vis X.env.scope x := by first | exact Or.inl rfl | exact Or.inr (Or.inl rfl) | exact Or.inr (Or.inr rfl)) (hd : (x == ("__debug__" : Str)) = false := by decide)
    (hcd : (x == ("__classdict__" : Str)) = false := by decide) (hs : NoSl (.Constant (.str "rests") j p2) := by exact fun _ _ => rfl) (m : M2 X (.Subscript (.Name x p1) (.Constant (.str "rests") j p2) p3) "get" apos k d cpos := by exact ⟨rfl, rfl, rfl, rfl⟩) :
    CE X C E (.Call (.Attribute (.Subscript (.Name x p1) (.Constant (.str "rests") j p2) p3) "get" apos) [k, d] [] cpos) (eTR i fk fd) :=
  PE.imp (pe_dget2 hu (pe_dget hu (pe_var hN hv hd hcd) pe_str hs) hk hdf m) fun σ H Q ⟨g, S, t, w, s, p⟩ => by
    unfold eTR at p
    by_cases hT : isTown S i = true
    case neg => rw [if_neg hT] at p; exact p.elim
    · rw [if_pos hT] at p
      have e := isTown_eq hT
      cases t with
      | none =>
        obtain ⟨v, h1, h2⟩ := s.val i _ e
        cases h2 with
        | town e5 => rw [show g.tw = none from w.tw] at e5; cases e5
      | some cr =>
        obtain ⟨c, rs⟩ := cr
        obtain ⟨a, b, e1, e2, e3, e4, e5⟩ := town_at w s e
        refine ⟨_, e3, a, .ref b, rfl, ?_, b, rfl, .inl ⟨_, .inl e5⟩, ?_⟩
        · have := DGet.k (k := .inr "rests") e4
          rw [val_rests] at this
          exact this
        · refine ⟨g, S, _, w, s, p.bnd.imp fun n t1 g1 H1 st1 w1 q v r => ?_⟩
          refine ⟨g1, S, t1, w1, s.stp w st1, q.bnd.imp fun d2 t2 g2 H2 st2 w2 q2 v2 r2 => ?_⟩
          cases n with
          | int n =>
            cases r
            cases t2 with
            | none => exact q2.elim
            | some cr2 =>
              obtain ⟨c2, rs2⟩ := cr2
              obtain ⟨a', b', f1, f2, f3, f4, f5⟩ := town_at w2 ((s.stp w st1).stp w1 st2) e
              have ea := st2.tw _ (st1.tw _ e1)
              rw [f1] at ea
              cases ea
              have q2 : PostQ X.K C E g2 H2 Q (some (.ok (match rLook rs2 n with | some v => .int v | none => d2) (some (c2, rs2)))) := q2
              refine ⟨_, DGet.k (k := .inl n) f5, ?_⟩
              rw [rLook_val]
              cases z : rLook rs2 n with
              | none => rw [z] at q2; exact q2 g2 H2 (.refl _ _) w2 _ r2
              | some m => rw [z] at q2; exact q2 g2 H2 (.refl _ _) w2 _ (Rp.int m)
          | _ => exact q2.elim
/-- town['rests'][k] = e -/
def sTR (i : Nat) (k e : Ex) : Stm := fun S => if isTown S i = true then bnd (e S) fun d => bnd (k S) fun a t => match d, a, t with
    | .int v, .int n, some (c, rs) => if rs.length < 1000000 then some (.ok (.nx S) (some (c, rPut rs n v))) else none
    | _, _, _ => none
  else stuck
theorem cs_tr (i : Nat) {x : Str} {j : Nat} {k e : Expr} {fk f : Ex} {p1 p2 p3 pos' pos : Pos} (hu : X.A.units + 1 < cLine) (he : CE X C E e f) (hk : CE X C E k fk) (hN : X.N[i]? = some x := by rfl) (hv : Vis X.env.scope x := by first | exact Or.inl rfl | exact Or.inr (Or.inl rfl) | exact Or.inr (Or.inr rfl)) (hd : (x == ("__debug__" : Str)) = false := by decide)
    (hcd : (x == ("__classdict__" : Str)) = false := by decide) (hns : NoSl (.Constant (.str "rests") j p2) := by exact fun _ _ => rfl) (hs : swapsWith e (some (.Subscript (.Subscript (.Name x p1) (.Constant (.str "rests") j p2) p3) k pos')) pos.line X.env = pure false := by rfl) :
    CS X C E (.Assign [.Subscript (.Subscript (.Name x p1) (.Constant (.str "rests") j p2) p3) k pos'] e pos) (sTR i fk f) :=
  PS.imp (ps_dput hu (pe_dget hu (pe_var hN hv hd hcd) pe_str hns) hk he hs) fun De σ H ⟨g0, H0, gs, g, S, t, st, gr, w, s, o, p⟩ => by
    unfold sTR at p
    by_cases hT : isTown S i = true
    case neg => rw [if_neg hT] at p; exact p.elim
    · rw [if_pos hT] at p
      have e := isTown_eq hT
      refine tS.ex st gr w s p fun d t1 g1 H1 v st1 st01 gr1 w1 s1 r q => ?_
      cases t1 with
      | none =>
        obtain ⟨v, h1, h2⟩ := s1.val i _ e
        cases h2 with
        | town e5 => rw [show g1.tw = none from w1.tw] at e5; cases e5
      | some cr =>
        obtain ⟨c, rs⟩ := cr
        obtain ⟨a, b, e1, e2, e3, e4, e5⟩ := town_at w1 s1 e
        refine ⟨_, e3, a, .ref b, rfl, ?_, tS.ex st01 gr1 w1 s1 q fun n t2 g2 H2 v2 st2 st02 gr2 w2 s2 r2 q2 => ?_⟩
        · have := DGet.k (k := .inr "rests") e4
          rw [val_rests] at this
          exact this
        · cases d with
          | int vv =>
            cases n with
            | int n =>
              cases t2 with
              | none => exact q2.elim
              | some cr2 =>
                obtain ⟨c2, rs2⟩ := cr2
                have q2 : Post C E g0 H0 (Rs X.K H0 gs De) (if rs2.length < 1000000 then some (.ok (.nx S) (some (c2, rPut rs2 n vv))) else none) := q2
                split at q2
                · rename_i hz
                  cases r
                  cases r2
                  obtain ⟨a', b', f1, f2, f3, f4, f5⟩ := town_at w2 s2 e
                  have ea := st2.tw _ e1
                  rw [f1] at ea
                  cases ea
                  have ht : g2.isTw b := ⟨_, f1, .inr rfl⟩
                  refine ⟨b, _, rfl, DPut.k (k := .inl n) f5 (by rw [List.length_map, sizeLine_eq]; omega), ?_⟩
                  rw [rPut_put]
                  exact q2 g2 _ (st02.tww ht) (w2.tww f5 ht ⟨a, b, f1, e2, by rw [upd_ne e2]; exact f4, upd_same⟩) _ gr2 (s2.tww f5 ht) o
                · exact q2.elim
            | _ => exact q2.elim
          | _ => cases n <;> exact q2.elim
/-- the script's truth -/
def eScr (i : Nat) : Ex := fun S => match scrAt S i with
  | some ns => ret (.bl (!ns.isEmpty))
  | none => stuck
theorem ct_scr (i : Nat) {x : Str} {pos : Pos} (hN : X.N[i]? = some x := by rfl) (hv : Vis X.env.scope x := by first | exact Or.inl rfl | exact Or.inr (Or.inl rfl) | exact Or.inr (Or.inr rfl)) (hd : (x == ("__debug__" : Str)) = false := by decide)
    (hcd : (x == ("__classdict__" : Str)) = false := by decide) : CT X C E (.Name x pos) (eScr i) := PT.imp (pt_truth (pe_var hN hv hd hcd) (by intro _; rfl)) fun σ H Q ⟨g, S, t, w, s, p⟩ => by
  unfold eScr at p
  cases e : scrAt S i with
  | none => rw [e] at p; exact p.elim
  | some ns =>
    rw [e] at p
    obtain ⟨v, h1, h2⟩ := s.val i _ (scrAt_eq e)
    cases h2 with
    | scr sq =>
      obtain ⟨b, eb, q⟩ := postRet p w
      cases eb
      exact ⟨_, h1, _, .inl ⟨_, Same.seq w.fz sq, by cases ns <;> rfl⟩, q⟩
/-- {'count': 0, 'rests': {}} -/
def eBegun : Ex := fun _ t => match t with
  | none => some (.ok .town (some (0, [])))
  | some _ => none
theorem ce_begun {j1 j2 j3 : Nat} {p1 p2 p3 p4 pos : Pos} : CE X C E (.Dict [some (.Constant (.str "count") j1 p1), some (.Constant (.str "rests") j2 p2)] [.Constant (.int 0) j3 p3, .Dict [] [] p4] pos) eBegun :=
  PE.imp (pe_disp (pps_cons pe_str pe_int (pps_cons pe_str pe_dnewK pps_nil)) rfl rfl (fun z => by cases z) (show 2 ≤ 15 by decide)) fun σ H Q ⟨g, S, t, w, s, p⟩ => by
    cases t with
    | some cr => exact p.elim
    | none =>
      have p : PostQ X.K C E g H Q (some (.ok .town (some (0, [])))) := p
      intro a ha b hb
      have nba : b ≠ a := fun z => by rw [z, upd_same] at hb; cases hb
      have hb0 : H b = none := by rw [upd_ne nba] at hb; exact hb
      have g0 : g.tw = none := w.tw
      refine ⟨by rw [upd_ne (Ne.symm nba), upd_same], [(.inr "count", .int 0), (.inr "rests", .ref b)], rfl, (show 2 ≤ 15 by decide), ?_⟩
      have em : mergeK [] [((.inr "count" : Key), V.int 0), (.inr "rests", .ref b)] = [((.inr "count" : Key), V.int 0), (.inr "rests", .ref b)] := by
        show putK (putK [] (Sum.inr "count" : Key) (V.int 0)) (Sum.inr "rests") (V.ref b) = _
        have e1 : putK ([] : List (Key × V)) (.inr "count") (.int 0) = [((.inr "count" : Key), V.int 0)] := rfl
        rw [e1]
        have h : ¬ ([((.inr "count" : Key), V.int 0)].any fun kv => decide (kv.1 = .inr "rests")) = true := by
          show ¬ (decide ((Sum.inr "count" : Key) = .inr "rests") || false) = true
          decide +kernel
        unfold putK
        rw [if_neg h]; rfl
      rw [em]
      have at_ : ∀ c, c ≠ a → c ≠ b → upd (upd (upd H a (.dK [])) b (.dK [])) a (.dK [(.inr "count", .int 0), (.inr "rests", .ref b)]) c = H c := fun c h1 h2 => by rw [upd_ne h1, upd_ne h2, upd_ne h1]
      have sm : ∀ c o, H c = some o → upd (upd (upd H a (.dK [])) b (.dK [])) a (.dK [(.inr "count", .int 0), (.inr "rests", .ref b)]) c = some o := fun c o e => by
        rw [at_ c (ne_of_none e ha) (ne_of_none e hb0)]; exact e
      refine p ⟨g.Fz, some (a, b)⟩ _ ⟨fun _ _ h => h, fun p e => (by rw [g0] at e; cases e), fun _ x y e => (by cases e; exact ⟨Nt.no ha, Nt.no hb0⟩), fun c o e _ _ => sm c o e, fun c e => ?_, fun _ _ => rfl⟩ ⟨fun c o e => sm c o (w.fz c o e), ⟨a, b, rfl, Ne.symm nba, upd_same, by rw [upd_ne nba, upd_same]; rfl⟩, fun c ⟨p, hp, q⟩ => ?_, w.tab.ext sm, w.nft⟩ _ (.town rfl)
      · obtain ⟨o', e', n'⟩ := e
        exact ⟨o', sm c o' e', n'⟩
      · cases hp
        rcases q with q | q
        · rw [q]; exact w.fzN ha
        · rw [q]; exact w.fzN hb0
structure FdK (P : Program) (w : World) (K : PySem.W.Frag) (mg : Str → Option Value) (base : Heap) (C : Cn) (k : Nat) (x : Str) (n : Nat) (ks : List Str) (F : Fn) : Prop where
  ex : ∃ f fd ps, FnOk P w K mg base (L2.CX P w) k f fd ps (spF K C (n + ks.length) F) ∧ mg x = some (.ref f) ∧ PySem.W.keepIn K (.ref f) = true ∧
    ∀ (s : Shared) (us ws : List Value), K.In s.heap → us.length = n → ws.length = ks.length → BindsTo s fd ⟨us, ks.zip ws⟩ (ps.zip (us ++ ws))
abbrev CK (X : Cx) (C : Cn) (E : XK) (kws : List Keyword) (f : Sl → M (List D)) : Prop := PK X kws (tAs X.K C E f)
theorem PK.imp {e : List Keyword} {t t' : TA} (h : PK X e t) (f : ∀ σ H Q, t' σ H Q → t σ H Q) : PK X e t' := ⟨fun pos pins s σ H Q I q => h.run pos pins s σ H Q I (f σ H Q q)⟩
theorem ck_nil : CK X C E [] (evs []) := PK.imp pk_nil fun σ H Q ⟨g, S, t, w, s, p⟩ => postRet p w _ .nil
theorem ck_cons {e : Expr} {nm : Option Str} {kpos : Pos} {kws : List Keyword} {f : Ex} {fs : List Ex} (ha : CE X C E e f) (hr : CK X C E kws (evs fs)) : CK X C E (⟨nm, e, kpos⟩ :: kws) (evs (f :: fs)) :=
  PK.imp (pk_cons ha hr) fun σ H Q ⟨g, S, t, w, s, p⟩ => ⟨g, S, t, w, s, p.bnd.imp fun d t1 g1 H1 st1 w1 q v r => ⟨g1, S, t1, w1, s.stp w st1, q.bnd.imp fun ds t2 g2 H2 st2 w2 q2 vs rs => postRet q2 w2 _ (.cons (r.stp st2) rs)⟩⟩
/-- f(k = v, ..) -/
theorem pe_callK0 {CXT' : CXT} {k : Nat} {f : Addr} {fd : FuncData} {ps ks : List Str} {sp : Sp} {x : Str} {p pos : Pos} {kws : List Keyword} {tk : TA} {g : List Value → List Value → List Value} {gV : List V → List V → List V}
    (F : FnOk X.prog X.w X.K X.mg X.base CXT' k f fd ps sp) (hr : Room k X.A) (hg : Gl X x) (hm : X.mg x = some (.ref f)) (hk : PySem.W.keepIn X.K (.ref f) = true) (hb : KBinds X.K fd ps ks g gV) (hx : Passes CXT' X E)
    (hkw : PK X kws tk) (hall : (backToKw pos (keywordEach kws X.env)).all (·.1.isSome) = true := by rfl) (hks : (backToKw pos (keywordEach kws X.env)).filterMap (·.1) = ks := by rfl)
    (hdb : (x == ("__debug__" : Str)) = false := by decide) (hpl : ((backTo pos (starEach [] X.env)).any (·.1) || (backToKw pos (keywordEach kws X.env)).any (·.1.isNone)) = false := by rfl) :
    PE X (.Call (.Name x p) [] kws pos) (tCallK sp gV E tNil tk) := by
  refine ⟨fun pins s σ H Q I h => ?_⟩
  refine wpAny_Call_Name_kw (ld_glob I hg hm ?_ hdb)
  refine PySem.W.callWith_KW0 (h₀ := X.base) I.ok.mod.kin hk hall ?_ hpl
  refine thn (hkw.run pos pins s σ H _ I h) fun ws s2 ⟨zs, H2, I2, rz, q2⟩ => ⟨I2.kIn, ?_⟩
  rw [hks]
  exact run_fnk F hr hb hx I2 .nil rz q2
/-- the values in their order -/
theorem kbinds_of {fd : FuncData} {ps ks : List Str} {n : Nat} (hb : ∀ (s : Shared) (us ws : List Value), X.K.In s.heap → us.length = n → ws.length = ks.length → BindsTo s fd ⟨us, ks.zip ws⟩ (ps.zip (us ++ ws))) :
    KBinds X.K fd ps ks (fun us ws => if us.length = n ∧ ws.length = ks.length then us ++ ws else List.replicate (ps.length + 1) .none) (fun vs zs => if vs.length = n ∧ zs.length = ks.length then vs ++ zs else List.replicate (ps.length + 1) .non) where
  to := fun s us ws h1 h2 => by
    split at h2
    · rename_i hc
      rw [if_pos hc]
      exact hb s us ws h1 hc.1 hc.2
    · rw [List.length_replicate] at h2; omega
  rel := fun {vs us zs ws} r1 r2 => by
    have e1 := r1.length
    have e2 := r2.length
    rw [← e1, ← e2]
    split
    · exact r1.append r2
    · have : ∀ m : Nat, Vals (List.replicate m V.non) (List.replicate m Value.none) := fun m => by
        induction m with
        | zero => exact .nil
        | succ m ih => exact .cons rfl ih
      exact this _
theorem ce_callK0 {k jj : Nat} {x : Str} {F : Fn} {ks : List Str} {fs : List Ex} {kws : List Keyword} {p pos : Pos} (hf : FdK X.prog X.w X.K X.mg X.base C k x 0 ks F) (hr : Room jj X.A) (hkj : k ≤ jj) (hx : Passes (L2.CX X.prog X.w) X E) (hkw : CK X C E kws (evs fs)) (hl : fs.length = ks.length := by rfl) (hg : Gl X x := by rfl)
    (hall : (backToKw pos (keywordEach kws X.env)).all (·.1.isSome) = true := by rfl) (hks : (backToKw pos (keywordEach kws X.env)).filterMap (·.1) = ks := by rfl)
    (hdb : (x == ("__debug__" : Str)) = false := by decide) (hpl : ((backTo pos (starEach [] X.env)).any (·.1) || (backToKw pos (keywordEach kws X.env)).any (·.1.isNone)) = false := by rfl) : CE X C E (.Call (.Name x p) [] kws pos) (eCall F fs) := by
  obtain ⟨f, fd, ps, F', hm, hk, hb⟩ := hf.ex
  refine PE.imp (pe_callK0 F' (hr.mono hkj) hg hm hk (kbinds_of hb) hx hkw hall hks hdb hpl) fun σ H Q ⟨g, S, t, w, s, p⟩ => ?_
  refine ⟨g, S, t, w, s, (Post.evs p.bnd).imp fun ds t1 g1 H1 st1 w1 ⟨el, q⟩ vs rs => ?_⟩
  have e : ([] : List V).length = 0 ∧ vs.length = ks.length := ⟨rfl, by rw [rs.length, el, hl]⟩
  dsimp only
  rw [if_pos e]
  exact ⟨g1, ds, t1, rs, w1, by rw [List.nil_append, Nat.zero_add]; exact e.2, q⟩
/-- raise x('..') of the class number c -/
theorem cs_raise (c : Nat) {x m : Str} {j : Nat} {p p2 pos pos' : Pos} {B newId initId bmB} {W : WX} (F : ExcBaseFacts B newId initId bmB) (q : PySem.W.excIn X.K (C.ex c) bmB newId = true) (gC : X.mg x = some (.ref (C.ex c))) (kC : PySem.W.keepIn X.K (.ref (C.ex c)) = true) (r : Raises X (.ref (C.ex c)))
    (tk : Takes X (fun cls d _ H => E cls d H)) (hc : X.calm = true := by rfl) (hg : Gl X x := by rfl) (hdb : (x == ("__debug__" : Str)) = false := by decide) : CS X C E (.Raise (some (.Call (.Name x p) [.Constant (.str m) j p2] [] pos)) none pos') (sRaise c) :=
  PS.imp (ps_raise hc tk (pmk_own F q gC kC r hg hdb)) fun De σ H ⟨g0, H0, gs, g, S, t, st, gr, w, s, o, p⟩ => p g H st w
def pRng : D → M D
  | .int j => if 0 ≤ j ∧ j ≤ 1000000 then ret (.lst ((List.range j.toNat).map fun (i : Nat) => .int (i : Int))) else stuck
  | _ => stuck
end
end BG
set_option Elab.async false
set_option linter.all false
set_option maxRecDepth 100000
set_option maxHeartbeats 4000000
namespace BG
open PySem PySem.Spec PyProof.Rows L2
def leD (a b : D) : Bool := PySem.W.dataLe false D.py a b
section
variable {α : Type} (le : α → α → Bool)
def insr (x : α) : List α → List α
  | [] => [x]
  | y :: r => if le x y = true then x :: y :: r else y :: insr x r
def isrt : List α → List α
  | [] => []
  | x :: r => insr le x (isrt r)
theorem insr_mem {x z : α} : ∀ {l : List α}, z ∈ insr le x l ↔ z = x ∨ z ∈ l
  | [] => by simp [insr]
  | y :: r => by
    unfold insr
    split
    · simp
    · rw [List.mem_cons, insr_mem, List.mem_cons]
      constructor
      · rintro (h | h | h)
        · exact .inr (.inl h)
        · exact .inl h
        · exact .inr (.inr h)
      · rintro (h | h | h)
        · exact .inr (.inl h)
        · exact .inl h
        · exact .inr (.inr h)
theorem insr_pair (h : PySem.W.TotalLe le) {x : α} : ∀ {l : List α}, l.Pairwise (fun a b => le a b = true) → (insr le x l).Pairwise (fun a b => le a b = true)
  | [], _ => by simp [insr]
  | y :: r, hp => by
    obtain ⟨h1, h2⟩ := List.pairwise_cons.mp hp
    unfold insr
    split
    · rename_i hxy
      refine List.pairwise_cons.mpr ⟨fun z hz => ?_, hp⟩
      rcases List.mem_cons.mp hz with rfl | hz
      · exact hxy
      · exact h.trans _ _ _ hxy (h1 z hz)
    · rename_i hxy
      refine List.pairwise_cons.mpr ⟨fun z hz => ?_, insr_pair h h2⟩
      rcases (insr_mem le).mp hz with rfl | hz
      · exact (h.total z y).resolve_left hxy
      · exact h1 z hz
theorem insr_filter (h : PySem.W.TotalLe le) {x c : α} : ∀ {l : List α}, l.Pairwise (fun a b => le a b = true) → (insr le x l).filter (PySem.W.sameRank le c) = (x :: l).filter (PySem.W.sameRank le c)
  | [], _ => rfl
  | y :: r, hp => by
    obtain ⟨h1, h2⟩ := List.pairwise_cons.mp hp
    unfold insr
    split
    · rfl
    · rename_i hxy
      have ih := insr_filter h (x := x) (c := c) h2
      rw [List.filter_cons, ih, List.filter_cons, List.filter_cons, List.filter_cons]
      by_cases a : PySem.W.sameRank le c x = true
      · by_cases b : PySem.W.sameRank le c y = true
        · exfalso
          unfold PySem.W.sameRank at a b
          rw [Bool.and_eq_true] at a b
          exact hxy (h.trans _ _ _ a.2 b.1)
        · rw [if_neg b, if_pos a, if_pos a, if_neg b]
      · rw [if_neg a, if_neg a]
theorem isrt_pair (h : PySem.W.TotalLe le) : ∀ l : List α, (isrt le l).Pairwise (fun a b => le a b = true)
  | [] => List.Pairwise.nil
  | x :: r => insr_pair le h (isrt_pair h r)
theorem isrt_filter (h : PySem.W.TotalLe le) (c : α) : ∀ l : List α, (isrt le l).filter (PySem.W.sameRank le c) = l.filter (PySem.W.sameRank le c)
  | [] => rfl
  | x :: r => by
    show (insr le x (isrt le r)).filter _ = _
    rw [insr_filter le h (isrt_pair le h r), List.filter_cons, List.filter_cons, isrt_filter h c r]
theorem isrt_merge (h : PySem.W.TotalLe le) (l : List α) : isrt le l = l.mergeSort le := PySem.W.sort_unique h (isrt_pair le h l) fun c => isrt_filter le h c l
theorem isrt_length : ∀ l : List α, (isrt le l).length = l.length
  | [] => rfl
  | x :: r => by
    have hi : ∀ m : List α, (insr le x m).length = m.length + 1 := fun m => by
      induction m with
      | nil => rfl
      | cons y m ih =>
        unfold insr
        split
        · rfl
        · rw [List.length_cons, ih, List.length_cons]
    show (insr le x (isrt le r)).length = _
    rw [hi, isrt_length r]; rfl
end
/-- may be sorted: data of one make -/
def isTupC : D → Bool
  | .tup (_ :: _) => true
  | _ => false
def isFlatC : D → Bool
  | .tup _ => false
  | .non => false
  | .town => false
  | .scr _ => false
  | .dct _ _ => false
  | _ => true
def srtOk (ds : List D) : Bool := okA ds 60 && (ds.all fun a => ds.all fun b => PySem.W.alike a.py b.py) && (ds.all isTupC || ds.all isFlatC)
theorem leD_total : PySem.W.TotalLe leD := PySem.W.sortLe_total (listOrd itemOrd) false fun b => PySem.W.keyToks (D.py b)
theorem eachIs_of {K : PySem.W.Frag} {g : G} : ∀ {ds : List D} {vs : List V} {us : List Value}, RpA K g vs ds → Vals vs us → PySem.W.EachIs (fun u d => ∃ v, RelV v u ∧ Rp K g v d) us ds
  | [], _, _, h, r => by cases h; cases r; exact .nil
  | d :: ds, _, _, h, r => by
    cases h with
    | cons a b =>
      cases r with
      | cons r1 r2 => exact .cons ⟨_, r1, a⟩ (eachIs_of b r2)
theorem of_eachIs {K : PySem.W.Frag} {g : G} : ∀ {ds : List D} {us : List Value}, PySem.W.EachIs (fun u d => ∃ v, RelV v u ∧ Rp K g v d) us ds → ∃ vs, RpA K g vs ds ∧ Vals vs us
  | [], _, h => by cases h; exact ⟨[], .nil, .nil⟩
  | d :: ds, _, h => by
    cases h with
    | cons a b =>
      obtain ⟨v, r1, r2⟩ := a
      obtain ⟨vs, q1, q2⟩ := of_eachIs b
      exact ⟨v :: vs, .cons r2 q1, .cons r1 q2⟩
section
variable {X : Cx} {C : Cn} {E : XK}
/-- sorted(xs), xs a list of data -/
def rSrt (K : PySem.W.Frag) (C : Cn) : List V → Hp → VK → Prop := fun xs H Q => ∃ p g t vs ds, xs = [.ref p] ∧ Wf C g H t ∧ H p = some (.lst vs) ∧ RpA K g vs ds ∧ srtOk ds = true ∧ ds.length ≤ 1000000 ∧ ∀ ws, RpA K g ws (isrt leD ds) → ∀ l, H l = none → Q (.ref l) (upd H l (.lst ws))
theorem cr_sorted0 (hu : X.A.units + 64 < cLine) : CallR X (.builtin "sorted") (rSrt X.K C) := by
  intro pins s σ H xs us Q I r h
  obtain ⟨p, g, t, vs, ds, rfl, w, hp, ra, ok, hz, q⟩ := h
  obtain ⟨u, rfl, ru⟩ := vals1 r
  cases ru
  obtain ⟨its, rv, pl, hzz⟩ := I.list (.of hp)
  unfold srtOk at ok
  rw [Bool.and_eq_true, Bool.and_eq_true] at ok
  obtain ⟨⟨ok1, ok2⟩, ok3⟩ := ok
  have e := eachIs_of ra rv
  have er : PySem.W.EachIs (fun u d => ∃ as, Reads s.heap u (D.py d) as) its ds := by
    have all : ∀ {ds : List D} {vs : List V} {us : List Value}, RpA X.K g vs ds → Vals vs us → okA ds 60 = true → PySem.W.EachIs (fun u d => ∃ as, Reads s.heap u (D.py d) as) us ds := by
      intro ds
      induction ds with
      | nil => intro vs us h r _; cases h; cases r; exact .nil
      | cons d ds ih =>
        intro vs us h r o
        have o : (okD d 60 && okA ds 60) = true := o
        rw [Bool.and_eq_true] at o
        cases h with
        | cons a b =>
          cases r with
          | cons r1 r2 => exact .cons (Dp.reads I _ _ _ (Rp.dp w a o.1) r1) (ih b r2 o.2)
    exact all ra rv ok1
  refine PySem.W.sorted_data (enc := D.py) pl.isList e er (fun d hd d' hd' => ?_) ?_ (by rw [sizeLine_eq]; omega) (fun d hd => ?_) fun out hlen eo => ?_
  · obtain ⟨a, ha, rfl⟩ := List.mem_map.mp hd
    obtain ⟨b, hb, rfl⟩ := List.mem_map.mp hd'
    exact List.all_eq_true.mp (List.all_eq_true.mp ok2 a ha) b hb
  · rw [Bool.or_eq_true] at ok3
    rcases ok3 with ok3 | ok3
    · refine .inl fun d hd => ?_
      obtain ⟨a, ha, rfl⟩ := List.mem_map.mp hd
      have := List.all_eq_true.mp ok3 a ha
      cases a with
      | tup xs =>
        cases xs with
        | nil => cases this
        | cons x r => exact ⟨x.py, pyA r, by rw [D.py, pyA]⟩
      | _ => cases this
    · refine .inr fun d hd => ?_
      obtain ⟨a, ha, rfl⟩ := List.mem_map.mp hd
      have := List.all_eq_true.mp ok3 a ha
      cases a <;> first | (cases this; done) | (rw [D.py]; exact ⟨(fun z => by cases z), (fun _ z => by cases z)⟩)
  · have hd2 : okD d 60 = true := by
      rw [okA_all] at ok1
      exact List.all_eq_true.mp ok1 d hd
    have := (okD_lay d 60 hd2).2
    omega
  · obtain ⟨c, hc⟩ := sortedAll_at s.heap its out.toArray
    have em : ds.mergeSort (PySem.W.dataLe false D.py) = isrt leD ds := (isrt_merge leD leD_total ds).symm
    rw [em] at eo
    obtain ⟨ws, q1, q2⟩ := of_eachIs eo
    refine ⟨.ref (s.heap.objs.size + 1), _, I.laid (t' := s.toks) (fun b o e => sortedAll_old e) (Nat.le_succ _) (show ObjOk X.prog X.w _ _ _ (.lst ws) from ⟨?_, out, c, q2, hc⟩), rfl, q ws q1 _ (I.hok.fresh (Nat.le_succ _))⟩
    rw [q1.length, isrt_length, sizeLine_eq]
    omega
def ddp : List Int → List Int
  | [] => []
  | x :: r => if r.contains x = true then ddp r else x :: ddp r
theorem ddp_mem {z : Int} : ∀ {l : List Int}, z ∈ ddp l ↔ z ∈ l
  | [] => Iff.rfl
  | x :: r => by
    unfold ddp
    split
    · rename_i h
      have hx : x ∈ r := List.contains_iff_mem.mp h
      rw [ddp_mem, List.mem_cons]
      exact ⟨.inr, fun h => h.elim (fun e => by rw [e]; exact hx) id⟩
    · rw [List.mem_cons, ddp_mem, List.mem_cons]
theorem ddp_nodup : ∀ l : List Int, (ddp l).Nodup
  | [] => List.nodup_nil
  | x :: r => by
    unfold ddp
    split
    · exact ddp_nodup r
    · rename_i h
      exact List.nodup_cons.mpr ⟨fun z => h (List.contains_iff_mem.mpr (ddp_mem.mp z)), ddp_nodup r⟩
theorem nd_le : ∀ {a b : List Int}, a.Nodup → (∀ x ∈ a, x ∈ b) → a.length ≤ b.length
  | [], _, _, _ => Nat.zero_le _
  | x :: r, b, h, hs => by
    obtain ⟨h1, h2⟩ := List.nodup_cons.mp h
    have hx : x ∈ b := hs x (List.mem_cons_self ..)
    have := nd_le (a := r) (b := b.erase x) h2 fun y hy => by
      have hne : y ≠ x := fun e => h1 (by rw [← e]; exact hy)
      exact (List.mem_erase_of_ne hne).mpr (hs y (List.mem_cons_of_mem _ hy))
    rw [List.length_erase_of_mem hx] at this
    have hp : 0 < b.length := List.length_pos_of_mem hx
    rw [List.length_cons]
    omega
def pLenSet : D → M D
  | .tup ds => match intsD ds with
    | some ns => if ns.length < 1000 then ret (.int (ddp ns).length) else stuck
    | none => stuck
  | _ => stuck
theorem ce_lenSet {a : Expr} {fa : Ex} {p p2 q pos : Pos} (hc : X.calm = true) (hm : X.mg "len" = none) (hm2 : X.mg "set" = none) (ha : CW X C E a fa) (hg : Gl X "len" := by rfl) (hg2 : Gl X "set" := by rfl) (na : starEach [a] X.env = (false, eval a X.env) :: starEach [] X.env := by rfl) :
    CE X C E (.Call (.Name "len" p) [.Call (.Name "set" p2) [a] [] q] [] pos) (eUn pLenSet fa) := by
  refine ⟨fun pins s σ H Q I h => ?_⟩
  have h := tW.seq (Q1 := fun x H1 => ∃ g t d, Wf C g H1 t ∧ RpW X.K g H1 x d ∧ PostQ X.K C E g H1 Q (pLenSet d t)) h fun g S t x d H1 w s rx p1 => ⟨g, t, d, w, rx, p1⟩
  refine Call_ (ld_blt I hg hm boot_len ?_)
  refine PyProof.Rows.callWith_builtin1 (PyProof.Rows.args_cons ?_ rfl) rfl rfl
  refine Call_ (ld_blt I hg2 hm2 boot_set ?_)
  refine PyProof.Rows.callWith_type1 (PyProof.Rows.args_cons (thn (ha.run pins s σ H _ I h) fun v s1 ⟨x, H1, I1, r1, q1⟩ => PyProof.Rows.args_nil ?_) na) na rfl
  obtain ⟨g, t, d, w, rx, q1⟩ := q1
  cases d with
  | tup ds =>
    have q1 : PostQ X.K C E g H1 Q ((match intsD ds with | some ns => if ns.length < 1000 then ret (D.int (ddp ns).length) else stuck | none => stuck) t) := q1
    cases z : intsD ds with
    | none => rw [z] at q1; exact q1.elim
    | some ns =>
      rw [z] at q1
      dsimp only at q1
      split at q1
      case isFalse => exact q1.elim
      rename_i hz
      obtain ⟨l, vs, rfl, e1, ra⟩ := rx.tup w
      have ev := ra.intsD z
      subst ev
      cases r1
      obtain ⟨its, r, pl, hzz⟩ := I1.tuple e1
      refine call_set_tupI ns (I1.ok.hd hc) (show s1.heap.IsTuple l its.toArray from pl) (by simpa using intsAre_of r) (by unfold scanBound; omega) fun h' tk c hS hcl hk => ?_
      refine PyProof.Rows.args_nil ?_
      obtain ⟨o, es, ep, t', ho, hex, hd, hgood, hnd, hmem, hsb, hf, hn, _, _⟩ := hS
      have I2 : Inv X pins σ H1 { s1 with heap := h', toks := tk } := I1.kept fun b o e => hk b o e
      have ec : es.size = (ddp ns).length := by
        have h1 : (es.toList.map keyOf).length ≤ (ddp ns).length := nd_le hnd fun x hx => ddp_mem.mpr (of_decide_eq_true ((hmem x).mpr hx))
        have h2 : (ddp ns).length ≤ (es.toList.map keyOf).length := nd_le (ddp_nodup ns) fun x hx => (hmem x).mp (decide_eq_true (ddp_mem.mp hx))
        have e3 : (es.toList.map keyOf).length = es.size := by rw [List.length_map, Array.length_toList]
        omega
      exact call_len_set ho hex hd hf (by unfold scanBound at hsb; omega) ⟨.int (ddp ns).length, H1, I2.tok _, ⟨_, by rw [ec]⟩, pRetV q1 w (Rp.int _)⟩
  | _ => exact q1.elim
end
end BG
set_option Elab.async false
set_option linter.all false
set_option maxRecDepth 100000
set_option maxHeartbeats 4000000
namespace BG
open PySem PySem.Spec PyProof.Rows L2
theorem bt_len : bootBuiltins "len" = some (.builtin "len") := by decide +kernel
theorem bt_all : bootBuiltins "all" = some (.builtin "all") := by decide +kernel
theorem bt_sorted : bootBuiltins "sorted" = some (.builtin "sorted") := by decide +kernel
theorem bt_tuple : bootBuiltins "tuple" = some (.type "tuple") := by decide +kernel
theorem bt_int : bootBuiltins "int" = some (.type "int") := by decide +kernel
theorem bt_bool : bootBuiltins "bool" = some (.type "bool") := by decide +kernel
theorem bt_str : bootBuiltins "str" = some (.type "str") := by decide +kernel
/-- the built-in names are not shadowed -/
structure Bt (mg : Str → Option Value) : Prop where
  len : mg "len" = none
  all : mg "all" = none
  any : mg "any" = none
  sum : mg "sum" = none
  sorted : mg "sorted" = none
  min : mg "min" = none
  max : mg "max" = none
  isinstance : mg "isinstance" = none
  tuple : mg "tuple" = none
  list : mg "list" = none
  int : mg "int" = none
  bool : mg "bool" = none
  str : mg "str" = none
  range : mg "range" = none
  set : mg "set" = none
  enumerate : mg "enumerate" = none
  zip : mg "zip" = none
  dict : mg "dict" = none
  abs : mg "abs" = none
theorem _root_.L2.Room.u65 {k : Nat} {A : Around} (r : Room k A) : A.units + 65 < cLine := by have := r.un; omega
theorem _root_.L2.Room.u1 {k : Nat} {A : Around} (r : Room k A) : A.units + 1 < cLine := by have := r.un; omega
theorem passC {P : Program} {w : World} {K : PySem.W.Frag} {mg : Str → Option Value} {base : Heap} {N : List Str} {qual : Str} {scope : Scope} {f : Addr} {cd : Value} {A : Around} {outer : List Env} {s : Shared} {H : Hp} {E : XK} :
    Passes (L2.CX P w) (cxOf (L2.CX P w) P w K mg base N qual scope f cd A outer s H E) E := passes_call (W := fun cls d _ H => E cls d H) (takes_of rfl rfl rfl rfl) fun _ _ _ _ h => h
theorem Fd.of {P : Program} {w : World} {K : PySem.W.Frag} {mg : Str → Option Value} {base : Heap} {C : Cn} {k : Nat} {x : Str} {F : Fn} {f : Addr} {fd : FuncData} {ps : List Str} (h : FnOk P w K mg base (L2.CX P w) k f fd ps (spF K C ps.length F)) (hm : mg x = some (.ref f)) (hk : PySem.W.keepIn K (.ref f) = true) (hb : Binds K fd ps []) :
    Fd P w K mg base C k x ps.length F := ⟨f, fd, ps, h, hm, hk, hb⟩
theorem _root_.L2.Fun.kb {K : PySem.W.Frag} {x qual : Str} {st : Stmt} {f : Addr} {fd : FuncData} {ps ks : List Str} {n : Nat} (F : Fun K x qual st f fd)
    (h : ∀ (kV doc pm : Value) (an : Option Addr) (cdv ct : Value) (us ws : List Value), us.length = n → ws.length = ks.length → bindArgs (PySem.W.fnOf x qual (defArgs st) (defBody st) (defScope st) .none kV doc pm an cdv ct) ⟨us, ks.zip ws⟩ = pure (ps.zip (us ++ ws))) :
    ∀ (s : Shared) (us ws : List Value), K.In s.heap → us.length = n → ws.length = ks.length → BindsTo s fd ⟨us, ks.zip ws⟩ (ps.zip (us ++ ws)) := by
  obtain ⟨oc, od, kV, doc, pm, an, cdv, ct, osl, rfl, lk, hcd⟩ := F.ex
  exact fun s us ws _ h1 h2 => .of_eq (h kV doc pm an cdv ct us ws h1 h2)
theorem FdK.of {P : Program} {w : World} {K : PySem.W.Frag} {mg : Str → Option Value} {base : Heap} {C : Cn} {k n : Nat} {x : Str} {F : Fn} {f : Addr} {fd : FuncData} {ps ks : List Str} (h : FnOk P w K mg base (L2.CX P w) k f fd ps (spF K C ps.length F)) (hm : mg x = some (.ref f)) (hk : PySem.W.keepIn K (.ref f) = true) (hl : ps.length = n + ks.length)
    (hb : ∀ (s : Shared) (us ws : List Value), K.In s.heap → us.length = n → ws.length = ks.length → BindsTo s fd ⟨us, ks.zip ws⟩ (ps.zip (us ++ ws))) : FdK P w K mg base C k x n ks F := ⟨f, fd, ps, by rw [← hl]; exact h, hm, hk, hb⟩
/-- the heap without the tables of code objects -/
def untb (H : Hp) : Hp := fun b => match H b with
  | some (.tbl _) => none
  | o => o
theorem untb_same (H : Hp) : Same (untb H) H := fun b o e => by
  unfold untb at e
  split at e
  · cases e
  · exact e
theorem untb_of {H : Hp} {b : Addr} {o : HO} (e : H b = some o) (n : ∀ ps, o ≠ .tbl ps) : untb H b = some o := by
  unfold untb
  split
  · rename_i ps h; rw [e] at h; exact absurd (Option.some.inj h) (n ps)
  · exact e
theorem untb_nft (H : Hp) : ∀ b ps, untb H b ≠ some (.tbl ps) := fun b ps e => by
  unfold untb at e
  split at e
  · cases e
  · rename_i h; exact h ps e
theorem untb_seq {K : PySem.W.Frag} {H : Hp} {a : Addr} {xs : List V} (h : SqL K H a xs) : SqL K (untb H) a xs := by
  rcases h with (h | ⟨o, h⟩) | h
  · exact .inl (.inl (untb_of h (fun _ z => by cases z)))
  · exact .inl (.inr ⟨o, untb_of h (fun _ z => by cases z)⟩)
  · exact .inr h
theorem law_start {K : PySem.W.Frag} {C : Cn} {F : Fn} {a : Addr} {ns : List Int} {H : Hp} {Q : VK} {E : XK} (hT : LamX.Tabs C.T H) (sq : SqL K H a (ns.map V.int)) (h : ∃ t', F [.scr ns] none = some (.ok (.bl true) t')) (q : ∀ H', Q (.bl true) H') : spF K C 1 F [.ref a] H Q E := by
  obtain ⟨t', e⟩ := h
  refine ⟨⟨untb H, none⟩, [.scr ns], none, .cons (.scr (untb_seq sq)) .nil, ⟨untb_same H, rfl, fun b ⟨p, hp, _⟩ => (by cases hp), hT, untb_nft H⟩, rfl, ?_⟩
  rw [e]
  intro g' H' _ _ v r
  cases r
  exact q H'
theorem cx_no {P : Program} {w : World} {l : List Env} {H : Hp} {s : Shared} {e : Value} {s' : Shared} (h : L2.CX P w l H s (fun _ _ _ => False) e s') : False := by
  obtain ⟨_, _, _, _, _, _, _, _, _, _, _, _, z⟩ := h
  exact z
end BG
set_option Elab.async false
set_option linter.all false
set_option maxRecDepth 100000
set_option maxHeartbeats 4000000
namespace BG
open PySem PySem.Spec PyProof.Rows L2
section
variable {prog : Program} {w : World} {A : Around} {E : Value → Shared → Prop} {s : Shared}
theorem adj_rev (n : Nat) : Builtin.Slice.sliceAdjust none none (-1) (n : Int) = ((n : Int) - 1, -1) := by
  unfold Builtin.Slice.sliceAdjust
  simp
theorem pl_rev (n : Nat) : Builtin.Slice.slicePlaces ((n : Int) - 1) (-1) (-1) = n := by
  unfold Builtin.Slice.slicePlaces
  simp
  omega
theorem sl_rev {sl : Addr} {t : Tok} {n : Nat} {Q : Int × Int × Nat → Shared → Prop} (hs : s.heap.IsSliceOf sl .none .none (.int (-1) t)) (h : Q ((n : Int) - 1, -1, n) s) : wpAny (model prog w) A (Builtin.Slice.sliceApplied (.ref sl) (pure (n : Int))) Q E s := by
  obtain ⟨o1, g1, c1, d1⟩ := id hs
  unfold Builtin.Slice.sliceApplied Builtin.Slice.sliceFields
  refine wpAny_bind (wpAny_bind (wpAny_field g1 d1 (x := .none) rfl (wpAny_bind (wpAny_field g1 d1 (x := .none) rfl (wpAny_bind (wpAny_field g1 d1 (x := .int (-1) t) rfl (wpAny_pure ?_)))))))
  refine wpAny_bind (HT.slicePart_ (.int (-1) t) ?_)
  show wpAny _ _ (if ((-1 : Int) == 0) = true then _ else _) _ _ s
  rw [if_neg (by decide)]
  refine wpAny_bind (HT.slicePart_ .none (wpAny_bind (HT.slicePart_ .none (wpAny_bind (wpAny_pure ?_)))))
  show wpAny _ _ (match Builtin.Slice.sliceAdjust none none (-1) (n : Int) with | (lo, hi) => pure (lo, (-1 : Int), Builtin.Slice.slicePlaces lo hi (-1))) _ _ s
  rw [adj_rev]
  show wpAny _ _ (pure ((n : Int) - 1, (-1 : Int), Builtin.Slice.slicePlaces ((n : Int) - 1) (-1) (-1))) _ _ s
  rw [pl_rev]; exact wpAny_pure h
theorem pick_rev (xs : Array Value) : ((List.range xs.size).filterMap fun (m : Nat) => xs[((xs.size : Int) - 1 + (m : Int) * (-1)).toNat]?).toArray = xs.toList.reverse.toArray := by
  congr 1
  apply List.ext_getElem?
  intro i
  have key : ∀ k, k ≤ xs.size → ((List.range k).filterMap fun (m : Nat) => xs[((xs.size : Int) - 1 + (m : Int) * (-1)).toNat]?) = (List.range k).map fun m => xs.toList.getD (xs.size - 1 - m) .none := by
    intro k hk
    induction k with
    | zero => rfl
    | succ k ih =>
      rw [List.range_succ, List.filterMap_append, List.map_append, ih (by omega)]
      congr 1
      have e : ((xs.size : Int) - 1 + (k : Int) * (-1)).toNat = xs.size - 1 - k := by omega
      rw [List.filterMap_cons, e]
      have hlt : xs.size - 1 - k < xs.size := by omega
      rw [Array.getElem?_eq_getElem hlt]
      rw [List.map_cons, List.getD_eq_getElem?_getD, Array.getElem?_toList, Array.getElem?_eq_getElem hlt]
      rfl
  rw [key xs.size (Nat.le_refl _), List.getElem?_map]
  by_cases hi : i < xs.size
  · rw [List.getElem?_range hi, List.getElem?_reverse (by rw [Array.length_toList]; exact hi), Array.length_toList]
    show some (xs.toList.getD _ _) = _
    have hlt : xs.size - 1 - i < xs.toList.length := by rw [Array.length_toList]; omega
    rw [List.getD_eq_getElem?_getD, List.getElem?_eq_getElem hlt]; rfl
  · rw [List.getElem?_eq_none (by rw [List.length_range]; omega), List.getElem?_eq_none (by rw [List.length_reverse, Array.length_toList]; omega)]; rfl
theorem getItem_rev {t sl : Addr} {items : Array Value} {tk : Tok} {Q : Value → Shared → Prop} (ht : IsTup s.heap t items) (hs : s.heap.IsSliceOf sl .none .none (.int (-1) tk)) (h : Q (.ref s.heap.objs.size) { s with heap := s.heap.push { cls := .type "tuple", data := .seq items.toList.reverse.toArray } })
    (hsz : items.size ≤ sizeLine) : wpAny (model prog w) A (getItem (.ref t) (.ref sl)) Q E s := by
  have hok : sizeOk (.seq items.toList.reverse.toArray) := by
    show items.toList.reverse.toArray.size ≤ sizeLine
    rw [List.size_toArray, List.length_reverse, Array.length_toList]; exact hsz
  obtain ⟨o1, g1, c1, d1⟩ := id hs
  have hT2 : s.TypeIs (.ref sl) "slice" := ⟨o1, g1, c1⟩
  unfold getItem
  try with_reducible refine wpAny_holding ?_
  first | refine wpAny_bind (wpAny_pure ?_) | skip
  refine wpAny_bind (wpAny_sequenceKey (ht.typeIs) (by decide) ?_)
  refine wpAny_bind (wpAny_callSpecial?_slot (name := Str.ofString "__getitem__") (ht.typeIs) PyProof.Rows.slot_tuple_getitem (wpAny_call_entry PyProof.Rows.slot_tuple_getitem (ht.typeIs) entry_tuple_getitem ?_ (args_tuple_getitem _ _)))
  show wpAny _ _ (Builtin.Tuple.tupleItemsOf (.ref t) >>= _) _ E s
  refine wpAny_bind (tupleItemsOf_ ht (wpAny_bind (wpAny_typeOf hT2 ?_)))
  rw [if_pos (by decide)]
  refine wpAny_bind (sl_rev hs ?_)
  have hno : ¬ ((((items.size : Int) - 1) == 0 && (-1 : Int) == 1 && items.size == items.size) = true) := by simp
  show wpAny _ _ (if (((items.size : Int) - 1) == 0 && (-1 : Int) == 1 && items.size == items.size) = true then _ else _) _ _ s
  rw [if_neg hno, pick_rev]
  first
    | exact wpAny_bind (m := Builtin.Tuple.tupleExact _) (wpAny_newObj_type (wpAny_pure ⟨_, rfl, wpAny_pure h⟩) hok)
    | exact wpAny_bind (m := Builtin.Tuple.tupleExact _) (wpAny_newObj_type (wpAny_bind (wpAny_pure (wpAny_pure ⟨_, rfl, wpAny_pure h⟩))) hok)
    | exact wpAny_bind (wpAny_bind (m := Builtin.Tuple.tupleExact _) (wpAny_newObj_type (wpAny_pure (wpAny_pure ⟨_, rfl, wpAny_pure h⟩)) hok))
    | exact wpAny_bind (wpAny_bind (m := Builtin.Tuple.tupleExact _) (wpAny_newObj_type (wpAny_pure ⟨_, rfl, wpAny_pure h⟩) hok))
end
section
variable {X : Cx} {C : Cn} {E : XK}
def rRev (K : PySem.W.Frag) : V → Hp → VK → Prop := fun x H Q => ∃ a xs, x = .ref a ∧ SqT K H a xs ∧ ∀ p, H p = none → Q (.ref p) (upd H p (.tup xs.reverse))
theorem vals_rev : ∀ {xs : List V} {us : List Value}, Vals xs us → Vals xs.reverse us.reverse
  | [], _, h => by cases h; exact .nil
  | x :: xs, _, h => by
    cases h with
    | cons a b =>
      rw [List.reverse_cons, List.reverse_cons]
      exact (vals_rev b).append (.cons a .nil)
theorem pe_rev {e : Expr} {te : TE} {j : Nat} {p1 p3 p2 pos : Pos} (he : PE X e te) : PE X (.Subscript e (.Slice none none (some (.UnaryOp .USub (.Constant (.int 1) j p1) p3)) p2) pos) (fun σ H Q => te σ H fun x H1 => rRev X.K x H1 Q) := by
  refine ⟨fun pins s σ H Q I h => ?_⟩
  refine Subscript_ (thn (he.run pins s σ H _ I h) fun v s1 ⟨x, H1, I1, r1, q1⟩ => ?_)
  refine wpAny_Slice ?_
  rw [evalPart_none]
  refine wpAny_pure (wpAny_pure ?_)
  have hst := (po_some (pe_un (pos := p3) un_neg (pe_int (X := X) (i := 1) (j := j) (pos := p1)))).run pins s1 σ H1 (fun o H' => o = some (-1) ∧ H' = H1) I1 ⟨1, rfl, -1, rfl, rfl, rfl⟩
  refine thn hst fun vt s3 ⟨o, H3, I3, pt, e1, e2⟩ => ?_
  subst e1 e2
  obtain ⟨a, xs, rfl, hx, q⟩ := q1
  cases pt with
  | int i tk =>
    have I4 : Inv X pins σ H3 { s3 with heap := s3.heap.push { cls := .type "slice", data := .fields #[.none, .none, .int (-1) tk] } } := I3.kept (t' := s3.toks) fun b ob q => Heap.get?_push_of_some _ q
    cases r1
    obtain ⟨its, r, ht, hz⟩ := I4.tuple hx
    refine tail_any (ops := [.ref a, .ref s3.heap.objs.size]) ht.typeIs PyProof.Rows.slot_tuple_getitem.lookup ?_ (by with_unfolding_all rfl)
    refine getItem_rev ht (Heap.IsSliceOf.new ..) ?_ (by rw [List.size_toArray, ← r.length]; exact hz)
    refine ⟨.ref _, _, I4.laid (t' := s3.toks) (o := .tup xs.reverse) (fun b ob q => Heap.get?_push_of_some _ q) (Nat.le_refl _) ?_, rfl, q _ (I4.hok.fresh (Nat.le_refl _))⟩
    refine ⟨by rw [List.length_reverse]; exact hz, _, vals_rev r, IsTup.new _ _⟩
def pRev : D → M D
  | .tup ds => ret (.tup ds.reverse)
  | _ => stuck
theorem ce_rev {a : Expr} {fa : Ex} {j : Nat} {p1 p3 p2 pos : Pos} (ha : CW X C E a fa) : CE X C E (.Subscript a (.Slice none none (some (.UnaryOp .USub (.Constant (.int 1) j p1) p3)) p2) pos) (eUn pRev fa) := by
  refine PE.imp (pe_rev ha) fun σ H Q h => ?_
  refine tW.seq h fun g S t x d H1 w s rx p1 => ?_
  cases d with
  | tup ds =>
    obtain ⟨b, vs, rfl, e1, r1⟩ := rx.tup w
    exact ⟨b, vs, rfl, e1, fun p hp => pRetT p1 w r1.rev p hp⟩
  | _ => exact p1.elim
end
end BG
set_option Elab.async false
set_option linter.all false
set_option maxRecDepth 100000
set_option maxHeartbeats 4000000
namespace BG
open PySem PySem.Spec PyProof.Rows L2
section
variable {X : Cx} {C : Cn} {E : XK}
/-- what the data promise to the sort -/
theorem reads_all {g : G} {t : Tn} {H : Hp} {s : Shared} {pins : List (Addr × Obj)} {σ : L2.St} (I : L2.Inv X pins σ H s) (w : Wf C g H t) : ∀ {ds : List D} {vs : List V} {us : List Value}, RpA X.K g vs ds → Vals vs us → okA ds 60 = true → PySem.W.EachIs (fun u d => ∃ as, Reads s.heap u (D.py d) as) us ds
  | [], _, _, h, r, _ => by cases h; cases r; exact .nil
  | d :: ds, _, _, h, r, o => by
    have o : (okD d 60 && okA ds 60) = true := o
    rw [Bool.and_eq_true] at o
    cases h with
    | cons a b =>
      cases r with
      | cons r1 r2 => exact .cons (Dp.reads I _ _ _ (Rp.dp w a o.1) r1) (reads_all I w b r2 o.2)
theorem srt_alike {ds : List D} (ok : srtOk ds = true) : PySem.W.AllAlike (ds.map D.py) ∧ PySem.W.Sortable (ds.map D.py) ∧ okA ds 60 = true := by
  unfold srtOk at ok
  rw [Bool.and_eq_true, Bool.and_eq_true] at ok
  obtain ⟨⟨ok1, ok2⟩, ok3⟩ := ok
  refine ⟨fun d hd d' hd' => ?_, ?_, ok1⟩
  · obtain ⟨a, ha, rfl⟩ := List.mem_map.mp hd
    obtain ⟨b, hb, rfl⟩ := List.mem_map.mp hd'
    exact List.all_eq_true.mp (List.all_eq_true.mp ok2 a ha) b hb
  · rw [Bool.or_eq_true] at ok3
    rcases ok3 with ok3 | ok3
    · refine .inl fun d hd => ?_
      obtain ⟨a, ha, rfl⟩ := List.mem_map.mp hd
      have := List.all_eq_true.mp ok3 a ha
      cases a with
      | tup xs =>
        cases xs with
        | nil => cases this
        | cons x r => exact ⟨x.py, pyA r, by rw [D.py, pyA]⟩
      | _ => cases this
    · refine .inr fun d hd => ?_
      obtain ⟨a, ha, rfl⟩ := List.mem_map.mp hd
      have := List.all_eq_true.mp ok3 a ha
      cases a <;> first | (cases this; done) | (rw [D.py]; exact ⟨(fun z => by cases z), (fun _ z => by cases z)⟩)
def rSrtT (K : PySem.W.Frag) (C : Cn) : List V → Hp → VK → Prop := fun xs H Q => ∃ p g t vs ds, xs = [.ref p] ∧ Wf C g H t ∧ SqT K H p vs ∧ RpA K g vs ds ∧ srtOk ds = true ∧ ds.length ≤ 1000000 ∧ ∀ ws, RpA K g ws (isrt leD ds) → ∀ l, H l = none → Q (.ref l) (upd H l (.lst ws))
theorem cr_sortedT (hu : X.A.units + 64 < cLine) : CallR X (.builtin "sorted") (rSrtT X.K C) := by
  intro pins s σ H xs us Q I r h
  obtain ⟨p, g, t, vs, ds, rfl, w, hp, ra, ok, hz, q⟩ := h
  obtain ⟨u, rfl, ru⟩ := vals1 r
  cases ru
  obtain ⟨its, rv, pl, hzz⟩ := I.tuple hp
  have hlen : its.length = ds.length := by rw [← rv.length, ra.length]
  obtain ⟨hal, hso, ok1⟩ := srt_alike ok
  have e := eachIs_of ra rv
  obtain ⟨o1, g1, c1, n1, d1⟩ := pl
  refine Calls.call_function_entry PyProof.Rows.kind_sorted PyProof.Rows.plain_sorted PyProof.Rows.entry_sorted (PyProof.Rows.args_sorted1 _) ?_
  unfold Builtin.«sorted»
  refine wpAny_bind (m := checkCount "sorted" 1 1 _) (wpAny_pure ?_)
  refine wpAny_bind (wpAny_collect_seq p (.inr rfl) g1 c1 d1 (fun h' hk => ?_) (by rw [List.size_toArray, hlen, sizeLine_eq]; omega))
  have I1 : L2.Inv X pins σ H { s with heap := h' } := I.kept (t' := s.toks) hk
  rw [List.toList_toArray]
  refine wpAny_bind (wpAny_newList ?_ (by rw [hlen, sizeLine_eq]; omega))
  have hoL : (h'.push (seqObj "list" its.toArray 0)).get? h'.objs.size = some (seqObj "list" its.toArray 0) := Heap.get?_push_size _ rfl
  show wpAny _ _ _ _ _ { s with heap := h'.push (seqObj "list" its.toArray 0) }
  have er : PySem.W.EachIs (fun u d => ∃ as, Reads (PySem.W.sortingHeap (h'.push (seqObj "list" its.toArray 0)) h'.objs.size its) u (D.py d) as) its ds := (reads_all I w ra rv ok1).mono fun _ _ ⟨as, r⟩ => ⟨as, PyProof.Rows.Reads.keeps (fun b o q => PySem.W.sortingHeap_old (Nat.ne_of_lt (Heap.lt_size (hk b o q))) (Heap.get?_push_of_some _ (hk b o q))) r⟩
  have hdep : ∀ d, d ∈ ds.map D.py → X.A.in1.in1.units + d.depth < cLine := fun d hd => by
    obtain ⟨d', hd', rfl⟩ := List.mem_map.mp hd
    have h2 : okD d' 60 = true := by
      rw [okA_all] at ok1
      exact List.all_eq_true.mp ok1 d' hd'
    have h3 := (okD_lay d' 60 h2).2
    show X.A.units + 1 + 1 + _ < _
    omega
  have em : ds.mergeSort (PySem.W.dataLe false D.py) = isrt leD ds := (isrt_merge leD leD_total ds).symm
  have eo := PySem.W.sortVals_data (h' := PySem.W.sortingHeap (h'.push (seqObj "list" its.toArray 0)) h'.objs.size its) (enc := D.py) false e er hal
  rw [em] at eo
  have lo : (PySem.W.sortVals (PySem.W.dataKind (PySem.W.sortingHeap (h'.push (seqObj "list" its.toArray 0)) h'.objs.size its) (ds.map D.py)) false its its).length = its.length := PySem.W.sortVals_length false rfl
  generalize hO : PySem.W.sortVals (PySem.W.dataKind (PySem.W.sortingHeap (h'.push (seqObj "list" its.toArray 0)) h'.objs.size its) (ds.map D.py)) false its its = out at eo lo
  refine wpAny_bind (wpAny_holding (wpAny_call_entry PyProof.Rows.slot_list_sort ⟨_, hoL, rfl⟩ PyProof.Rows.entry_list_sort ?_ (PyProof.Rows.args_list_sort _)))
  refine PySem.W.list_sort_vals (s := { s with heap := h'.push (seqObj "list" its.toArray 0) }) hoL (PySem.W.SortsAt.data (s := { s with heap := PySem.W.sortingHeap (h'.push (seqObj "list" its.toArray 0)) h'.objs.size its }) (PySem.W.each_map (R := fun v d => ∃ as, Reads (PySem.W.sortingHeap (h'.push (seqObj "list" its.toArray 0)) h'.objs.size its) v d as) D.py er) hal hso hdep) (by rw [hlen, sizeLine_eq]; omega) ⟨_, rfl, ?_⟩
  rw [hO]
  obtain ⟨e', he'⟩ := PyProof.Rows.sortedHeap_at (vs := its) (out := out.toArray) hoL
  obtain ⟨ws, q1, q2⟩ := of_eachIs eo
  refine wpAny_pure ⟨_, rfl, .ref h'.objs.size, upd H h'.objs.size (.lst ws), I1.laid (t' := s.toks) (fun b u e => ?_) (Nat.le_refl _) (show ObjOk X.prog X.w _ _ _ (.lst ws) from ⟨by rw [q1.length, isrt_length, sizeLine_eq]; omega, out, e', q2, he'⟩), rfl, q ws q1 _ (I1.hok.fresh (Nat.le_refl _))⟩
  have hb : b < h'.objs.size := Heap.lt_size e
  rw [PyProof.Rows.sortedHeap_old (Nat.ne_of_lt hb) (by rw [size_push']; exact Nat.lt_succ_of_lt hb)]
  exact Heap.get?_push_of_some _ e
/-- sorted of a list or of a tuple -/
def bSortedA : D → M D
  | .lst ds => if srtOk ds = true ∧ ds.length ≤ 1000000 then ret (.lst (isrt leD ds)) else stuck
  | .tup ds => if srtOk ds = true ∧ ds.length ≤ 1000000 then ret (.lst (isrt leD ds)) else stuck
  | _ => stuck
theorem cr_sortedA (hu : X.A.units + 64 < cLine) : CallR X (.builtin "sorted") (c1D X.K C E bSortedA) := CallR.imp (CallR.or (cr_sorted0 (C := C) hu) (cr_sortedT (C := C) hu)) fun xs H Q ⟨x, g, t, d, ex, w, a, h⟩ => by
  subst ex
  cases d with
  | lst ds =>
    have h : PostQ X.K C E g H Q ((if srtOk ds = true ∧ ds.length ≤ 1000000 then ret (.lst (isrt leD ds)) else stuck) t) := h
    split at h
    · rename_i hc
      obtain ⟨p, vs, rfl, e1, r1⟩ := a.lst w
      exact .inl ⟨p, g, t, vs, ds, rfl, w, e1, r1, hc.1, hc.2, fun ws rw' l hl => pRetL h w rw' l hl⟩
    · exact h.elim
  | tup ds =>
    have h : PostQ X.K C E g H Q ((if srtOk ds = true ∧ ds.length ≤ 1000000 then ret (.lst (isrt leD ds)) else stuck) t) := h
    split at h
    · rename_i hc
      obtain ⟨p, vs, rfl, e1, r1⟩ := a.tup w
      exact .inr ⟨p, g, t, vs, ds, rfl, w, e1, r1, hc.1, hc.2, fun ws rw' l hl => pRetL h w rw' l hl⟩
    · exact h.elim
  | _ => exact h.elim
end
end BG
set_option Elab.async false
set_option linter.all false
set_option maxRecDepth 100000
set_option maxHeartbeats 4000000
namespace BG
open PySem PySem.Spec PyProof.Rows L2
def dLook (ks : List (Key × D)) (k : Key) : Option D := (ks.find? fun p => decide (p.1 = k)).map (·.2)
def dPut (ks : List (Key × D)) (k : Key) (d : D) : List (Key × D) := if (ks.any fun p => decide (p.1 = k)) = true then ks.map (fun p => if p.1 = k then (p.1, d) else p) else ks ++ [(k, d)]
def dMerge (ks more : List (Key × D)) : List (Key × D) := more.foldl (fun acc p => dPut acc p.1 p.2) ks
theorem dPut_len (ks : List (Key × D)) (k : Key) (d : D) : (dPut ks k d).length ≤ ks.length + 1 := by
  unfold dPut
  split
  · rw [List.length_map]; omega
  · rw [List.length_append]; exact Nat.le_refl _
theorem dMerge_len : ∀ (more ks : List (Key × D)), (dMerge ks more).length ≤ ks.length + more.length
  | [], ks => by show ks.length ≤ ks.length + 0; omega
  | p :: r, ks => by
    have h1 := dMerge_len r (dPut ks p.1 p.2)
    have h2 := dPut_len ks p.1 p.2
    show (dMerge (dPut ks p.1 p.2) r).length ≤ _
    rw [List.length_cons]; omega
def keyD : D → Option Key
  | .int i => some (.inl i)
  | .str x => some (.inr x)
  | _ => none
def kD : Key → D
  | .inl i => .int i
  | .inr x => .str x
section
variable {K : PySem.W.Frag} {g : G}
theorem RpK.nil : RpK K g [] [] := ⟨rfl, .nil⟩
theorem RpK.cons {k : Key} {v : V} {d : D} {vs : List (Key × V)} {ks : List (Key × D)} (h : Rp K g v d) (r : RpK K g vs ks) : RpK K g ((k, v) :: vs) ((k, d) :: ks) := ⟨by rw [List.map_cons, List.map_cons, r.1], .cons h r.2⟩
theorem RpK.inv {vs : List (Key × V)} {k : Key} {d : D} {ks : List (Key × D)} (r : RpK K g vs ((k, d) :: ks)) : ∃ v ws, vs = (k, v) :: ws ∧ Rp K g v d ∧ RpK K g ws ks := by
  obtain ⟨h1, h2⟩ := r
  cases vs with
  | nil => cases h1
  | cons p ws =>
    obtain ⟨k', v⟩ := p
    injection h1 with e1 e2
    simp only at e1
    subst e1
    cases h2 with
    | cons a b => exact ⟨v, ws, rfl, a, e2, b⟩
theorem RpK.length {vs : List (Key × V)} {ks : List (Key × D)} (r : RpK K g vs ks) : vs.length = ks.length := by have := congrArg List.length r.1; rw [List.length_map, List.length_map] at this; exact this
theorem RpK.look : ∀ {ks : List (Key × D)} {vs : List (Key × V)} (k : Key), RpK K g vs ks → (dLook ks k = none → valV vs k = none) ∧ ∀ d, dLook ks k = some d → ∃ v, valV vs k = some v ∧ Rp K g v d
  | [], vs, k, r => by
    have : vs = [] := List.eq_nil_of_length_eq_zero r.length
    subst this
    exact ⟨fun _ => rfl, fun d e => (by cases e)⟩
  | (k', d') :: ks, vs, k, r => by
    obtain ⟨v, ws, rfl, rv, rr⟩ := r.inv
    by_cases h : k' = k
    · subst h
      have e : dLook ((k', d') :: ks) k' = some d' := by unfold dLook; rw [List.find?_cons]; simp
      rw [e]
      refine ⟨fun z => (by cases z), fun d z => ?_⟩
      cases z
      exact ⟨v, valV_pos rfl, rv⟩
    · have e : dLook ((k', d') :: ks) k = dLook ks k := by unfold dLook; rw [List.find?_cons]; simp [h]
      rw [e, valV_neg h]
      exact RpK.look k rr
theorem RpK.map {k : Key} {v : V} {d : D} (h : Rp K g v d) : ∀ {ks : List (Key × D)} {vs : List (Key × V)}, RpK K g vs ks → RpK K g (vs.map fun p => if p.1 = k then (p.1, v) else p) (ks.map fun p => if p.1 = k then (p.1, d) else p)
  | [], vs, r => by
    have : vs = [] := List.eq_nil_of_length_eq_zero r.length
    subst this; exact .nil
  | (k', d') :: ks, vs, r => by
    obtain ⟨v', ws, rfl, rv, rr⟩ := r.inv
    rw [List.map_cons, List.map_cons]
    by_cases hk : k' = k
    · rw [if_pos hk, if_pos hk]; exact .cons h (RpK.map h rr)
    · rw [if_neg hk, if_neg hk]; exact .cons rv (RpK.map h rr)
theorem RpK.app : ∀ {ks : List (Key × D)} {vs : List (Key × V)} {ks2 : List (Key × D)} {vs2 : List (Key × V)}, RpK K g vs ks → RpK K g vs2 ks2 → RpK K g (vs ++ vs2) (ks ++ ks2) := fun r q => ⟨by rw [List.map_append, List.map_append, r.1, q.1], by rw [List.map_append, List.map_append]; exact r.2.app q.2⟩
theorem RpK.any {ks : List (Key × D)} {vs : List (Key × V)} (k : Key) (r : RpK K g vs ks) : (vs.any fun p => decide (p.1 = k)) = ks.any fun p => decide (p.1 = k) := by
  have e1 : ∀ l : List (Key × V), (l.any fun p => decide (p.1 = k)) = (l.map (·.1)).any fun x => decide (x = k) := fun l => by rw [List.any_map]; rfl
  have e2 : ∀ l : List (Key × D), (l.any fun p => decide (p.1 = k)) = (l.map (·.1)).any fun x => decide (x = k) := fun l => by rw [List.any_map]; rfl
  rw [e1, e2, r.1]
theorem RpK.put {ks : List (Key × D)} {vs : List (Key × V)} {k : Key} {v : V} {d : D} (r : RpK K g vs ks) (h : Rp K g v d) : RpK K g (putK vs k v) (dPut ks k d) := by
  unfold putK dPut
  rw [r.any k]
  split
  · exact RpK.map h r
  · exact r.app (.cons h .nil)
theorem RpK.merge : ∀ {more : List (Key × D)} {mv : List (Key × V)} {ks : List (Key × D)} {vs : List (Key × V)}, RpK K g mv more → RpK K g vs ks → RpK K g (mergeK vs mv) (dMerge ks more)
  | [], mv, ks, vs, r, q => by
    have : mv = [] := List.eq_nil_of_length_eq_zero r.length
    subst this; exact q
  | (k, d) :: more, mv, ks, vs, r, q => by
    obtain ⟨v, ws, rfl, rv, rr⟩ := r.inv
    exact RpK.merge (ks := dPut ks k d) (vs := putK vs k v) rr (q.put rv)
theorem Rp.key {v : V} {d : D} {k : Key} (r : Rp K g v d) (h : keyD d = some k) : v = kV k := by
  cases d with
  | int i => cases h; cases r; rfl
  | str x => cases h; cases r; rfl
  | _ => cases h
end
/-- the values of a display, with their keys -/
def evsK : List (Str × Ex) → Sl → M (List (Key × D))
  | [], _ => ret []
  | (x, f) :: fs, S => bnd (f S) fun d => bnd (evsK fs S) fun ds => ret ((.inr x, d) :: ds)
theorem evsK_length : ∀ {fs : List (Str × Ex)} {S : Sl} {t t' : Tn} {ds : List (Key × D)}, evsK fs S t = some (.ok ds t') → ds.length = fs.length
  | [], _, _, _, ds, h => by
    have h : some (Out.ok ([] : List (Key × D)) _) = some (Out.ok ds _) := h
    cases h; rfl
  | (x, f) :: fs, S, t, t', ds, h => by
    have h : bnd (f S) (fun d => bnd (evsK fs S) fun ds => ret ((Sum.inr x, d) :: ds)) t = some (.ok ds t') := h
    cases e1 : f S t with
    | none => unfold bnd at h; rw [e1] at h; cases h
    | some o =>
      cases o with
      | exc c t1 => rw [bnd_exc e1] at h; cases h
      | ok d t1 =>
        rw [bnd_ok e1] at h
        cases e2 : evsK fs S t1 with
        | none => unfold bnd at h; rw [e2] at h; cases h
        | some o =>
          cases o with
          | exc c t2 => rw [bnd_exc e2] at h; cases h
          | ok ds' t2 =>
            rw [bnd_ok e2] at h
            have h : some (Out.ok ((Sum.inr x, d) :: ds') t2) = some (Out.ok ds t') := h
            cases h
            rw [List.length_cons, List.length_cons, evsK_length e2]
theorem Post.all {α : Type} {C : Cn} {E : XK} {g g1 : G} {H H1 : Hp} {Rok Rok' : α → Tn → G → Hp → Prop} {r : Option (Out α)} (h : Post C E g H Rok r) (s : Stp g H g1 H1) (f : ∀ a t' g' H', r = some (.ok a t') → Stp g1 H1 g' H' → Wf C g' H' t' → (∀ g2 H2, Stp g H g2 H2 → Wf C g2 H2 t' → Rok a t' g2 H2) → Rok' a t' g' H') : Post C E g1 H1 Rok' r := by
  cases r with
  | none => exact h
  | some o =>
    cases o with
    | ok a t' => exact fun g' H' s' w => f a t' g' H' rfl s' w h
    | exc c t' => exact fun g' H' s' w => h g' H' (s.trans s') w
theorem Wf.updD {C : Cn} {g : G} {H : Hp} {t : Tn} {p : Addr} {kvs : List (Key × V)} {o : HO} (w : Wf C g H t) (hp : H p = some (.dK kvs)) (fp : g.Fz p = none) (nt : ¬ g.isTw p) (ho : ∀ ps, o ≠ .tbl ps) : Wf C g (upd H p o) t where
  fz := fun b o' h => by
    rw [upd_ne (ne_of_none h fp)]
    exact w.fz b o' h
  tw := by
    cases t with
    | none => exact w.tw
    | some cr =>
      obtain ⟨a, b, e1, e2, e3, e4⟩ := w.tw
      have n1 : a ≠ p := fun z => nt ⟨(a, b), e1, .inl z.symm⟩
      have n2 : b ≠ p := fun z => nt ⟨(a, b), e1, .inr z.symm⟩
      exact ⟨a, b, e1, e2, by rw [upd_ne n1]; exact e3, by rw [upd_ne n2]; exact e4⟩
  ntw := w.ntw
  nft := w.nft
  tab := fun q hq => by
    obtain ⟨ps, h1, h2, h3⟩ := w.tab q hq
    refine ⟨ps, by rw [upd_ne (ne_of h1 hp (fun z => nomatch z))]; exact h1, h2, fun pos cv hc => ?_⟩
    obtain ⟨c, e1, e2⟩ := h3 pos cv hc
    exact ⟨c, e1, by rw [upd_ne (ne_of e2 hp (fun z => nomatch z))]; exact e2⟩
section
variable {X : Cx} {C : Cn} {E : XK}
def trsD (X : Cx) (C : Cn) (E : XK) (fs : List (Str × Ex)) : List (TE × TE) := fs.map fun p => (fun _ H Q => Q (.str p.1) H, tE X.K C E p.2)
abbrev CPs (X : Cx) (C : Cn) (E : XK) (pos : Pos) (keys : List (Option Expr)) (values : List Expr) (fs : List (Str × Ex)) : Prop := PPs X pos keys values (trsD X C E fs) ∧ keys.all (·.isSome) = true ∧ keys.length = values.length ∧ keys.length = fs.length
theorem cps_nil {pos : Pos} : CPs X C E pos [] [] [] := ⟨pps_nil, rfl, rfl, rfl⟩
theorem cps_cons {pos p : Pos} {x : Str} {j : Nat} {v : Expr} {f : Ex} {ks : List (Option Expr)} {vs : List Expr} {fs : List (Str × Ex)} (h : CE X C E v f) (r : CPs X C E pos ks vs fs) : CPs X C E pos (some (.Constant (.str x) j p) :: ks) (v :: vs) ((x, f) :: fs) :=
  ⟨pps_cons pe_str h r.1, by rw [List.all_cons, r.2.1]; rfl, by rw [List.length_cons, List.length_cons, r.2.2.1], by rw [List.length_cons, List.length_cons, r.2.2.2]⟩
theorem tPairs_of : ∀ {fs : List (Str × Ex)} {σ : L2.St} {H : Hp} {g : G} {S : Sl} {t : Tn} {Q : List (V × V) → Hp → Prop}, Wf C g H t → SL X.K g H σ S →
    Post C E g H (fun ks _ g' H' => ∀ vs, RpK X.K g' vs ks → Q (vs.map fun p => (kV p.1, p.2)) H') (evsK fs S t) → tPairs (trsD X C E fs) σ H Q
  | [], σ, H, g, S, t, Q, w, s, p => by
    have p := postRet p w
    exact p [] .nil
  | (x, f) :: fs, σ, H, g, S, t, Q, w, s, p => by
    refine ⟨g, S, t, w, s, p.bnd.imp fun d t1 g1 H1 st1 w1 q v r => ?_⟩
    refine tPairs_of w1 (s.stp w st1) (q.bnd.imp fun ks t2 g2 H2 st2 w2 q2 vs rs => ?_)
    have := postRet q2 w2 ((Sum.inr x, v) :: vs) (.cons (r.stp st2) rs)
    exact this
/-- what a display leaves: a new dict of one's own -/
def tDic (X : Cx) (C : Cn) (E : XK) (fs : List (Str × Ex)) : TE := fun σ H Q => ∃ g S t, Wf C g H t ∧ SL X.K g H σ S ∧ Post C E g H (fun ks _ g' H' => ∀ p vs, H p = none → H' p = some (.dK vs) → RpK X.K g' vs (dMerge [] ks) → g'.Fz p = none → ¬ g'.isTw p → Q (.ref p) H') (evsK fs S t)
theorem pe_dic {pos : Pos} {keys : List (Option Expr)} {values : List Expr} {fs : List (Str × Ex)} (h : CPs X C E pos keys values fs) (h0 : keys ≠ []) (h15 : keys.length ≤ 15) : PE X (.Dict keys values pos) (tDic X C E fs) := by
  refine PE.imp (pe_disp h.1 h.2.1 h.2.2.1 h0 h15) fun σ H Q ⟨g, S, t, w, s, q⟩ => ?_
  intro p hp
  have st0 : Stp g H g (upd H p (.dK [])) := Stp.lay w hp
  have w0 : Wf C g (upd H p (.dK [])) t := Wf.lay w hp
  refine tPairs_of w0 (s.stp w st0) (q.all st0 fun ks t1 g1 H1 er st1 w1 q1 vs rs => ?_)
  have nt0 : ¬ g.isTw p := w.ntN hp
  have e1 : H1 p = some (.dK []) := st1.frm p _ upd_same nt0 (fun _ z => nomatch z)
  have nt1 : ¬ g1.isTw p := st1.ntw upd_same nt0 (fun _ z => nomatch z)
  have f1 : g1.Fz p = none := by rw [st1.new p ⟨_, upd_same, fun _ z => nomatch z⟩]; exact w.fzN hp
  refine ⟨e1, vs, rfl, by rw [rs.length, evsK_length er, ← h.2.2.2]; exact h15, ?_⟩
  exact q1 g1 _ ((st0.trans st1).updO (Nt.no hp)) (w1.updD e1 f1 nt1 (fun _ z => by cases z)) p _ hp upd_same (RpK.merge rs .nil) f1 nt1
/-- x = {'k': e, ..} -/
def sDic (i : Nat) (fs : List (Str × Ex)) : Stm := fun S => bnd (evsK fs S) fun ks => ret (.nx (S.set i (.dic (dMerge [] ks))))
theorem cs_dic (i : Nat) {x : Str} {keys : List (Option Expr)} {values : List Expr} {fs : List (Str × Ex)} {dpos pos pos' : Pos} (hN : X.N.Nodup) (h : CPs X C E dpos keys values fs) (h0 : keys ≠ [] := by simp) (h15 : keys.length ≤ 15 := by decide) (hi : X.N[i]? = some x := by rfl) (hx : Loc X.env.scope x := by first | exact .inl rfl | exact .inr rfl) (hs : swapsWith (.Dict keys values dpos) (some (.Name x pos')) pos.line X.env = pure false := by rfl)
    (hf : X.fn x = true ∨ X.env.scope.names.lookup x = some .local := by first | exact .inl rfl | exact .inr rfl | assumption) : CS X C E (.Assign [.Name x pos'] (.Dict keys values dpos) pos) (sDic i fs) :=
  PS.imp (ps_set hN hi hx (pe_dic h h0 h15) hs hf) fun De σ H ⟨g0, H0, gs, g, S, t, st, gr, w, s, o, p⟩ =>
    ⟨g, S, t, w, s, p.bnd0.all st fun ks t1 g1 H1 er st1 w1 q1 a vs ha ha1 rs fa nt => by
      have q2 := q1 g1 H1 (st.trans st1) w1
      exact q2 g1 H1 (st.trans st1) w1 _ (gr.trans st1.gw) ((s.stp w st1).setD ha1 rs fa nt fun j y h1 hx h2 => s.noOne (Nt.no ha) i j y h1 hx h2) (o.put (st.back ha))⟩
/-- x.update({'k': e, ..}) -/
def sDUpd (i : Nat) (fs : List (Str × Ex)) : Stm := fun S => match S[i]? with
  | some (.dic _) => bnd (evsK fs S) fun ms => match S[i]? with
    | some (.dic ks) => if ks.length < 1000 then ret (.nx (S.set i (.dic (dMerge ks (dMerge [] ms))))) else stuck
    | _ => stuck
  | _ => stuck
def rUpd : V → List V → Hp → VK → Prop := fun x xs H Q => ∃ d o kvs more, x = .ref d ∧ xs = [.ref o] ∧ d ≠ o ∧ H d = some (.dK kvs) ∧ H o = some (.dK more) ∧ kvs.length + more.length ≤ sizeLine ∧ Q .non (upd H d (.dK (mergeK kvs more)))
theorem mt_upd : MtR X "dict.update" rUpd := by
  intro pins s σ H x xs v us Q I rx rs h
  obtain ⟨d, o, kvs, more, rfl, rfl, hdo, e1, e2, hz, q⟩ := h
  cases rx
  obtain ⟨u, rfl, ru⟩ := rs.one
  cases ru
  obtain ⟨z1, d1, vs, rel, dd⟩ := dk_of I.hok e1
  obtain ⟨z2, d2, ws, rel2, dd2⟩ := dk_of I.hok e2
  refine call_meetsIn PySem.F.slot_dict_update dd.typeIs PySem.F.entry_dict_update (PySem.F.args_dict_update_2 _ _) (meets_dict_update (mixKind X.prog X.w) d o hdo d2) ⟨vs, ws, dd, dd2, by rw [← rel.length, ← rel2.length]; exact hz, fun h' dd' _ hs => ?_⟩
  have he : ∃ q, h'.get? d = some q := let ⟨q, _, _, hq, _⟩ := dd'; ⟨q, hq⟩
  exact ⟨.non, _, d_write I (by rw [e1]; exact True.intro) hs he (dk_new (by have := length_mergeK more kvs; omega) d1 (rel2.merge rel) dd'), rfl, q⟩
theorem cs_dupd (i : Nat) {x : Str} {keys : List (Option Expr)} {values : List Expr} {fs : List (Str × Ex)} {p1 apos cpos dpos pos : Pos} (h : CPs X C E dpos keys values fs) (h0 : keys ≠ [] := by simp) (h15 : keys.length ≤ 15 := by decide) (hN : X.N[i]? = some x := by rfl) (hv : Vis X.env.scope x := by first | exact Or.inl rfl | exact Or.inr (Or.inl rfl) | exact Or.inr (Or.inr rfl)) (hd : (x == ("__debug__" : Str)) = false := by decide)
    (hcd : (x == ("__classdict__" : Str)) = false := by decide) (hbase : attributeBase (.Name x p1) "update" X.env (eval (.Name x p1) X.env) = eval (.Name x p1) X.env := by rfl)
    (hfew : ((backTo cpos (starEach [.Dict keys values dpos] X.env)).all (fun x => !x.1) && (backToKw cpos (keywordEach [] X.env)).all (fun x => x.1.isSome) && decide ([Expr.Dict keys values dpos].length + ([] : List Keyword).length + (if ([] : List Keyword).isEmpty then 0 else 1) < 30)) = true := by rfl)
    (hline : (apos.endLine == cpos.line) = true := by rfl) (hs : starEach [.Dict keys values dpos] X.env = (false, eval (.Dict keys values dpos) X.env) :: starEach [] X.env := by rfl) (hplain : (backTo cpos (starEach [] X.env)).any (·.1) = false := by rfl) (hsw : swapsWith (.Call (.Attribute (.Name x p1) "update" apos) [.Dict keys values dpos] [] cpos) none pos.line X.env = pure false := by rfl) :
    CS X C E (.Expr (.Call (.Attribute (.Name x p1) "update" apos) [.Dict keys values dpos] [] cpos) pos) (sDUpd i fs) :=
  PS.imp (ps_expr (pe_bm PySem.F.plainAttrs_dict PySem.F.slot_dict_update PySem.F.type_dict_update mt_upd (pe_var hN hv hd hcd) (pa_cons (pe_dic h h0 h15) pa_nil hs) hbase hfew hline hs hplain) hsw) fun De σ H ⟨g0, H0, gs, g, S, t, st, gr, w, s, o, p⟩ => by
    unfold sDUpd at p
    cases e : S[i]? with
    | none => rw [e] at p; exact p.elim
    | some sv =>
      rw [e] at p
      cases sv with
      | un => exact p.elim
      | val d => exact p.elim
      | own d => exact p.elim
      | raw d => exact p.elim
      | exn d => exact p.elim
      | dic ks =>
        obtain ⟨a, vs, h1, h2, h3, h4, h5⟩ := s.dic i ks e
        refine ⟨_, h1, .inr (.inr (.inl ⟨rfl, .inl ⟨vs, h2⟩⟩)), ⟨g, S, t, w, s, p.bnd0.all st fun ms t1 g1 H1 er st1 w1 q1 b ws hb hb1 rs fb nt => ?_⟩⟩
        have q2 := q1 g1 H1 (st.trans st1) w1
        have q2 : Post C E g0 H0 (Rs X.K H0 gs De) ((if ks.length < 1000 then ret (Fl.nx (S.set i (.dic (dMerge ks (dMerge [] ms))))) else stuck) t1) := q2
        split at q2
        · rename_i hz
          obtain ⟨a', vs', k1, k2, k3, k4, k5⟩ := (s.stp w st1).dic i ks e
          rw [h1] at k1
          cases k1
          have nab : a ≠ b := fun z => by rw [z, hb] at h2; cases h2
          refine ⟨a, b, vs', ws, rfl, rfl, nab, k2, hb1, ?_, ?_⟩
          · have l1 := k3.length
            have l2 := rs.length
            have l3 := dMerge_len ms []
            have l4 := evsK_length er
            have l5 := h.2.2.2
            rw [List.length_nil] at l3
            rw [sizeLine_eq]
            omega
          exact q2 g1 _ ((st.trans st1).updO (o i _ a e rfl h1)) (w1.updD k2 k4 k5 (fun _ z => by cases z)) _ (gr.trans st1.gw) ((s.stp w st1).updX e rfl h1 rfl ⟨a, _, rfl, upd_same, RpK.merge rs k3, k4, k5⟩) (o.updX e rfl)
        · exact q2.elim
end
end BG
set_option Elab.async false
set_option linter.all false
set_option maxRecDepth 100000
set_option maxHeartbeats 4000000
namespace BG
open PySem PySem.Spec PyProof.Rows L2
section
variable {X : Cx} {C : Cn} {E : XK}
theorem ps_freeze {st : Stmt} {t : TS} (h : PS X st t) : PS X st (fun De σ H => ∃ d kvs, H d = some (.dK kvs) ∧ ∀ od, t De σ (upd H d (.frz od (.dK kvs)))) := ⟨fun pins s σ H D I ⟨d, kvs, e, q⟩ => by
  obtain ⟨od, I'⟩ := I.lock e True.intro
  exact h.run pins s σ _ D I' (q od)⟩
def sFrzD (i : Nat) (a : Stm) : Stm := fun S => match S[i]? with
  | some (.dic ks) => a (S.set i (.val (.dct (ks.map (·.1)) (ks.map (·.2)))))
  | _ => stuck
theorem zip_fs {α β : Type} : ∀ l : List (α × β), (l.map (·.1)).zip (l.map (·.2)) = l
  | [] => rfl
  | (a, b) :: l => by rw [List.map_cons, List.map_cons, List.zip_cons_cons, zip_fs l]
theorem cs_frzD (i : Nat) {st : Stmt} {f : Stm} (h : CS X C E st f) : CS X C E st (sFrzD i f) := PS.imp (ps_freeze h) fun De σ H ⟨g0, H0, gs, g, S, t, st, gr, w, s, o, p⟩ => by
  unfold sFrzD at p
  cases e : S[i]? with
  | none => rw [e] at p; exact p.elim
  | some sv =>
    rw [e] at p
    cases sv with
    | un => exact p.elim
    | val d => exact p.elim
    | own d => exact p.elim
    | raw d => exact p.elim
    | exn d => exact p.elim
    | dic ks =>
      obtain ⟨a, vs, h1, h2, h3, h4, h5⟩ := s.dic i ks e
      have h0 := o i _ a e rfl h1
      refine ⟨a, vs, h2, fun od => ?_⟩
      have sm : Same g.Fz (upd g.Fz a (.frz od (.dK vs))) := fun b o h => by rw [upd_ne (ne_of_none h h4)]; exact h
      have w1 : Wf C g (upd H a (.frz od (.dK vs))) t := w.updD h2 h4 h5 (fun _ z => by cases z)
      refine ⟨g0, H0, gs, ⟨upd g.Fz a (.frz od (.dK vs)), g.tw⟩, _, t, ⟨st.fz.trans sm, st.tw, st.twn, (st.updO h0).frm, (st.updO h0).thr, fun b h => ?_⟩, gr.trans ⟨sm, fun _ h => h⟩, ⟨fun b o h => ?_, w1.tw, fun b h => ?_, w1.tab, nft_upd w.nft fun _ z => by cases z⟩, ⟨by rw [List.length_set]; exact s.len, fun j x e2 => ?_, fun j k p x y e1 e2 o1 o2 e3 e4 => ?_⟩, fun j dj p e1 ox e2 => ?_, p⟩
      · have nb : b ≠ a := fun z => h0 (by rw [← z]; exact h)
        show upd g.Fz a _ b = _
        rw [upd_ne nb]
        exact st.new b h
      · have h : upd g.Fz a (.frz od (.dK vs)) b = some o := h
        by_cases hb : b = a
        · rw [hb, upd_same] at h ⊢; exact h
        · rw [upd_ne hb] at h ⊢
          exact w.fz b o h
      · have nb : b ≠ a := fun z => h5 (by rw [← z]; exact h)
        show upd g.Fz a _ b = _
        rw [upd_ne nb]
        exact w.ntw b h
      · have tw' : ∀ p, g.tw = some p → (⟨upd g.Fz a (.frz od (.dK vs)), g.tw⟩ : G).tw = some p := fun p h => h
        by_cases hj : i = j
        · subst hj
          obtain ⟨hl, _⟩ := List.getElem?_eq_some_iff.mp e
          rw [List.getElem?_set_self hl] at e2
          cases e2
          refine ⟨_, h1, .dct (o := od) (vs := vs.map (·.2)) ?_ (by rw [List.length_map, List.length_map, h3.length]) (RpA.mono (g' := ⟨upd g.Fz a (.frz od (.dK vs)), g.tw⟩) sm tw' h3.2)⟩
          show upd g.Fz a _ a = _
          rw [upd_same, ← h3.1, zip_fs]
        · rw [List.getElem?_set_ne hj] at e2
          have h := s.ok j x e2
          cases x with
          | un => trivial
          | raw v => exact h
          | exn c =>
            obtain ⟨b, k1, k2⟩ := h
            exact ⟨b, k1, by rw [upd_ne (fun z => by rw [z, h2] at k2; unfold ExK at k2; cases k2)]; exact k2⟩
          | val d => obtain ⟨v, k1, k2⟩ := h; exact ⟨v, k1, Rp.mono (g' := ⟨upd g.Fz a (.frz od (.dK vs)), g.tw⟩) sm tw' k2⟩
          | own dj =>
            obtain ⟨b, us, k1, k2, k3, k4⟩ := h
            have nb : b ≠ a := fun z => hj (s.dis i j a _ _ e e2 rfl rfl h1 (by rw [← z]; exact k1))
            exact ⟨b, us, k1, by rw [upd_ne nb]; exact k2, RpA.mono (g' := ⟨upd g.Fz a (.frz od (.dK vs)), g.tw⟩) sm tw' k3, by show upd g.Fz a _ b = _; rw [upd_ne nb]; exact k4⟩
          | dic kj =>
            obtain ⟨b, us, k1, k2, k3, k4, k5⟩ := h
            have nb : b ≠ a := fun z => hj (s.dis i j a _ _ e e2 rfl rfl h1 (by rw [← z]; exact k1))
            exact ⟨b, us, k1, by rw [upd_ne nb]; exact k2, ⟨k3.1, RpA.mono (g' := ⟨upd g.Fz a (.frz od (.dK vs)), g.tw⟩) sm tw' k3.2⟩, by show upd g.Fz a _ b = _; rw [upd_ne nb]; exact k4, k5⟩
      · have n1 := set_ow e1 o1
        have n2 := set_ow e2 o2
        rw [List.getElem?_set_ne n1] at e1
        rw [List.getElem?_set_ne n2] at e2
        exact s.dis j k p x y e1 e2 o1 o2 e3 e4
      · have n := set_ow e1 ox
        rw [List.getElem?_set_ne n] at e1
        exact o j dj p e1 ox e2
def dAt (S : Sl) (i : Nat) : Option (List (Key × D)) := match S[i]? with
  | some (.dic ks) => some ks
  | some (.val (.dct ks ds)) => some (ks.zip ds)
  | _ => none
theorem RpA.zipK {K : PySem.W.Frag} {g : G} : ∀ {ks : List Key} {vs : List V} {ds : List D}, RpA K g vs ds → ks.length = vs.length → RpK K g (ks.zip vs) (ks.zip ds)
  | [], _, _, _, _ => .nil
  | k :: ks, [], _, _, h => by cases h
  | k :: ks, v :: vs, _, r, h => by
    cases r with
    | cons a b => exact .cons a (RpA.zipK b (by simpa using h))
theorem dAt_at {K : PySem.W.Frag} {g : G} {H : Hp} {σ : L2.St} {S : Sl} {t : Tn} {i : Nat} {ks : List (Key × D)} (w : Wf C g H t) (s : SL K g H σ S) (h : dAt S i = some ks) : ∃ a vs, σ[i]? = some (some (.ref a)) ∧ Rd H a (.dK vs) ∧ RpK K g vs ks := by
  unfold dAt at h
  cases e : S[i]? with
  | none => rw [e] at h; cases h
  | some sv =>
    rw [e] at h
    cases sv with
    | un => cases h
    | own d => cases h
    | raw d => cases h
    | exn d => cases h
    | dic ks' =>
      cases h
      obtain ⟨a, vs, h1, h2, h3, _⟩ := s.dic i _ e
      exact ⟨a, vs, h1, .inl h2, h3⟩
    | val d =>
      cases d with
      | dct ks' ds =>
        cases h
        obtain ⟨v, h1, h2⟩ := s.val i _ e
        cases h2 with
        | dct e1 l ra => exact ⟨_, _, h1, .inr ⟨_, w.fz _ _ e1⟩, RpA.zipK ra l⟩
      | _ => cases h
/-- d[k] -/
def eDIx (i : Nat) (k : Ex) : Ex := fun S => match dAt S i with
  | some _ => bnd (k S) fun kd => match dAt S i, keyD kd with
    | some ks, some y => match dLook ks y with
      | some d => ret d
      | none => stuck
    | _, _ => stuck
  | none => stuck
theorem ce_dix (i : Nat) {x : Str} {k : Expr} {fk : Ex} {p1 pos : Pos} (hu : X.A.units + 1 < cLine) (hk : CE X C E k fk) (hN : X.N[i]? = some x := by rfl) (hv : Vis X.env.scope x := by first | exact Or.inl rfl | exact Or.inr (Or.inl rfl) | exact Or.inr (Or.inr rfl)) (hd : (x == ("__debug__" : Str)) = false := by decide)
    (hcd : (x == ("__classdict__" : Str)) = false := by decide) (hs : NoSl k := by exact fun _ _ => rfl) : CE X C E (.Subscript (.Name x p1) k pos) (eDIx i fk) :=
  PE.imp (pe_dget hu (pe_var hN hv hd hcd) hk hs) fun σ H Q ⟨g, S, t, w, s, p⟩ => by
    unfold eDIx at p
    cases e : dAt S i with
    | none => rw [e] at p; exact p.elim
    | some ks =>
      rw [e] at p
      obtain ⟨a, vs, h1, h2, h3⟩ := dAt_at w s e
      refine ⟨_, h1, ⟨g, S, t, w, s, p.bnd.imp fun kd t1 g1 H1 st1 w1 q v r => ?_⟩⟩
      obtain ⟨a', vs', k1, k2, k3⟩ := dAt_at w1 (s.stp w st1) e
      rw [h1] at k1
      cases k1
      cases ek : keyD kd with
      | none => rw [ek] at q; exact q.elim
      | some y =>
        rw [ek] at q
        have q : PostQ X.K C E g1 H1 Q ((match dLook ks y with | some d => ret d | none => stuck) t1) := q
        cases el : dLook ks y with
        | none => rw [el] at q; exact q.elim
        | some d =>
          rw [el] at q
          obtain ⟨u, m1, m2⟩ := (k3.look y).2 d el
          refine ⟨a, u, rfl, .inl ⟨vs', y, k2, r.key ek, m1.symm⟩, pRetV q w1 m2⟩
/-- the keys of a frozen dict -/
def itDic (i : Nat) : Sl → M (List D) := fun S => match S[i]? with
  | some (.val (.dct ks _)) => ret (ks.map kD)
  | _ => stuck
theorem ci_dic {tg : Expr} (i : Nat) {x : Str} {pos : Pos} (hN : X.N[i]? = some x := by rfl) (hv : Vis X.env.scope x := by first | exact Or.inl rfl | exact Or.inr (Or.inl rfl) | exact Or.inr (Or.inr rfl)) (hd : (x == ("__debug__" : Str)) = false := by decide)
    (hcd : (x == ("__classdict__" : Str)) = false := by decide) : CI X C E tg (.Name x pos) (itDic i) := PI.imp (pi_keys (pe_var hN hv hd hcd)) fun σ H R ⟨g, S, t, w, s, p⟩ => by
  unfold itDic at p
  cases e : S[i]? with
  | none => rw [e] at p; exact p.elim
  | some sv =>
    rw [e] at p
    cases sv with
    | un => exact p.elim
    | own d => exact p.elim
    | raw d => exact p.elim
    | exn d => exact p.elim
    | dic d => exact p.elim
    | val d =>
      cases d with
      | dct ks ds =>
        obtain ⟨v, h1, h2⟩ := s.val i _ e
        cases h2 with
        | @dct a o ks vs ds e1 l ra =>
          refine ⟨_, h1, a, o, rfl, .inl ⟨_, w.fz _ _ e1, postRet p w _ fun m H' sm => ⟨fun d ed => ?_, fun hl => ⟨sm _ _ e1, ?_⟩⟩⟩⟩
          · rw [List.getElem?_map] at ed
            cases ek : ks[m]? with
            | none => rw [ek] at ed; cases ed
            | some k =>
              rw [ek] at ed
              cases ed
              have hm : m < ks.length := (List.getElem?_eq_some_iff.mp ek).1
              refine ⟨⟨sm _ _ e1, by rw [List.length_zip]; omega⟩, fun y H2 ⟨e2, k', v', e3, e4⟩ => .inl ⟨e2, ?_⟩⟩
              rw [List.getElem?_zip_eq_some] at e3
              have : k = k' := by
                have := e3.1
                rw [ek] at this
                exact Option.some.inj this
              subst this e4
              cases k with
              | inl i => exact .int i
              | inr i => exact .str i
          · rw [List.length_map] at hl; rw [List.length_zip]; omega
      | _ => exact p.elim
end
end BG
set_option Elab.async false
set_option linter.all false
set_option maxRecDepth 100000
set_option maxHeartbeats 4000000
namespace BG
open PySem PySem.Spec PyProof.Rows L2
section
variable {X : Cx} {pins : List (Addr × Obj)} {σ : L2.St} {H : Hp} {s : Shared}
theorem Inv.track {a : Addr} {o : HO} (I : L2.Inv X pins σ H s) (na : H a = none) (nL : a ≠ X.env.locals) (nC : ∀ v, ¬ s.heap.IsCell a v) (n0 : X.s_0.heap.get? a = none) (np : ∀ p ∈ X.pn ++ pins, p.1 ≠ a) (ok : ObjOk X.prog X.w (upd H a o) s.heap a o) : L2.Inv X pins σ (upd H a o) s := by
  refine ⟨I.ok, I.os, I.bare, ⟨I.base.keep, I.base.slot, fun b u e1 e2 e3 => ?_, I.base.there, fun b xs e => ?_, fun b u v e => ?_, fun b ps e => ?_⟩, I.loc, I.cell, ?_, fun x c e => ?_, fun p hp => ?_, ?_, I.len⟩
  · rw [upd_ne (fun z => by rw [z, n0] at e1; cases e1)]; exact I.base.free b u e1 e2 e3
  · have := I.base.tups b xs e
    rw [upd_ne (ne_of_none this na)]; exact this
  · have := I.base.frzs b u v e
    rw [upd_ne (ne_of_none this na)]; exact this
  · obtain ⟨more, h⟩ := I.base.tbls b ps e
    exact ⟨more, by rw [upd_ne (ne_of_none h na)]; exact h⟩
  · rw [upd_ne (Ne.symm nL)]; exact I.free
  · obtain ⟨v, hv⟩ := I.cell x c e
    rw [upd_ne (fun z => nC v (by rw [← z]; exact hv))]; exact I.freeC x c e
  · obtain ⟨h1, h2, h3⟩ := I.pin p hp
    exact ⟨h1, by rw [upd_ne (np p hp)]; exact h2, h3⟩
  · intro b u e
    by_cases hb : b = a
    · subst hb
      rw [upd_same] at e
      cases e
      exact ok
    · rw [upd_ne hb] at e
      exact (I.hok b u e).stay (fun c v _ q => q) (fun c q => by rw [upd_ne (ne_of_none q na)]; exact q) fun c xs q => by rw [upd_ne (ne_of_none q na)]; exact q
end
/-- what the clause wishes: slot i is n's -/
def wKeep (K : PySem.W.Frag) (c : Value) (i ln : Nat) (ts : Addr → TS) (D : Ends) : WX := fun cls d σ H =>
  PySem.W.exmOne K cls c = some true ∧ d = none ∧ ∀ a, H a = none → σ.length = ln → ts a { nx := fun σ' H' => D.nx (σ'.set i none) (upd H' a (ExK cls a)), rt := fun _ _ => False, bk := fun _ _ => False, ct := fun _ _ => False } (σ.set i (some (.ref a))) H
section
variable {X : Cx} {x n : Str} {c : Value} {i : Nat} {body suite : List Stmt} {b₀ : Stmt} {np pos pos' : Pos} {tb : WX → TS} {ts : Addr → TS}
theorem ps_try_keep (hs : X.stack = X.env :: X.outer) (hf : X.env.frame = some X.env.locals) (hex : X.ex = []) (hN : X.N.Nodup) (hi : X.N[i]? = some n) (hln : X.env.kindOf n = some .local) (hc : Names X x c)
    (hb : ∀ (W : WX) (pn : List (Addr × Obj)) (xe : Value → Shared → Prop), L2.Takes (X.tr pn xe) W → PSs (X.tr pn xe) body (tb W))
    (hsu : ∀ (a : Addr) (oe : Obj) (pn : List (Addr × Obj)), PSs (X.suite a ((a, oe) :: pn)) (b₀ :: suite) (ts a)) :
    PS X (.Try body [.ExceptHandler (some (.Name x np)) (some n) (b₀ :: suite) pos'] [] [] pos) (fun D σ H => tb (wKeep X.K c i X.N.length ts D) D σ H) := by
  refine ⟨fun pins s σ H D I h => ?_⟩
  have ok := I.ok
  have fr : X.A.frames = some (X.env :: X.outer) := by rw [ok.frames, hs]
  refine wpAny_Try_except (wpAny_mono ((hb (wKeep X.K c i X.N.length ts D) (X.pn ++ pins) (fun e s₁ => wpAny (model X.prog X.w) X.A (noteFrame e X.env) (fun _ s₂ => wpAny (model X.prog X.w) X.A (setFlight e none) (fun _ s₃ => wpAny (model X.prog X.w) X.A (handleBy e X.env [.ExceptHandler (some (.Name x np)) (some n) (b₀ :: suite) pos']) (SP X pins D) X.xe s₃) X.xe s₂) X.xe s₁) (fun u s' xx => ?_)).run [] s σ H D (I.toTry _) h) (fun f s1 hsp => ?_) (fun e s1 he => he))
  · obtain ⟨a, B, sI, pins', σ', H', cls, d, rfl, J', nb, up, sky, na, os, ag, hb1, hd0, hyes⟩ := xx
    subst hd0
    have J : L2.Inv X pins σ' H' sI := J'.ofTry ok
    have sky2 : Sky B (X.env :: X.outer) a (Zc cls none) X.env.locals s'.heap := by rw [← hs]; exact sky
    have Ba : B.get? a = none := by rcases sky2 with q | q | q <;> exact q.2.1
    show wpAny (model X.prog X.w) X.A (noteFrame (.ref a) X.env) _ _ s'
    refine L2.Sky.land Zc.steady fr hf sky2 fun h3 fl3 up3 => ?_
    have J3 : L2.Inv X pins σ' H' { s' with heap := h3 } := J.landed nb fl3.1 (up.trans up3) os ag
    obtain ⟨ob3, us3, hk3, hy3, hw3⟩ := fl3.there
    have notf : a ∉ frs (X.env :: X.outer) := fun hm => by
      obtain ⟨_, o', e', hnf⟩ := fl3.2.2.1.mem hm
      rw [hk3] at e'; cases e'
      exact hnf _ hw3
    have aI : sI.heap.get? a = none := by
      cases z : sI.heap.get? a with
      | none => rfl
      | some o =>
        have := nb a o z (by rw [hs]; exact notf)
        rw [Ba] at this; cases this
    have nL : a ≠ X.env.locals := fun z => notf (List.mem_filterMap.mpr ⟨X.env, List.mem_cons_self, by rw [hf, z]⟩)
    have nF : a ∉ X.fs := fun hm => by
      obtain ⟨e, he, q⟩ := List.mem_filterMap.mp hm
      exact notf (List.mem_filterMap.mpr ⟨e, List.mem_cons_of_mem _ he, q⟩)
    have a0 : X.s_0.heap.get? a = none := by
      cases z : X.s_0.heap.get? a with
      | none => rfl
      | some o =>
        obtain ⟨o', e'⟩ := J.base.there a o z (by rw [hex]; exact fun q => nomatch q)
        rw [aI] at e'; cases e'
    have ap : ∀ p ∈ X.pn ++ pins, p.1 ≠ a := fun p hp z => by
      have := (J.pin p hp).1
      rw [z, aI] at this; cases this
    have S3 := J3.suite hk3 hw3 na nL nF
    refine wpAny_handleBy_cons (codeAny_handlers_test ?_) (by intro q; cases q)
    have lt1 : PySem.W.Looks (model X.prog X.w) h3 (typeOf (.ref a)) cls := fun A Q E s k q => wpAny_typeOf_ref (k _ _ hk3) (by rw [hy3.1]; exact q)
    have lm1 := PySem.W.exm_one (M := model X.prog X.w) J3.kIn lt1 hb1
    have test : ∀ {Q : Value → Shared → Prop} {E : Value → Shared → Prop}, Q c { s' with heap := h3 } → wpAny (model X.prog X.w) (X.A.mark (some (.ref a))) (eval (.Name x np) X.env) Q E { s' with heap := h3 } := fun {Q E} q => by
      rcases hc with ⟨hg, hdbg, hm | ⟨hm, hv, hnn⟩⟩
      · exact ld_glob (X := X.suite a ((a, ob3) :: (X.pn ++ pins))) S3 hg hm q hdbg
      · exact ld_blt (X := X.suite a ((a, ob3) :: (X.pn ++ pins))) S3 hg hm hv q hnn hdbg
    refine test (lm1.here (codeAny_handlers_suite_as (HandSPX.lands_againZ fl3 fun h4 fl4 up4 => ?_)))
    have J4 : L2.Inv X pins σ' H' { s' with heap := h4 } := J.landed nb fl4.1 ((up.trans up3).trans up4) os ag
    obtain ⟨ob4, us4, hk4, hy4, hw4⟩ := fl4.there
    have S4 := J4.suite hk4 hw4 na nL nF
    refine store_ok (X := X.suite a ((a, ob4) :: (X.pn ++ pins))) (v := .ref a) S4 hN hi (.inl hln) rfl (fun s5 S5 => ?_) (.inr hln)
    refine wpAny_mono ((hsu a ob4 (X.pn ++ pins)).run [] s5 _ H' _ S5 (hyes a na J.len)) (fun f s6 hsp => ?_) (fun _ _ z => False.elim z)
    cases f with
    | next =>
      obtain ⟨σ6, H6, S6, q6⟩ := hsp
      obtain ⟨p1, p2, p3, p4, p5⟩ := S6.pin (a, ob4) (List.mem_append_left _ (List.mem_cons_self ..))
      have T6 : L2.Inv X ((a, ob4) :: pins) σ6 H6 s6 := ⟨ok, S6.os, S6.bare, S6.base, S6.loc, S6.cell, S6.free, S6.freeC, fun p hp => S6.pin p (by
        rcases List.mem_append.mp hp with h | h
        · exact List.mem_append_left _ (List.mem_cons_of_mem _ (List.mem_append_left _ h))
        · rcases List.mem_cons.mp h with h | h
          · rw [h]; exact List.mem_append_left _ (List.mem_cons_self ..)
          · exact List.mem_append_left _ (List.mem_cons_of_mem _ (List.mem_append_right _ h))), S6.hok, S6.len⟩
      refine gone_ok T6 hN hi hln fun s7 J7 => ?_
      obtain ⟨e1, e2, e3, e4, e5⟩ := J7.pin (a, ob4) (List.mem_append_right _ (List.mem_cons_self ..))
      have J8 : L2.Inv X pins (σ6.set i none) H6 s7 := ⟨ok, J7.os, J7.bare, J7.base, J7.loc, J7.cell, J7.free, J7.freeC, fun p hp => J7.pin p (by
        rcases List.mem_append.mp hp with h | h
        · exact List.mem_append_left _ h
        · exact List.mem_append_right _ (List.mem_cons_of_mem _ h)), J7.hok, J7.len⟩
      refine ⟨_, _, Inv.track J8 e2 e3 (fun v ⟨o, g1, g2⟩ => ?_) a0 ap ?_, q6⟩
      · rw [e1] at g1
        cases g1
        exact e5 v g2
      · exact ⟨⟨ob4, us4, e1, hy4.1, hy4.2, hw4⟩, ⟨ob4, e1⟩, fun _ _ ⟨o, v, q, r⟩ k => ⟨o, v, k o q, r⟩⟩
    | brk => obtain ⟨_, _, _, q⟩ := hsp; exact q.elim
    | cont => obtain ⟨_, _, _, q⟩ := hsp; exact q.elim
    | ret u => obtain ⟨_, _, _, _, _, q⟩ := hsp; exact q.elim
  · cases f with
    | next => obtain ⟨σ', H', J', q⟩ := hsp; exact wpAny_execs_nil ⟨σ', H', J'.ofTry ok, q⟩
    | brk => obtain ⟨σ', H', J', q⟩ := hsp; exact ⟨σ', H', J'.ofTry ok, q⟩
    | cont => obtain ⟨σ', H', J', q⟩ := hsp; exact ⟨σ', H', J'.ofTry ok, q⟩
    | ret u => obtain ⟨v, σ', H', J', r, q⟩ := hsp; exact ⟨v, σ', H', J'.ofTry ok, r, q⟩
end
end BG
set_option Elab.async false
set_option linter.all false
set_option maxRecDepth 100000
set_option maxHeartbeats 4000000
namespace BG
open PySem PySem.Spec PyProof.Rows L2
/-- what isinstance asks of an exception class of the program -/
structure ExcF (K : PySem.W.Frag) (c : Addr) : Prop where
  cl : (PySem.W.clsIn K c).isSome = true
  ga : PySem.W.findIn K (.ref c) "__getattribute__" = some (some (.builtin "BaseException.__getattribute__"))
  gt : ∃ gt, PySem.W.findIn K (.ref c) "__getattr__" = some gt
  sub : PySem.W.subIn K (.ref c) (.type "BaseException") = some true
  at_ : PySem.W.findIn K (.ref c) "__class__" = some (some (.builtin "object.__class__"))
  gs : PySem.W.specialIn K (.builtin "object.__class__") "__get__" = some (some (.builtin "getset_descriptor.__get__"))
  tk : PySem.W.takesIn K (.builtin "object.__class__") = some true
  mr : PySem.W.mroIn K c (.type "object") = some true
section
variable {X : Cx} {C : Cn} {E : XK}
def rIsX (K : PySem.W.Frag) : List V → Hp → VK → Prop := fun xs H Q => ∃ a c cv u b, xs = [.ref a, cv] ∧ ClsV cv u ∧ H a = some (ExK (.ref c) a) ∧ ExcF K c ∧ PySem.W.kitOne K (.ref c) u = some b ∧ Q (.bl b) H
theorem call_isX : CallR X (.builtin "isinstance") (rIsX X.K) := by
  intro pins s σ H xs us Q I rl h
  obtain ⟨a, c, cv, u, b, rfl, k, ha, F, e, q⟩ := h
  obtain ⟨u1, u2, rfl, r1, r2⟩ := vals2 rl
  have e2 := k.eq r2
  subst e2
  cases r1
  obtain ⟨⟨oe, vs, g1, g2, g3, g4⟩, _, _⟩ := I.hok a _ ha
  obtain ⟨gt, hgt⟩ := F.gt
  exact PySem.W.kia_one (PySem.W.kitx_exc (x := a) (ox := oe) (od := none) F.cl F.ga hgt F.sub F.at_ F.gs F.tk F.mr) I.kIn ⟨g1, g2, by unfold PySem.W.notCls; rw [g4], by rw [g3]; trivial⟩ e (fun z => nomatch z) fun tk => ⟨.bl b, H, I.tok tk, rfl, q⟩
/-- isinstance(x, C) of a slot that holds an exception -/
def eIsE (K : PySem.W.Frag) (exs : List Addr) (i : Nat) (u : Value) : Ex := fun S => match S[i]? with
  | some (.exn c) => if c ∈ exs then match PySem.W.kitOne K (.ref c) u with
    | some b => ret (.bl b)
    | none => stuck
    else stuck
  | _ => stuck
theorem isE_of {K : PySem.W.Frag} {exs : List Addr} {i : Nat} {u : Value} {cv : V} {σ : L2.St} {H : Hp} {Q : VK} {g : G} {S : Sl} {t : Tn} (hF : ∀ c ∈ exs, ExcF K c) (kc : ClsV cv u) (w : Wf C g H t) (s : SL K g H σ S) (p : PostQ K C E g H Q (eIsE K exs i u S t)) :
    ∃ v, σ[i]? = some (some v) ∧ rIsX K [v, cv] H Q := by
  unfold eIsE at p
  cases e : S[i]? with
  | none => rw [e] at p; exact p.elim
  | some sv =>
    rw [e] at p
    cases sv with
    | exn c =>
      have p : PostQ K C E g H Q ((if c ∈ exs then match PySem.W.kitOne K (.ref c) u with | some b => ret (D.bl b) | none => stuck else stuck) t) := p
      split at p
      · rename_i hc
        cases ek : PySem.W.kitOne K (.ref c) u with
        | none => rw [ek] at p; exact p.elim
        | some b =>
          rw [ek] at p
          obtain ⟨a, h1, h2⟩ := s.ok i _ e
          exact ⟨_, h1, a, c, cv, u, b, rfl, kc, h2, hF c hc, ek, pRetV p w (.bl b)⟩
      · exact p.elim
    | un => exact p.elim
    | val d => exact p.elim
    | own d => exact p.elim
    | dic d => exact p.elim
    | raw d => exact p.elim
theorem ce_isE (i : Nat) {exs : List Addr} {x y : Str} {u : Addr} {p q q2 pos : Pos} (hF : ∀ c ∈ exs, ExcF X.K c) (hm : X.mg "isinstance" = none) (hmT : X.mg y = some (.ref u)) (hN : X.N[i]? = some x := by rfl) (hv : Vis X.env.scope x := by first | exact Or.inl rfl | exact Or.inr (Or.inl rfl) | exact Or.inr (Or.inr rfl)) (hd : (x == ("__debug__" : Str)) = false := by decide)
    (hcd : (x == ("__classdict__" : Str)) = false := by decide) (hg : Gl X "isinstance" := by rfl) (hgT : Gl X y := by rfl) (hvi : bootBuiltins "isinstance" = some (.builtin "isinstance") := by decide +kernel) (hdb : (y == ("__debug__" : Str)) = false := by decide)
    (hs : starEach [.Name x q, .Name y q2] X.env = (false, eval (.Name x q) X.env) :: starEach [.Name y q2] X.env := by rfl) (hs2 : starEach [.Name y q2] X.env = (false, eval (.Name y q2) X.env) :: starEach [] X.env := by rfl) (hp : (backTo pos (starEach [.Name y q2] X.env)).any (·.1) = false := by rfl) :
    CE X C E (.Call (.Name "isinstance" p) [.Name x q, .Name y q2] [] pos) (eIsE X.K exs i (.ref u)) :=
  PE.imp (pe_callB call_isX hg hm hvi (pa_cons (pe_var hN hv hd hcd) (pa_cons (pe_glob (v := .ref u) hgT hmT rfl hdb) pa_nil hs2) hs) (by decide) (by decide) hs hp) fun σ H Q ⟨g, S, t, w, s, p⟩ => by
    obtain ⟨v, h1, h2⟩ := isE_of hF (.own u) w s p
    exact ⟨v, h1, h2⟩
theorem ce_isEb (i : Nat) {exs : List Addr} {x y : Str} {n : String} {p q q2 pos : Pos} (hF : ∀ c ∈ exs, ExcF X.K c) (hm : X.mg "isinstance" = none) (hmT : X.mg y = none) (hvT : bootBuiltins y = some (.type n)) (hN : X.N[i]? = some x := by rfl) (hv : Vis X.env.scope x := by first | exact Or.inl rfl | exact Or.inr (Or.inl rfl) | exact Or.inr (Or.inr rfl)) (hd : (x == ("__debug__" : Str)) = false := by decide)
    (hcd : (x == ("__classdict__" : Str)) = false := by decide) (hg : Gl X "isinstance" := by rfl) (hgT : Gl X y := by rfl) (hvi : bootBuiltins "isinstance" = some (.builtin "isinstance") := by decide +kernel) (hnn : y ≠ "__name__" := by decide) (hdb : (y == ("__debug__" : Str)) = false := by decide)
    (hs : starEach [.Name x q, .Name y q2] X.env = (false, eval (.Name x q) X.env) :: starEach [.Name y q2] X.env := by rfl) (hs2 : starEach [.Name y q2] X.env = (false, eval (.Name y q2) X.env) :: starEach [] X.env := by rfl) (hp : (backTo pos (starEach [.Name y q2] X.env)).any (·.1) = false := by rfl) :
    CE X C E (.Call (.Name "isinstance" p) [.Name x q, .Name y q2] [] pos) (eIsE X.K exs i (.type n)) :=
  PE.imp (pe_callB call_isX hg hm hvi (pa_cons (pe_var hN hv hd hcd) (pa_cons (pe_bltn (v := .ty n) hgT hmT hvT rfl hnn hdb) pa_nil hs2) hs) (by decide) (by decide) hs hp) fun σ H Q ⟨g, S, t, w, s, p⟩ => by
    obtain ⟨v, h1, h2⟩ := isE_of hF (.ty n) w s p
    exact ⟨v, h1, h2⟩
/-- x is None, of a slot -/
def eNoE (i : Nat) : Ex := fun S => match S[i]? with
  | some (.val d) => ret (.bl (isN d))
  | some (.exn _) => ret (.bl false)
  | _ => stuck
theorem isE_isN {v : V} {d : D} {K : PySem.W.Frag} {g : G} (r : Rp K g v d) : (v = .non) ↔ isN d = true := by
  cases r <;> first | exact ⟨fun _ => rfl, fun _ => rfl⟩ | (constructor <;> intro h <;> cases h)
theorem ct_noE (i : Nat) {x : Str} {j : Nat} {p p2 pos : Pos} (hN : X.N[i]? = some x := by rfl) (hv : Vis X.env.scope x := by first | exact Or.inl rfl | exact Or.inr (Or.inl rfl) | exact Or.inr (Or.inr rfl)) (hd : (x == ("__debug__" : Str)) = false := by decide)
    (hcd : (x == ("__classdict__" : Str)) = false := by decide) : CT X C E (.Compare (.Name x p) [.Is] [.Constant .none j p2] pos) (eNoE i) := PT.imp (pt_cmp (pc_isN (pe_var hN hv hd hcd))) fun σ H Q ⟨g, S, t, w, s, p⟩ => by
  unfold eNoE at p
  cases e : S[i]? with
  | none => rw [e] at p; exact p.elim
  | some sv =>
    rw [e] at p
    cases sv with
    | exn c =>
      obtain ⟨a, h1, h2⟩ := s.ok i _ e
      obtain ⟨b, eb, q⟩ := postRet p w
      cases eb
      exact ⟨_, h1, _, rfl, q⟩
    | val d =>
      obtain ⟨v, h1, h2⟩ := s.val i d e
      obtain ⟨b, eb, q⟩ := postRet p w
      cases eb
      refine ⟨v, h1, _, rfl, ?_⟩
      have : decide (v = .non) = isN d := by
        rw [Bool.eq_iff_iff, decide_eq_true_iff]
        exact isE_isN h2
      rw [this]; exact q
    | un => exact p.elim
    | own d => exact p.elim
    | dic d => exact p.elim
    | raw d => exact p.elim
abbrev ngR : List Str := [Str.ofString "call", Str.ofString "raised", Str.ofString "answer", Str.ofString "e", Str.ofString "some", Str.ofString "names", Str.ofString "name"]
/-- as _law_result tells it -/
def eResM (nm : Nat → Str) (al : Nat → Bool) (m : M D) : M D := fun t => match m t with
  | some (.ok d t') => some (.ok (.tup [.str "returns", d]) t')
  | some (.exc c t') => if al c = true then some (.ok (.tup [.str (nm c)]) t') else none
  | none => none
def eRes (nm : Nat → Str) (al : Nat → Bool) (f : Ex) : Ex := fun S => eResM nm al (f S)
def TTr (K : PySem.W.Frag) (C : Cn) (nm : Nat → Str) (al : Nat → Bool) : (XK → Hp → VK → Prop) → Hp → VK → Prop := fun tl H Q =>
  ∃ (g : G) (t : Tn) (m : M D), Wf C g H t ∧ (∀ (H1 : Hp) (E : XK) (Q' : VK), Stp g H g H1 → Wf C g H1 t → PostQ K C E g H1 Q' (m t) → tl E H1 Q') ∧ PostQ K C E0 g H Q (eResM nm al m t)
abbrev Zc0 (X : Cx) (Ng : List Str) (x : Str) (sg : Scope) (g : Addr) (cdg : Value) (s : Shared) (H : Hp) : Cx := (cxOf C8.CX0 X.prog X.w X.K X.mg X.base Ng x sg g cdg X.A X.stack s H C8.E0).nox
theorem gives_of {Ng : List Str} {sg : Scope} {g : Addr} {cdg : Value} {nm : Nat → Str} {al : Nat → Bool} {q : Str} {CS0 : Addr} {st1 : Stmt} {rest : List Stmt} {bR : Stm} {p1 p2 p3 p4 p5 p6 p7 p8 p9 p10 : Pos}
    (hNg : Ng = ngR) (hnd : Ng.Nodup)
    (h1 : ∀ s H, PS (Zc0 X Ng "_law_result" sg g cdg s H) st1 (fun D σ H => ∀ a, H a = none → D.nx ((σ.set 1 (some .non)).set 2 (some .non)) (upd H a (.tup [.non, .non]))))
    (hme : X.mg "GateError" = some (.ref CS0)) (hgE : sg.names.lookup (Str.ofString "GateError") = some NameKind.globalImplicit)
    (hle : sg.names.lookup (Str.ofString "e") = some NameKind.local) (hla : sg.names.lookup (Str.ofString "answer") = some NameKind.local) (hlr : sg.names.lookup (Str.ofString "raised") = some NameKind.local)
    (hex : ∀ c, al c = true → PySem.W.exmOne X.K (.ref (C.ex c)) (.ref CS0) = some true)
    (hR : ∀ s H, CSs (Zc0 X Ng "_law_result" sg g cdg s H) C E0 rest bR)
    (r1 : ∀ d, bR [.un, .val .non, .val d, .un, .un, .un, .un] = ret (.ret (.tup [.str "returns", d])))
    (r2 : ∀ c, al c = true → bR [.un, .exn (C.ex c), .un, .un, .un, .un, .un] = ret (.ret (.tup [.str (nm c)]))) :
    LamX.GivesTo X Ng "_law_result" sg g cdg (st1 :: .Try [.Assign [.Name "answer" p1] (.Call (.Name "call" p2) [] [] p3) p4] [.ExceptHandler (some (.Name "GateError" p5)) (some "e") [.Assign [.Name "raised" p6] (.Name "e" p7) p8] p9] [] [] p10 :: rest) "call" q (TTr X.K C nm al) := by
  subst hNg
  intro f c' s H Q tl act hc ⟨gg, t, m, w, htl, hq⟩
  refine ⟨_, pss_cons (h1 s H) (pss_cons (ps_try_keep (X := Zc0 X _ "_law_result" sg _ cdg s H) (c := .ref CS0) (i := 3)
      (tb := fun W D σ H => ∃ Ech : XK, (∀ cls d σ' H', Ech cls d H' → W cls d σ' H') ∧ σ[0]? = some (some (.ref f)) ∧ H c' = some (LamX.CodeO c' q) ∧ tl Ech H fun v H' => D.nx (σ.set 2 (some v)) H')
      (ts := fun a D σ H => ∃ v, σ[3]? = some (some v) ∧ D.nx (σ.set 1 (some v)) H)
      rfl rfl rfl hnd rfl hle ⟨hgE, by decide, .inl hme⟩ (fun W pn xe tk => ?_) (fun a oe pn => ?_)) (hR s H)), ?_⟩
  · refine ⟨fun pins s' σ H' D I h' => ?_⟩
    obtain ⟨Ech, hW, h1, h2, h3⟩ := h'
    have hp := act W pn xe Ech p2 p3 tk hW
    have hq := pss_one (ps_set (i := 2) (pos' := p1) (pos := p4) hnd rfl (.inl hla) hp rfl (.inr hla))
    exact hq.run pins s' σ H' D I ⟨h1, h2, h3⟩
  · have hv := pe_var (X := (Zc0 X ngR "_law_result" sg g cdg s H).suite a ((a, oe) :: pn)) (i := 3) (x := Str.ofString "e") (pos := p7) rfl (.inl hle) (by decide) (by decide)
    exact PSs.imp (pss_one (ps_set (i := 1) (pos' := p6) (pos := p8) hnd rfl (.inl hlr) hv rfl (.inr hlr))) fun D σ H ⟨v, h1, h2⟩ => ⟨v, h1, h2⟩
  · intro a0 ha0
    have hst0 : Stp gg H gg (upd H a0 (.tup [.non, .non])) := Stp.lay w ha0
    have hw0 : Wf C gg (upd H a0 (.tup [.non, .non])) t := Wf.lay w ha0
    have hq := hq.stp hst0
    have hc : upd H a0 (.tup [.non, .non]) c' = some (LamX.CodeO c' q) := by rw [upd_ne (ne_of_none hc ha0)]; exact hc
    have htl := fun E Q' h => htl _ E Q' hst0 hw0 h
    clear hst0 w
    have w := hw0
    generalize upd H a0 (.tup [.non, .non]) = H at *
    unfold eResM at hq
    cases e : m t with
    | none => rw [e] at hq; exact hq.elim
    | some o =>
      rw [e] at hq
      cases o with
      | ok d t' =>
        refine ⟨fun _ _ _ => False, fun _ _ _ _ z => z.elim, rfl, hc, htl _ _ ?_⟩
        rw [e]
        intro g1 H1 st1 w1 v rv
        refine ⟨g1, H1, g1, g1, [.un, .val .non, .val d, .un, .un, .un, .un], t', .refl _ _, .refl _, w1, ?_, ?_, ?_⟩
        · refine ⟨rfl, fun j x ej => ?_, fun j k p x y e1 e2 o1 => ?_⟩
          · match j, ej with
            | 0, ej => cases ej; trivial
            | 1, ej => cases ej; exact ⟨.non, rfl, .non⟩
            | 2, ej => cases ej; exact ⟨v, rfl, rv⟩
            | 3, ej => cases ej; trivial
            | 4, ej => cases ej; trivial
            | 5, ej => cases ej; trivial
            | 6, ej => cases ej; trivial
            | (j + 7), ej => simp at ej
          · exfalso
            match j, e1 with
            | 0, e1 => cases e1; cases o1
            | 1, e1 => cases e1; cases o1
            | 2, e1 => cases e1; cases o1
            | 3, e1 => cases e1; cases o1
            | 4, e1 => cases e1; cases o1
            | 5, e1 => cases e1; cases o1
            | 6, e1 => cases e1; cases o1
            | (j + 7), e1 => simp at e1
        · intro j x p e1 o1
          exfalso
          match j, e1 with
          | 0, e1 => cases e1; cases o1
          | 1, e1 => cases e1; cases o1
          | 2, e1 => cases e1; cases o1
          | 3, e1 => cases e1; cases o1
          | 4, e1 => cases e1; cases o1
          | 5, e1 => cases e1; cases o1
          | 6, e1 => cases e1; cases o1
          | (j + 7), e1 => simp at e1
        · rw [r1]
          exact fun g2 H2 st2 w2 u _ ru => hq g2 H2 (st1.trans st2) w2 u ru
      | exc c t' =>
        have hq : PostQ X.K C E0 gg H Q (if al c = true then some (.ok (.tup [.str (nm c)]) t') else none) := hq
        have hc12 : al c = true := by
          cases z : al c with
          | true => rfl
          | false => rw [z] at hq; exact hq.elim
        rw [if_pos hc12] at hq
        refine ⟨fun cls d H' => cls = .ref (C.ex c) ∧ d = none ∧ ∃ g', Stp gg H g' H' ∧ Wf C g' H' t', fun cls d σ' H' ⟨ec, ed, g1, st1, w1⟩ => ?_, rfl, hc, htl _ _ ?_⟩
        · subst ec ed
          refine ⟨hex c hc12, rfl, fun a ha hlen => ⟨.ref a, ?_, ?_⟩⟩
          · rw [List.getElem?_set_self (by rw [hlen]; exact (by decide : (3 : Nat) < 7))]
          have st2 : Stp g1 H' g1 (upd H' a (ExK (.ref (C.ex c)) a)) := Stp.lay w1 ha
          have w2 : Wf C g1 (upd H' a (ExK (.ref (C.ex c)) a)) t' := Wf.lay w1 ha
          have hlen7 : σ'.length = 7 := hlen
          refine ⟨g1, _, g1, g1, [.un, .exn (C.ex c), .un, .un, .un, .un, .un], t', .refl _ _, .refl _, w2, ?_, ?_, ?_⟩
          · refine ⟨by rw [List.length_set, List.length_set, List.length_set]; exact hlen7, fun j x ej => ?_, fun j k p x y e1 e2 o1 => ?_⟩
            · match j, ej with
              | 0, ej => cases ej; trivial
              | 1, ej =>
                cases ej
                refine ⟨a, ?_, upd_same⟩
                rw [List.getElem?_set_ne (by decide), List.getElem?_set_self (by rw [List.length_set, hlen7]; decide)]
              | 2, ej => cases ej; trivial
              | 3, ej => cases ej; trivial
              | 4, ej => cases ej; trivial
              | 5, ej => cases ej; trivial
              | 6, ej => cases ej; trivial
              | (j + 7), ej => simp at ej
            · exfalso
              match j, e1 with
              | 0, e1 => cases e1; cases o1
              | 1, e1 => cases e1; cases o1
              | 2, e1 => cases e1; cases o1
              | 3, e1 => cases e1; cases o1
              | 4, e1 => cases e1; cases o1
              | 5, e1 => cases e1; cases o1
              | 6, e1 => cases e1; cases o1
              | (j + 7), e1 => simp at e1
          · intro j x p e1 o1
            exfalso
            match j, e1 with
            | 0, e1 => cases e1; cases o1
            | 1, e1 => cases e1; cases o1
            | 2, e1 => cases e1; cases o1
            | 3, e1 => cases e1; cases o1
            | 4, e1 => cases e1; cases o1
            | 5, e1 => cases e1; cases o1
            | 6, e1 => cases e1; cases o1
            | (j + 7), e1 => simp at e1
          · rw [r2 c hc12]
            exact fun g3 H3 st3 w3 u _ ru => hq g3 H3 ((st1.trans st2).trans st3) w3 u ru
        · rw [e]
          exact fun g1 H1 st1 w1 => ⟨rfl, rfl, g1, st1, w1⟩
/-- all but the tables stay -/
theorem Stp.extN {g : G} {H H1 : Hp} {t : Tn} (w : Wf C g H t) (e : LamX.ExtN H H1) (hT : LamX.Tabs C.T H1) : Stp g H g H1 ∧ Wf C g H1 t := by
  refine ⟨⟨fun _ _ h => h, fun _ h => h, fun h a b e => (by rw [h] at e; cases e), fun b o h _ n => e b o h n, fun b ⟨o, h, n⟩ => ⟨o, e b o h n, n⟩, fun _ _ => rfl⟩, ⟨fun b o h => e b o (w.fz b o h) fun ps z => w.nft b ps (by rw [h, z]), ?_, w.ntw, hT, w.nft⟩⟩
  cases t with
  | none => exact w.tw
  | some cr =>
    obtain ⟨a, b, e1, e2, e3, e4⟩ := w.tw
    exact ⟨a, b, e1, e2, e _ _ e3 (fun _ z => by cases z), e _ _ e4 (fun _ z => by cases z)⟩
/-- _law_result(lambda: e) -/
theorem ce_res {nm : Nat → Str} {al : Nat → Bool} {g c P : Addr} {k : Nat} {pg : Arguments} {bg : List Stmt} {sg : Scope} {dV kV doc pm cdv ct oc : Value} {an od : Option Addr} {osl : Array (Option Value)} {params : Arguments} {body : Expr} {scope : Scope} {fb : Ex} {p lpos pos : Pos}
    (hm : X.mg "_law_result" = some (.ref g)) (hk : PySem.W.keepIn X.K (.ref g) = true)
    (lk : X.K.lookup g = some ⟨oc, od, .func (PySem.W.fnOf "_law_result" "_law_result" pg bg sg dV kV doc pm an cdv ct), osl⟩) (hcg : PySem.W.codeIn X.K cdv "_law_result" = true) (hb : L2.Binds X.K (PySem.W.fnOf "_law_result" "_law_result" pg bg sg dV kV doc pm an cdv ct) ["call"] []) (Sg : FnScope ngR ["call"] sg) (hva : Vis sg "call")
    (hG : LamX.GivesTo X ngR "_law_result" sg g cdv bg "call" (X.env.qual ++ "<lambda>") (TTr X.K C nm al))
    (TB : LamX.TabB X.base X.mg c P) (hcode : X.env.code = .ref c) (hmT : (P, X.env.qual ++ "<lambda>") ∈ C.T) (hu : ∀ p ∈ C.T, p.1 = P → p.2 = X.env.qual ++ "<lambda>") (hr : Room (k + 2) X.A) (L : LamX.LamS X.env.scope scope)
    (hbody : ∀ (A : Around) (outer : List Env) (s : Shared) (H : Hp) (E : XK) (f c' : Addr), Room k (A.deeper (LamX.lamEnv X scope s.heap.objs.size f c')) → CE (LamX.lamCx X A outer s H E scope f c') C E body fb)
    (hg : Gl X "_law_result" := by rfl) (hdef : defaultsOf params X.env = ([], []) := by rfl)
    (hbind : ∀ (q : Str) (cl : List (Str × Addr)) (pm cv ctv : Value), bindArgs (PySem.W.kla_fn "<lambda>" q params body scope cl pm cv ctv) ⟨[], []⟩ = pure [] := by intros; rfl) :
    CE X C E (.Call (.Name "_law_result" p) [.Lambda params body scope lpos] [] pos) (eRes nm al fb) := by
  refine PE.imp (LamX.pe_lamcall (T := C.T) (TT := TTr X.K C nm al) (t := fun E => tE X.K C E fb) hg hm hk lk hcg hb Sg rfl hva hG TB hcode hmT hu hr L hdef hbind hbody) fun σ H Q ⟨gg, S, t, w, s, q⟩ => ?_
  refine ⟨w.tab, fun H1 e1 T1 => ?_⟩
  obtain ⟨st1, w1⟩ := Stp.extN w e1 T1
  refine ⟨gg, t, fb S, w1, fun H2 E' Q' st2 w2 h => ⟨gg, S, t, w2, (s.stp w st1).stp w1 st2, h⟩, ?_⟩
  have q := q.stp st1
  have q : PostQ X.K C E gg H1 Q (eResM nm al (fb S) t) := q
  unfold eResM at q ⊢
  cases z : fb S t with
  | none => rw [z] at q; exact q.elim
  | some o =>
    rw [z] at q
    cases o with
    | ok d t' => exact q
    | exc c' t' =>
      have q : PostQ X.K C E gg H1 Q (if al c' = true then some (.ok (.tup [.str (nm c')]) t') else none) := q
      show PostQ X.K C E0 gg H1 Q (if al c' = true then some (.ok (.tup [.str (nm c')]) t') else none)
      split
      · rename_i ha; rw [if_pos ha] at q; exact q
      · rename_i ha; rw [if_neg ha] at q; exact q.elim
end
end BG
set_option Elab.async false
set_option linter.all false
set_option maxRecDepth 100000
set_option maxHeartbeats 4000000
namespace BG
open PySem PySem.Spec PyProof.Rows L2
/-- THE RULE for a def whose code object is known -/
theorem fn_okL {P : Program} {w : World} {K : PySem.W.Frag} {mg : Str → Option Value} {base : Heap} {C : Cn} {x qual : Str} {st : Stmt} {f : Addr} {N ps : List Str} {k : Nat} {body : Stm} {kV doc pm cdv ct oc : Value} {an od : Option Addr} {osl : Array (Option Value)}
    (lk : K.lookup f = some ⟨oc, od, .func (PySem.W.fnOf x qual (defArgs st) (defBody st) (defScope st) .none kV doc pm an cdv ct), osl⟩) (hcd : PySem.W.codeIn K cdv qual = true) (S : FnScope N ps (defScope st))
    (hb : ∀ (A : Around) (outer : List Env) (s : Shared) (H : Hp) (E : XK), Room k (A.deeper (envOfC qual (defScope st) s.heap.objs.size f cdv)) →
      CSs (cxOf (L2.CX P w) P w K mg base N qual (defScope st) f cdv A outer s H E) C E (defBody st) body) : FnOk P w K mg base (L2.CX P w) (k + 1) f (PySem.W.fnOf x qual (defArgs st) (defBody st) (defScope st) .none kV doc pm an cdv ct) ps (spF K C ps.length (fnOf N.length body)) := by
  refine fn_of lk hcd S (fun vs H Q E ⟨g, ds, t, r, w, hl, p⟩ => hl) fun A outer s H vs Q E hr ⟨g, ds, t, r, w, hl, p⟩ => ⟨_, hb A outer s H E hr, ?_⟩
  refine ⟨g, H, g, g, _, t, .refl _ _, .refl _, w, SL.start r, OwnF.start, p.bnd0.imp fun fl t1 g1 H1 st1 w1 q => ?_⟩
  cases fl with
  | nx S' => exact fun _ _ _ _ => q g1 H1 st1 w1 _ .non
  | ret d => exact fun v _ r => q g1 H1 st1 w1 v r
/-- the law's own promise, with tables -/
def spLawT (K : PySem.W.Frag) (T : List (Addr × Str)) : Sp := fun vs H Q _ => ∃ (a : Addr) (ns : List Int), vs = [.ref a] ∧ SqL K H a (ns.map V.int) ∧ ns.length ≤ 63 ∧ LamX.Tabs T H ∧ ∀ H', Q (.bl true) H'
theorem law_impT {K : PySem.W.Frag} {C : Cn} {F : Fn} (h : ∀ ns : List Int, ns.length ≤ 63 → ∃ t', F [.scr ns] none = some (.ok (.bl true) t')) (vs : List V) (H : Hp) (Q : VK) (E : XK) (q : spLawT K C.T vs H Q E) : spF K C 1 F vs H Q E := by
  obtain ⟨a, ns, rfl, sq, hl, hT, q⟩ := q
  exact law_start hT sq (h ns hl) q
end BG
set_option Elab.async false
set_option linter.all false
set_option maxRecDepth 100000
set_option maxHeartbeats 1000000
namespace BG
open PySem L2
def resNm : Nat → Str
  | 0 => "gate" | 1 => "circuit" | 2 => "word" | 3 => "exchange" | 4 => "lines" | 5 => "kinds" | 6 => "function" | 7 => "answers" | 8 => "text" | 9 => "many" | 10 => "empty" | _ => "undo"
def bRes (K : PySem.W.Frag) (C : Cn) (exs : List Addr) : Stm :=
  sSeq (sIf (eNoE 1) (sRet (eTup [eC (.str "returns"), eVar 2])) sNil)
  (sSeq (sDic 4 [("gate", eIsE K exs 1 (.ref (C.ex 0))), ("circuit", eIsE K exs 1 (.ref (C.ex 1)))])
  (sSeq (sDUpd 4 [("word", eIsE K exs 1 (.ref (C.ex 2))), ("exchange", eIsE K exs 1 (.ref (C.ex 3)))])
  (sSeq (sDUpd 4 [("lines", eIsE K exs 1 (.ref (C.ex 4))), ("kinds", eIsE K exs 1 (.ref (C.ex 5)))])
  (sSeq (sDUpd 4 [("function", eIsE K exs 1 (.ref (C.ex 6))), ("answers", eIsE K exs 1 (.ref (C.ex 7)))])
  (sSeq (sDUpd 4 [("text", eIsE K exs 1 (.ref (C.ex 8))), ("many", eIsE K exs 1 (.ref (C.ex 9)))])
  (sSeq (sDUpd 4 [("empty", eIsE K exs 1 (.ref (C.ex 10))), ("undo", eIsE K exs 1 (.ref (C.ex 11)))])
  (sSeq (sFrzD 4 (sAsg 5 (eComp [6] (itDic 4) (gN 6) (eDIx 4 (eVar 6)) (eVar 6))))
  (sRet (eIf (eAnd (eBin pEq (eUn bLen (eVar 5)) (eC (.int 1))) (eIsE K exs 1 (.type "ValueError"))) (eTup [eBin pIdx (eVar 5) (eC (.int 0))]) (eTup [eC (.str "other error")]))))))))))
/-- the facts of the classes that may be raised -/
structure KitF (K : PySem.W.Frag) (C : Cn) (exs : List Addr) (c : Nat) : Prop where
  mem : C.ex c ∈ exs
  kit : ∀ c', c' < 12 → PySem.W.kitOne K (.ref (C.ex c)) (.ref (C.ex c')) = some (decide (c = c'))
  val : PySem.W.kitOne K (.ref (C.ex c)) (.type "ValueError") = some true
theorem bRes1 {K : PySem.W.Frag} {C : Cn} {exs : List Addr} (d : D) : bRes K C exs [.un, .val .non, .val d, .un, .un, .un, .un] = ret (.ret (.tup [.str "returns", d])) := rfl
theorem isE_eq {K : PySem.W.Frag} {C : Cn} {exs : List Addr} {c c' : Nat} {S : Sl} (F : KitF K C exs c) (h : c' < 12) (e : S[1]? = some (.exn (C.ex c))) : eIsE K exs 1 (.ref (C.ex c')) S = ret (.bl (decide (c = c'))) := by
  unfold eIsE
  rw [e]
  show (if C.ex c ∈ exs then _ else _) = _
  rw [if_pos F.mem, F.kit c' h]
theorem isV_eq {K : PySem.W.Frag} {C : Cn} {exs : List Addr} {c : Nat} {S : Sl} (F : KitF K C exs c) (e : S[1]? = some (.exn (C.ex c))) : eIsE K exs 1 (.type "ValueError") S = ret (.bl true) := by
  unfold eIsE
  rw [e]
  show (if C.ex c ∈ exs then _ else _) = _
  rw [if_pos F.mem, F.val]
theorem seq_step {a b : Stm} {S S' : Sl} (h : a S = ret (.nx S')) : sSeq a b S = b S' := by
  unfold sSeq; rw [h]; rfl
theorem evsK2 {x y : Str} {f f' : Ex} {S : Sl} {d d' : D} (h : f S = ret d) (h' : f' S = ret d') : evsK [(x, f), (y, f')] S = ret [(.inr x, d), (.inr y, d')] := by
  show bnd (f S) _ = _
  rw [h]
  show bnd (bnd (f' S) _) _ = _
  rw [h']; rfl
theorem dic_step {i : Nat} {x y : Str} {f f' : Ex} {S : Sl} {d d' : D} (h : f S = ret d) (h' : f' S = ret d') : sDic i [(x, f), (y, f')] S = ret (.nx (S.set i (.dic (dMerge [] [(.inr x, d), (.inr y, d')])))) := by
  unfold sDic; rw [evsK2 h h']; rfl
theorem upd_step {i : Nat} {x y : Str} {f f' : Ex} {S : Sl} {d d' : D} {ks : List (Key × D)} (e : S[i]? = some (.dic ks)) (hl : ks.length < 1000) (h : f S = ret d) (h' : f' S = ret d') : sDUpd i [(x, f), (y, f')] S = ret (.nx (S.set i (.dic (dMerge ks (dMerge [] [(.inr x, d), (.inr y, d')]))))) := by
  unfold sDUpd
  rw [e]
  show bnd (evsK _ S) _ = _
  rw [evsK2 h h']
  show (if ks.length < 1000 then ret (Fl.nx _) else stuck) = _
  rw [if_pos hl]
theorem bRes2 {K : PySem.W.Frag} {C : Cn} {exs : List Addr} {c : Nat} (hc : c < 12) (F : KitF K C exs c) : bRes K C exs [.un, .exn (C.ex c), .un, .un, .un, .un, .un] = ret (.ret (.tup [.str (resNm c)])) := by
  unfold bRes
  have h : ∀ c', c' < 12 → ∀ S : Sl, S[1]? = some (.exn (C.ex c)) → eIsE K exs 1 (.ref (C.ex c')) S = ret (.bl (decide (c = c'))) := fun c' h S e => isE_eq F h e
  have hv : ∀ S : Sl, S[1]? = some (.exn (C.ex c)) → eIsE K exs 1 (.type "ValueError") S = ret (.bl true) := fun S e => isV_eq F e
  rw [seq_step (S' := [.un, .exn (C.ex c), .un, .un, .un, .un, .un]) rfl]
  rw [seq_step (S' := [.un, .exn (C.ex c), .un, .un, .dic [(Sum.inr "gate", .bl (decide (c = 0))), (Sum.inr "circuit", .bl (decide (c = 1)))], .un, .un]) ((dic_step (h 0 (by decide) _ rfl) (h 1 (by decide) _ rfl)).trans (by with_unfolding_all rfl))]
  rw [seq_step (S' := [.un, .exn (C.ex c), .un, .un, .dic [(Sum.inr "gate", .bl (decide (c = 0))), (Sum.inr "circuit", .bl (decide (c = 1))), (Sum.inr "word", .bl (decide (c = 2))), (Sum.inr "exchange", .bl (decide (c = 3)))], .un, .un]) ((upd_step rfl (by simp only [List.length_cons, List.length_nil]; decide) (h 2 (by decide) _ rfl) (h 3 (by decide) _ rfl)).trans (by with_unfolding_all rfl))]
  rw [seq_step (S' := [.un, .exn (C.ex c), .un, .un, .dic [(Sum.inr "gate", .bl (decide (c = 0))), (Sum.inr "circuit", .bl (decide (c = 1))), (Sum.inr "word", .bl (decide (c = 2))), (Sum.inr "exchange", .bl (decide (c = 3))), (Sum.inr "lines", .bl (decide (c = 4))), (Sum.inr "kinds", .bl (decide (c = 5)))], .un, .un]) ((upd_step rfl (by simp only [List.length_cons, List.length_nil]; decide) (h 4 (by decide) _ rfl) (h 5 (by decide) _ rfl)).trans (by with_unfolding_all rfl))]
  rw [seq_step (S' := [.un, .exn (C.ex c), .un, .un, .dic [(Sum.inr "gate", .bl (decide (c = 0))), (Sum.inr "circuit", .bl (decide (c = 1))), (Sum.inr "word", .bl (decide (c = 2))), (Sum.inr "exchange", .bl (decide (c = 3))), (Sum.inr "lines", .bl (decide (c = 4))), (Sum.inr "kinds", .bl (decide (c = 5))), (Sum.inr "function", .bl (decide (c = 6))), (Sum.inr "answers", .bl (decide (c = 7)))], .un, .un]) ((upd_step rfl (by simp only [List.length_cons, List.length_nil]; decide) (h 6 (by decide) _ rfl) (h 7 (by decide) _ rfl)).trans (by with_unfolding_all rfl))]
  rw [seq_step (S' := [.un, .exn (C.ex c), .un, .un, .dic [(Sum.inr "gate", .bl (decide (c = 0))), (Sum.inr "circuit", .bl (decide (c = 1))), (Sum.inr "word", .bl (decide (c = 2))), (Sum.inr "exchange", .bl (decide (c = 3))), (Sum.inr "lines", .bl (decide (c = 4))), (Sum.inr "kinds", .bl (decide (c = 5))), (Sum.inr "function", .bl (decide (c = 6))), (Sum.inr "answers", .bl (decide (c = 7))), (Sum.inr "text", .bl (decide (c = 8))), (Sum.inr "many", .bl (decide (c = 9)))], .un, .un]) ((upd_step rfl (by simp only [List.length_cons, List.length_nil]; decide) (h 8 (by decide) _ rfl) (h 9 (by decide) _ rfl)).trans (by with_unfolding_all rfl))]
  rw [seq_step (S' := [.un, .exn (C.ex c), .un, .un, .dic [(Sum.inr "gate", .bl (decide (c = 0))), (Sum.inr "circuit", .bl (decide (c = 1))), (Sum.inr "word", .bl (decide (c = 2))), (Sum.inr "exchange", .bl (decide (c = 3))), (Sum.inr "lines", .bl (decide (c = 4))), (Sum.inr "kinds", .bl (decide (c = 5))), (Sum.inr "function", .bl (decide (c = 6))), (Sum.inr "answers", .bl (decide (c = 7))), (Sum.inr "text", .bl (decide (c = 8))), (Sum.inr "many", .bl (decide (c = 9))), (Sum.inr "empty", .bl (decide (c = 10))), (Sum.inr "undo", .bl (decide (c = 11)))], .un, .un]) ((upd_step rfl (by simp only [List.length_cons, List.length_nil]; decide) (h 10 (by decide) _ rfl) (h 11 (by decide) _ rfl)).trans (by with_unfolding_all rfl))]
  have key : ∀ c, c < 12 → ∀ a : Addr, (sFrzD 4 (sAsg 5 (eComp [6] (itDic 4) (gN 6) (eDIx 4 (eVar 6)) (eVar 6)))) [.un, .exn a, .un, .un, .dic [(Sum.inr "gate", .bl (decide (c = 0))), (Sum.inr "circuit", .bl (decide (c = 1))), (Sum.inr "word", .bl (decide (c = 2))), (Sum.inr "exchange", .bl (decide (c = 3))), (Sum.inr "lines", .bl (decide (c = 4))), (Sum.inr "kinds", .bl (decide (c = 5))), (Sum.inr "function", .bl (decide (c = 6))), (Sum.inr "answers", .bl (decide (c = 7))), (Sum.inr "text", .bl (decide (c = 8))), (Sum.inr "many", .bl (decide (c = 9))), (Sum.inr "empty", .bl (decide (c = 10))), (Sum.inr "undo", .bl (decide (c = 11)))], .un, .un] = ret (.nx [.un, .exn a, .un, .un, .val (.dct [Sum.inr "gate", Sum.inr "circuit", Sum.inr "word", Sum.inr "exchange", Sum.inr "lines", Sum.inr "kinds", Sum.inr "function", Sum.inr "answers", Sum.inr "text", Sum.inr "many", Sum.inr "empty", Sum.inr "undo"] [.bl (decide (c = 0)), .bl (decide (c = 1)), .bl (decide (c = 2)), .bl (decide (c = 3)), .bl (decide (c = 4)), .bl (decide (c = 5)), .bl (decide (c = 6)), .bl (decide (c = 7)), .bl (decide (c = 8)), .bl (decide (c = 9)), .bl (decide (c = 10)), .bl (decide (c = 11))]), .val (.lst [.str (resNm c)]), .un]) := by
    intro c hc a
    match c, hc with
    | 0, _ => with_unfolding_all rfl
    | 1, _ => with_unfolding_all rfl
    | 2, _ => with_unfolding_all rfl
    | 3, _ => with_unfolding_all rfl
    | 4, _ => with_unfolding_all rfl
    | 5, _ => with_unfolding_all rfl
    | 6, _ => with_unfolding_all rfl
    | 7, _ => with_unfolding_all rfl
    | 8, _ => with_unfolding_all rfl
    | 9, _ => with_unfolding_all rfl
    | 10, _ => with_unfolding_all rfl
    | 11, _ => with_unfolding_all rfl
    | n + 12, h => omega
  rw [seq_step (key c hc _)]
  have cond : ∀ (S : Sl), S[1]? = some (.exn (C.ex c)) → S[5]? = some (.val (.lst [.str (resNm c)])) → eAnd (eBin pEq (eUn bLen (eVar 5)) (eC (.int 1))) (eIsE K exs 1 (.type "ValueError")) S = ret (.bl true) := fun S e1 e5 => by
    have e : eBin pEq (eUn bLen (eVar 5)) (eC (.int 1)) S = ret (.bl true) := by
      unfold eBin eUn eVar; rw [e5]; rfl
    unfold eAnd
    rw [e]
    exact hv S e1
  unfold sRet eIf
  rw [cond _ rfl rfl]
  rfl
end BG
set_option Elab.async false
set_option linter.all false
set_option maxRecDepth 100000
set_option maxHeartbeats 4000000
namespace BG
open PySem PySem.Spec PyProof.Rows L2
/-- all that is asked of the exception classes -/
def excOk (K : PySem.W.Frag) (GE : Addr) (ex : Nat → Addr) : Bool :=
  decide (PySem.W.specialIn K (.builtin "object.__class__") "__get__" = some (some (.builtin "getset_descriptor.__get__"))) && (decide (PySem.W.takesIn K (.builtin "object.__class__") = some true) &&
  (List.range 12).all fun c => (PySem.W.clsIn K (ex c)).isSome && (decide (PySem.W.findIn K (.ref (ex c)) "__getattribute__" = some (some (.builtin "BaseException.__getattribute__"))) &&
    ((PySem.W.findIn K (.ref (ex c)) "__getattr__").isSome && (decide (PySem.W.subIn K (.ref (ex c)) (.type "BaseException") = some true) && (decide (PySem.W.findIn K (.ref (ex c)) "__class__" = some (some (.builtin "object.__class__"))) &&
    (decide (PySem.W.mroIn K (ex c) (.type "object") = some true) && (decide (PySem.W.kitOne K (.ref (ex c)) (.type "ValueError") = some true) && (decide (PySem.W.exmOne K (.ref (ex c)) (.ref GE) = some true) &&
    (List.range 12).all fun c' => decide (PySem.W.kitOne K (.ref (ex c)) (.ref (ex c')) = some (decide (c = c')))))))))))
def exs12 (ex : Nat → Addr) : List Addr := (List.range 12).map ex
def al12 (c : Nat) : Bool := decide (c < 12)
structure ExcAll (K : PySem.W.Frag) (GE : Addr) (C : Cn) : Prop where
  F : ∀ c ∈ exs12 C.ex, ExcF K c
  kit : ∀ c, c < 12 → KitF K C (exs12 C.ex) c
  exm : ∀ c, al12 c = true → PySem.W.exmOne K (.ref (C.ex c)) (.ref GE) = some true
theorem excOk_all {K : PySem.W.Frag} {GE : Addr} {C : Cn} (h : excOk K GE C.ex = true) : ExcAll K GE C := by
  unfold excOk at h
  simp only [Bool.and_eq_true, decide_eq_true_eq, List.all_eq_true, List.mem_range] at h
  obtain ⟨g1, g2, g3⟩ := h
  refine ⟨fun c hc => ?_, fun c hc => ?_, fun c hc => ?_⟩
  · obtain ⟨i, hi, rfl⟩ := List.mem_map.mp hc
    obtain ⟨h1, h2, h3, h4, h5, h6, h7, h8, h9⟩ := g3 i (List.mem_range.mp hi)
    exact ⟨h1, h2, Option.isSome_iff_exists.mp h3, h4, h5, g1, g2, h6⟩
  · obtain ⟨h1, h2, h3, h4, h5, h6, h7, h8, h9⟩ := g3 c hc
    exact ⟨List.mem_map.mpr ⟨c, List.mem_range.mpr hc, rfl⟩, fun c' hc' => h9 c' hc', h7⟩
  · obtain ⟨h1, h2, h3, h4, h5, h6, h7, h8, h9⟩ := g3 c (of_decide_eq_true hc)
    exact h8
/-- a def that makes lambdas: its code object, its table -/
structure LamD (base : Heap) (mg : Str → Option Value) (C : Cn) (x : Str) (c : Addr) : Prop where
  ex : ∃ P, LamX.TabB base mg c P ∧ (P, x ++ ".<locals>." ++ "<lambda>") ∈ C.T ∧ ∀ p ∈ C.T, p.1 = P → p.2 = x ++ ".<locals>." ++ "<lambda>"
theorem passM {X : Cx} {A : Around} {outer : List Env} {s : Shared} {H : Hp} {E : XK} {scope : Scope} {f c' : Addr} : Passes (L2.CX (LamX.lamCx X A outer s H E scope f c').prog (LamX.lamCx X A outer s H E scope f c').w) (LamX.lamCx X A outer s H E scope f c') E := passes_call (X := LamX.lamCx X A outer s H E scope f c') (W := fun cls d _ H => E cls d H) (takes_of rfl rfl rfl rfl) fun _ _ _ _ h => h
theorem tabIn_of {K : PySem.W.Frag} {x : Str} {f c P : Addr} {oc oc' : Value} {od od' : Option Addr} {fd : FuncData} {vs : Array Value} {sl sl' : Array (Option Value)} (h1 : PySem.W.nsIn K mainGlobals x = some (some (.ref f))) (h2 : K.lookup f = some ⟨oc, od, .func fd, sl⟩) (h3 : fd.code = .ref c) (h4 : K.lookup c = some ⟨oc', od', .fields vs, sl'⟩) (h5 : vs[11]? = some (.ref P)) : PySem.W.tabIn K x = some (c, P) := by
  unfold PySem.W.tabIn
  rw [h1]
  simp only [h2, h3, h4, h5]
theorem walk_ofTab {l : PySem.W.OpenLaw} {n k : Nat} {q : Program} {loose : List Str} {XP : (Str → Option Value) → Heap → Prop} {YP : World → Heap → Prop} {d : DefRec} {K : Params → PySem.W.Frag} {CX : World → CXT} {x : Str}
    (hn : l.most = some n) (hn2 : n ≤ sizeLine) (hdf : d.params.defaults = []) (hr : Room k callerA) (hY : ∀ (w : World) (h : Heap), YP w h → (K w.params).In h)
    (F : ∀ (w : World) (mg : Str → Option Value) (fa : Addr) (h : Heap), YP w h → (K w.params).In h → h.Ns mainGlobals mg → mg d.name = some (.ref fa) →
      (∀ (x : Str) (c P : Addr), ((recsOf q).find? fun e => e.name == x).isSome = true → PySem.W.tabIn (K w.params) x = some (c, P) → PySem.W.CodeHd h c P ∧ h.get? P = some (PySem.W.tabObj #[])) → LamX.LawAtS l w (K w.params) (CX w) k n x mg fa h)
    (hCX : ∀ (w : World) (H : Hp) (s : Shared) (e : Value) (s' : Shared), CX w [] H s (fun _ _ _ => False) e s' → False) :
    PySem.W.WalkO q loose XP YP l.row.toRowW d [] (fun f vs => PySem.call f vs) := by
  refine Att.attach_callB hn hdf fun w s₀ s₁ mg mb fa o pm cd doc a vs ns G Y ho hd hcd hmg hobj hints hlen hbits hg => ?_
  have KX := hY w _ Y
  obtain ⟨fd, cs, sp, hT, nT, C, hb, hsp, hF⟩ := F w mg fa _ Y KX G.T.g hmg fun x c P h1 h2 => by
    obtain ⟨d', hd'⟩ := Option.isSome_iff_exists.mp h1
    exact PySem.W.tab_of G.T KX hd' h2
  exact LamX.law_callTs KX G.T.g G.T.b G.T.builtins G.T.nolimit hg hT nT C G.T.bmain hobj hints (Nat.le_trans hlen hn2) hr hF hb (fun H hH hS => hsp H a ns hlen hbits hH hS) fun H e s' => hCX w H s₁ e s'
end BG
set_option Elab.async false
set_option linter.all false
set_option maxRecDepth 100000
set_option maxHeartbeats 4000000
namespace BG
open PySem PySem.Spec PyProof.Rows L2
abbrev Tq := D → Sl → M Sl
/-- what follows a store -/
def Rg (K : PySem.W.Frag) (H0 : Hp) (gs : G) (Q : L2.St → Hp → Prop) : Sl → Tn → G → Hp → Prop := fun S' _ g' H' => ∀ σ', Gw gs g' → SL K g' H' σ' S' → OwnF H0 σ' S' → Q σ' H'
def tGS (K : PySem.W.Frag) (C : Cn) (E : XK) (f : Tq) : TG := fun v σ H Q => ∃ g0 H0 gs g S t d, Stp g0 H0 g H ∧ Gw gs g ∧ Wf C g H t ∧ SL K g H σ S ∧ OwnF H0 σ S ∧ Rp K g v d ∧ Post C E g0 H0 (Rg K H0 gs Q) (f d S t)
def tGq (K : PySem.W.Frag) (C : Cn) (E : XK) (f : List D → Sl → M Sl) : TGs := fun vs σ H Q => ∃ g0 H0 gs g S t ds, Stp g0 H0 g H ∧ Gw gs g ∧ Wf C g H t ∧ SL K g H σ S ∧ OwnF H0 σ S ∧ RpA K g vs ds ∧ Post C E g0 H0 (Rg K H0 gs Q) (f ds S t)
abbrev CGS (X : Cx) (C : Cn) (E : XK) (tg : Expr) (f : Tq) : Prop := PG X tg (tGS X.K C E f)
abbrev CGq (X : Cx) (C : Cn) (E : XK) (tg : List Expr) (f : List D → Sl → M Sl) : Prop := PGs X tg (tGq X.K C E f)
theorem PGs.imp {X : Cx} {e : List Expr} {t t' : TGs} (h : PGs X e t) (f : ∀ v σ H Q, t' v σ H Q → t v σ H Q) : PGs X e t' := ⟨fun pins s σ H v u Q I r q => h.run pins s σ H v u Q I r (f v σ H Q q)⟩
def gsNil : List D → Sl → M Sl := fun ds S => match ds with
  | [] => ret S
  | _ => stuck
def gsCons (f : Tq) (fs : List D → Sl → M Sl) : List D → Sl → M Sl := fun ds S => match ds with
  | d :: r => bnd (f d S) fun S' => fs r S'
  | [] => stuck
def gsTup (n : Nat) (fs : List D → Sl → M Sl) : Tq := fun d S => match d with
  | .tup ds => if ds.length = n then fs ds S else stuck
  | _ => stuck
/-- x[k] = ., x a list of one's own -/
def gsPut (i : Nat) (k : Ex) : Tq := fun d S => match S[i]? with
  | some (.own ds) => bnd (k S) fun n => match n with
    | .int n => match ixN ds.length n with
      | some j => ret (S.set i (.own (ds.set j d)))
      | none => stuck
    | _ => stuck
  | _ => stuck
def sAsgS (f : Tq) (e : Ex) : Stm := fun S => bnd (e S) fun d => bnd (f d S) fun S' => ret (.nx S')
section
variable {X : Cx} {C : Cn} {E : XK}
theorem cgq_nil : CGq X C E [] gsNil := PGs.imp pgs_nil fun vs σ H Q ⟨g0, H0, gs, g, S, t, ds, st, gr, w, s, o, r, p⟩ => by
  cases r with
  | nil => exact ⟨rfl, p g H st w σ gr s o⟩
  | cons a b => exact p.elim
theorem cgq_cons {e : Expr} {es : List Expr} {f : Tq} {fs : List D → Sl → M Sl} (h1 : CGS X C E e f) (h2 : CGq X C E es fs) (hs : (assignEach (e :: es) X.env).map (·.2) = assign e X.env :: (assignEach es X.env).map (·.2) := by rfl) : CGq X C E (e :: es) (gsCons f fs) :=
  PGs.imp (pgs_cons h1 h2 hs) fun vs σ H Q ⟨g0, H0, gs, g, S, t, ds, st, gr, w, s, o, r, p⟩ => by
    cases r with
    | nil => exact p.elim
    | @cons v vs d ds ra rb =>
      refine ⟨v, vs, rfl, g0, H0, g, g, S, t, d, st, .refl g, w, s, o, ra, ?_⟩
      have p : Post C E g0 H0 (Rg X.K H0 gs Q) (bnd (f d S) (fun S' => fs ds S') t) := p
      exact p.bnd0.imp fun S1 t1 g1 H1 st1 w1 q σ1 gw1 s1 o1 => ⟨g0, H0, gs, g1, S1, t1, ds, st1, gr.trans gw1, w1, s1, o1, rb.mono gw1.fz gw1.tw, q⟩
theorem cgs_tup {es : List Expr} {k n : Nat} {pos : Pos} {fs : List D → Sl → M Sl} (h : CGq X C E es fs) (hc : X.calm = true := by rfl) (hn : (assignEach es X.env).length = n := by rfl) (hst : (assignEach es X.env).findIdx? (·.1) = none := by rfl) : CGS X C E (.Tuple es k pos) (gsTup n fs) :=
  PG.imp (pg_tup hc h hn hst) fun v σ H Q ⟨g0, H0, gs, g, S, t, d, st, gr, w, s, o, r, p⟩ => by
    unfold gsTup at p
    cases d with
    | tup ds =>
      have p : Post C E g0 H0 (Rg X.K H0 gs Q) ((if ds.length = n then fs ds S else stuck) t) := p
      split at p
      · rename_i hl
        cases r with
        | tup sq ra => exact ⟨_, _, rfl, Same.tseq w.fz sq, by rw [ra.length]; exact hl, g0, H0, gs, g, S, t, ds, st, gr, w, s, o, ra, p⟩
      · exact p.elim
    | _ => exact p.elim
theorem cgs_put (i : Nat) {x : Str} {k : Expr} {fk : Ex} {p1 pos' : Pos} (hk : CE X C E k fk) (hN : X.N[i]? = some x := by rfl) (hv : Vis X.env.scope x := by first | exact Or.inl rfl | exact Or.inr (Or.inl rfl) | exact Or.inr (Or.inr rfl)) (hd : (x == ("__debug__" : Str)) = false := by decide)
    (hcd : (x == ("__classdict__" : Str)) = false := by decide)
    (ha : ∀ v, assign (.Subscript (.Name x p1) k pos') X.env v = (do
      let ov ← holding [v] (eval (.Name x p1) X.env)
      let iv ← holding [v, ov] (eval k X.env)
      standAt pos'
      holding [v, ov, iv] (setItem ov iv v)
      release [v, ov, iv] []) := by intro _; rfl) : CGS X C E (.Subscript (.Name x p1) k pos') (gsPut i fk) :=
  PG.imp (pg_sub (pe_var hN hv hd hcd) hk set_list ha) fun v σ H Q ⟨g0, H0, gs, g, S, t, d, st, gr, w, s, o, r, p⟩ => by
    unfold gsPut at p
    cases e : S[i]? with
    | none => rw [e] at p; exact p.elim
    | some sv =>
      rw [e] at p
      cases sv with
      | own ds =>
        obtain ⟨a, vs, h1, h2, h3, h4⟩ := s.own i ds e
        refine ⟨_, h1, g, S, t, w, s, ?_⟩
        refine Post.all p.bnd0 st fun n t2 g2 H2 er st2 w2 q2 u ru => ?_
        have q2 := q2 g2 H2 (st.trans st2) w2
        cases n with
        | int n =>
          have q2 : Post C E g0 H0 (Rg X.K H0 gs Q) ((match ixN ds.length n with | some j => ret (S.set i (.own (ds.set j d))) | none => stuck) t2) := q2
          cases z : ixN ds.length n with
          | none => rw [z] at q2; exact q2.elim
          | some j =>
            rw [z] at q2
            cases ru
            have s2 := s.stp w st2
            obtain ⟨a', vs', k1, k2, k3, k4⟩ := s2.own i ds e
            rw [h1] at k1
            cases k1
            refine ⟨a, vs', n, j, rfl, rfl, k2, by rw [k3.length]; exact z, ?_⟩
            exact q2 g2 _ ((st.trans st2).updO (o i _ a e rfl h1)) (w2.updL k2 k4) _ (gr.trans st2.gw) (s2.updO e h1 (RpA.set (r.stp st2) j k3)) (o.updO e)
        | _ => exact q2.elim
      | _ => exact p.elim
theorem cs_asgS {tg e : Expr} {f : Ex} {ft : Tq} {pos : Pos} (he : CE X C E e f) (hg : CGS X C E tg ft) (hs : swapsWithSole [tg] e pos.line X.env = pure false := by rfl) (hw : swappedStores [tg] e X.env = pure none := by rfl)
    (h1 : (assignEach [tg] X.env).map (·.2) = [assign tg X.env] := by rfl) : CS X C E (.Assign [tg] e pos) (sAsgS ft f) :=
  PS.imp (ps_asg he hg hs hw h1) fun De σ H ⟨g0, H0, gs, g, S, t, st, gr, w, s, o, p⟩ => tS.ex st gr w s p fun d t1 g1 H1 v st1 st01 gr1 w1 s1 r q =>
    ⟨g0, H0, gs, g1, S, t1, d, st01, gr1, w1, s1, o, r, q.bnd0.imp fun S' t2 g2 H2 st2 w2 q2 σ' gw s' o' => q2 g2 H2 st2 w2 σ' gw s' o'⟩
end
end BG
set_option Elab.async false
set_option linter.all false
set_option maxRecDepth 100000
set_option maxHeartbeats 4000000
namespace BG
open PySem PySem.Spec PyProof.Rows L2
open AutoSeq1 (wpAny_loadPart')
theorem meets_enumerate_newT (l : Addr) (items : Array Value) (n : Nat) (dct : Option Addr) (sl : Array (Option Value)) :
    Meets (Builtin.«enumerate.__new__» ⟨[.type "enumerate", .ref l], []⟩) (fun _ R s => s.heap.get? l = some { cls := .type "tuple", dict := dct, data := .seq items n, slots := sl } ∧
      R (.ok (.ret (.ref (s.heap.push { cls := .type "tuple_iterator", data := .fields #[.ref l, .int 0 0] }).objs.size)))
        { s with heap := (s.heap.push { cls := .type "tuple_iterator", data := .fields #[.ref l, .int 0 0] }).push { cls := .type "enumerate", data := .fields #[.none, .bool false, .ref s.heap.objs.size, rawInt 0, .none, .none] } }) :=
  .of_wp fun prog w A R s h => by
    obtain ⟨hp, g, d, tk, os⟩ := s
    obtain ⟨hl, h⟩ := h
    have hsub := sub_enumerate
    have hL : Heap.IsTuple (Shared.heap ⟨hp, g, d, tk, os⟩) l items := ⟨_, hl, rfl, n, rfl⟩
    wp_walk using wpAny_loadPart' hl
    refine wpAny_stack_any fun st => wpAny_pure ?_
    split
    · rename_i c _ _ _ _ _
      cases (c == Value.type "enumerate")
      · wp_walk using wpAny_loadPart' hl, wpAny_pyIter_tuple hL
        exact ⟨_, rfl, h⟩
      · wp_walk using wpAny_loadPart' hl, wpAny_pyIter_tuple hL
        exact ⟨_, rfl, h⟩
    · wp_walk using wpAny_loadPart' hl, wpAny_pyIter_tuple hL
      exact ⟨_, rfl, h⟩
section
variable {prog : Program} {w : World} {A : Around} {E : Value → Shared → Prop} {s : Shared}
theorem call_enumerate_tup {l : Addr} {items : Array Value} {Q : Value → Shared → Prop} (hL : s.heap.IsTuple l items)
    (h : ∀ h', IsEnum h' (s.heap.objs.size + 1) s.heap.objs.size 0 .none → h'.IsTupleIter s.heap.objs.size l 0 → h'.objs.size = s.heap.objs.size + 2 →
      (∀ b o, s.heap.get? b = some o → h'.get? b = some o) → Q (.ref (s.heap.objs.size + 1)) { s with heap := h' }) :
    wpAny (model prog w) A (call (.type "enumerate") [.ref l]) Q E s := by
  obtain ⟨⟨c, dct, dt, sl⟩, hl, hc, n, hd⟩ := hL
  replace hc : c = .type "tuple" := hc
  replace hd : dt = .seq items n := hd
  subst hc hd
  refine callType_new F.called_enumerate (by decide) (F.typeCall_enumerate_1 _) (F.newCall_enumerate_1 _) (fun obj => F.args_object_init_2 obj _) F.entry_enumerate_new
    (meets_enumerate_newT l items n dct sl) ⟨hl, ?_⟩
  have hz : (s.heap.push { cls := .type "tuple_iterator", data := .fields #[.ref l, .int 0 0] }).objs.size = s.heap.objs.size + 1 := Heap.size_push ..
  show _ ∧ _
  rw [hz]
  have he : IsEnum ((s.heap.push { cls := .type "tuple_iterator", data := .fields #[.ref l, .int 0 0] }).push
      { cls := .type "enumerate", data := .fields #[.none, .bool false, .ref s.heap.objs.size, rawInt 0, .none, .none] }) (s.heap.objs.size + 1) s.heap.objs.size 0 .none := by
    have := Heap.get?_push_size (s.heap.push { cls := .type "tuple_iterator", data := .fields #[.ref l, .int 0 0] })
      (o := { cls := .type "enumerate", data := .fields #[.none, .bool false, .ref s.heap.objs.size, rawInt 0, .none, .none] }) rfl
    rw [hz] at this; exact this
  refine ⟨⟨_, he, rfl⟩, h _ he ⟨_, Heap.get?_push_of_some _ (Heap.get?_push_size _ rfl), rfl, rfl⟩ (by rw [Heap.size_push, hz]) fun b o x => Heap.get?_push_of_some _ (Heap.get?_push_of_some _ x)⟩
end
/-- the tuple at a, each item in a new pair -/
def IteT (K : PySem.W.Frag) (a : Addr) : It :=
  ⟨fun i H => ∃ (xs : List V) (x : V), SqT K H a xs ∧ xs[i]? = some x, fun i H v H' => ∃ T x, v = .ref T ∧ H T = none ∧ H' = upd H T (.tup [.int (i : Nat), x]) ∧ ∀ xs, SqT K H a xs → xs[i]? = some x, fun i H => ∃ xs : List V, SqT K H a xs ∧ xs.length ≤ i⟩
theorem turn_enumT {P : Program} {w : World} {K : PySem.W.Frag} {elts : List Expr} {kk : Nat} {tpos : Pos} (a e it : Addr) (hai : a ≠ it) (hea : e ≠ a) :
    Turn P w K (.Tuple elts kk tpos) (IteT K a) [e, it] e (fun i h => (∃ old, IsEnum h e it ((i : Nat) : Int) old) ∧ h.IsTupleIter it a i ∧ e ≠ it) where
  mem := by simp
  obj := fun i h st b hb => by
    obtain ⟨⟨old, he⟩, ⟨o, ho, hc, hd⟩, _⟩ := st
    have e' : b = e ∨ b = it := by simpa using hb
    rcases e' with z | z
    · rw [z]; exact ⟨_, he, fun v q => nomatch q⟩
    · rw [z]; exact ⟨o, ho, fun v q => by rw [hd] at q; cases q⟩
  keep := fun i h h' st k => let ⟨⟨old, he⟩, hi, hne⟩ := st; ⟨⟨old, k e (by simp) _ he⟩, hi.at fun o q => k it (by simp) o q, hne⟩
  item := by
    intro X hP hw hK hc i pins s σ H E I hf st hg
    subst hP hw hK
    obtain ⟨⟨old, he⟩, hit, hne⟩ := st
    obtain ⟨xs, x, hq, hx⟩ := hg
    obtain ⟨its, rv, p, hz⟩ := I.tuple hq
    obtain ⟨u, hu, ru⟩ := rv.get hx
    have hel : e < s.heap.objs.size := Heap.lt_size he
    have hil : it < s.heap.objs.size := by obtain ⟨_, q, _⟩ := hit; exact Heap.lt_size q
    have hlt : i < its.toArray.size := by
      have := (List.getElem?_eq_some_iff.mp hu).1
      simpa using this
    refine wpAny_pyNext_enum_itemD (Draws.tuple (A := X.A.in1) (show X.A.in1.handled = none from I.ok.hd hc) it a hai its.toArray) he ⟨hit, p⟩ hlt hne (by simp [hne, hea]) fun x' h' tk hx' ho hst' hT hsz hk => ?_
    have exu : x' = u := by
      have hx' : its.toArray[i]? = some x' := hx'
      rw [List.getElem?_toArray, hu] at hx'
      exact (Option.some.inj hx').symm
    subst exu
    refine ⟨_, rfl, wpAny_letOwnedTupleGo_enum (s := { s with heap := h', toks := tk + 1 }) ho fun h'' he' sb => ?_⟩
    have hT2 : h''.get? s.heap.objs.size = some { cls := .type "tuple", data := .seq #[.int i tk, x'] } := (sb.2 _ (Nat.ne_of_gt hel)).trans hT
    have new : ObjOk X.prog X.w (upd H s.heap.objs.size (.tup [.int (i : Nat), x])) h'' s.heap.objs.size (.tup [.int (i : Nat), x]) :=
      ⟨by show 2 ≤ sizeLine; decide, [.int i tk, x'], .cons ⟨_, rfl⟩ (.cons ru .nil), ⟨_, hT2, rfl, _, rfl⟩⟩
    have I1 : Inv X pins σ (upd H s.heap.objs.size (.tup [.int (i : Nat), x])) { s with heap := h'', toks := tk + 1 } :=
      I.turnedNew (ch := [e, it]) (fun b ob hb q => (sb.2 b (fun z => hb (by simp [z]))).trans (hk b ob (fun z => hb (by simp [z])) (fun z => hb (by simp [z])) q)) hf (Nat.le_refl _) new
    refine ⟨.ref s.heap.objs.size, _, I1, rfl, ⟨_, x, rfl, I.hok.fresh (Nat.le_refl _), rfl, fun ys hy => by rw [I.tuple_inj hy hq]; exact hx⟩, ⟨⟨x', ?_⟩, hst'.1.at fun o q => (sb.2 it (Ne.symm hne)).trans q, hne⟩, fun b hb => ?_⟩
    · have e1 : ((i + 1 : Nat) : Int) = (i : Int) + 1 := by omega
      rw [e1]; exact he'
    · have hb' : b < s.heap.objs.size := by
        have e' : b = e ∨ b = it := by simpa using hb
        rcases e' with z | z
        · rw [z]; exact hel
        · rw [z]; exact hil
      rw [upd_ne (Nat.ne_of_lt hb')]
      exact (hf b hb).1
  done := by
    intro X hP hw hK hc i pins s σ H E I hf st hg
    subst hP hw hK
    obtain ⟨⟨old, he⟩, hit, hne⟩ := st
    obtain ⟨xs, hq, hx⟩ := hg
    obtain ⟨its, rv, p, hz⟩ := I.tuple hq
    obtain ⟨f0, f1, f2, f3, f4, f5⟩ := hf it (by simp)
    have hl := rv.length
    have hT : s.TypeIs (.ref e) "enumerate" := ⟨_, he, rfl⟩
    unfold pyNext
    refine wpAny_bind (wpAny_attempt (wpAny_callSpecial?_slot (name := Str.ofString "__next__") hT F.slot_enumerate_next
      (wpAny_call_entry F.slot_enumerate_next hT F.entry_enumerate_next ?_ (F.args_enumerate_next_1 _))))
    show wpAny _ _ (field (.ref e) 2 >>= _) _ _ _
    refine wpAny_bind (wpAny_field he rfl (x := .ref it) rfl ?_)
    refine wpAny_bind (wpAny_nextOf_tuple_end (I.ok.hd hc) hit p (by simp; omega) fun h' x he' hx' => ?_)
    obtain ⟨o, ho, hc⟩ := hx'
    refine wpAny_bind (wpAny_isInstance (T := "StopIteration") (b := true) ⟨o, ho, hc⟩ isSubtype_stop ?_)
    exact wpAny_pure ⟨rfl, I.turned (t' := s.toks) (fun b o hb q => he' b o hb q) f0 f1 f3 f4 f5⟩
  self := fun A i s Q E st h => let ⟨⟨_, he⟩, _⟩ := st; wpAny_pyIter_enum he h
def iEnumT (K : PySem.W.Frag) (ta : TA) : TI := fun σ H R => ta σ H fun vs H1 => ∃ a xs, vs = [.ref a] ∧ SqT K H1 a xs ∧ R (IteT K a) H1
theorem pi_enumT {X : Cx} {e : Expr} {ta : TA} {p pos tpos : Pos} {elts : List Expr} {kk : Nat} (hg : Gl X "enumerate") (hm : X.mg "enumerate" = none) (ha : PA X [e] ta) (hs : starEach [e] X.env = [(false, eval e X.env)] := by rfl) :
    PI X (.Tuple elts kk tpos) (.Call (.Name "enumerate" p) [e] [] pos) (iEnumT X.K ta) := by
  refine ⟨fun pins s σ H R I h => ?_⟩
  refine Call_ (ld_blt I hg hm boot_enumerate (PyProof.Rows.callWith_type1 (thn (ha.run pos pins s σ H _ I h) fun us s1 ⟨vs, H1, I1, r1, q1⟩ => ?_) hs rfl))
  obtain ⟨a, xs, ex, hq, q⟩ := q1
  subst ex
  cases r1 with
  | cons r rr =>
    cases rr
    cases r
    obtain ⟨its, rv, p', hz⟩ := I1.tuple hq
    refine call_enumerate_tup p' fun h' he hit hsz hk => wpAny_pyIter_enum he ?_
    have I2 : Inv X pins σ H1 { s1 with heap := h' } := I1.kept (t' := s1.toks) hk
    have hlt : a < s1.heap.objs.size := by obtain ⟨o, ho, _⟩ := p'; exact Heap.lt_size ho
    refine ⟨s1.heap.objs.size + 1, [s1.heap.objs.size + 1, s1.heap.objs.size], _, _, H1, rfl, I2, turn_enumT a (s1.heap.objs.size + 1) s1.heap.objs.size (Nat.ne_of_lt hlt) (Nat.ne_of_gt (Nat.lt_succ_of_lt hlt)), ⟨⟨.none, he⟩, hit, Nat.succ_ne_self _⟩, fun b hb => ?_, q⟩
    have e' : b = s1.heap.objs.size + 1 ∨ b = s1.heap.objs.size := by simpa using hb
    have hle : s1.heap.objs.size ≤ b := by
      rcases e' with z | z
      · rw [z]; exact Nat.le_add_right _ _
      · rw [z]; exact Nat.le_refl _
    exact I1.fpOk hle (I1.hok.fresh hle)
/-- the items of a tuple with their places -/
def enumD (ds : List D) : List D := ds.zipIdx.map fun p => D.tup [.int (p.2 : Int), p.1]
def itEnum (f : Ex) : Sl → M (List D) := fun S => bnd (f S) fun d => match d with
  | .tup ds => ret (enumD ds)
  | _ => stuck
theorem enumD_get {ds : List D} {i : Nat} {d : D} (h : (enumD ds)[i]? = some d) : ∃ x, ds[i]? = some x ∧ d = .tup [.int (i : Int), x] := by
  unfold enumD at h
  rw [List.getElem?_map, List.getElem?_zipIdx] at h
  cases e : ds[i]? with
  | none => rw [e] at h; cases h
  | some x =>
    rw [e] at h
    refine ⟨x, rfl, ?_⟩
    have h := Option.some.inj h
    rw [← h]
    show D.tup [.int ((0 + i : Nat) : Int), x] = _
    rw [Nat.zero_add]
theorem enumD_len (ds : List D) : (enumD ds).length = ds.length := by unfold enumD; rw [List.length_map, List.length_zipIdx]
theorem walkE {K : PySem.W.Frag} {g : G} {B : Hp} {a : Addr} {vs : List V} {ds : List D} (h : SqT K B a vs) (r : RpA K g vs ds) : WalkD K B (IteT K a) (enumD ds) g := fun i H sm => by
  refine ⟨fun d hd => ?_, fun hl => ?_⟩
  · obtain ⟨x, hx, rfl⟩ := enumD_get hd
    obtain ⟨v, hv, rv⟩ := r.get hx
    refine ⟨⟨vs, v, Same.tseq sm h, hv⟩, fun y H' ⟨T, z, e1, e2, e3, e4⟩ => .inr ⟨T, [.int (i : Nat), z], [.int (i : Int), x], e1, e2, e3, rfl, .cons (.int _) (.cons ?_ .nil)⟩⟩
    have := e4 vs (Same.tseq sm h)
    rw [hv] at this
    cases this
    exact rv
  · rw [enumD_len] at hl
    exact ⟨vs, Same.tseq sm h, by rw [r.length]; exact hl⟩
section
variable {X : Cx} {C : Cn} {E : XK}
theorem ci_enum {e : Expr} {f : Ex} {p pos tpos : Pos} {elts : List Expr} {kk : Nat} (hm : X.mg "enumerate" = none) (he : CE X C E e f) (hg : Gl X "enumerate" := by rfl) (hs : starEach [e] X.env = (false, eval e X.env) :: starEach [] X.env := by rfl) (hs2 : starEach [e] X.env = [(false, eval e X.env)] := by rfl) :
    CI X C E (.Tuple elts kk tpos) (.Call (.Name "enumerate" p) [e] [] pos) (itEnum f) :=
  PI.imp (pi_enumT hg hm (pa_cons he pa_nil hs) hs2) fun σ H R ⟨g, S, t, w, s, q⟩ => ⟨g, S, t, w, s, q.bnd.imp fun d t1 g1 H1 st1 w1 q v r => by
    cases d with
    | tup ds =>
      cases r with
      | tup sq ra => exact ⟨_, _, rfl, Same.tseq w1.fz sq, postRet q w1 _ (walkE sq ra)⟩
    | _ => exact q.elim⟩
end
end BG
set_option Elab.async false
set_option linter.all false
set_option maxRecDepth 100000
set_option maxHeartbeats 4000000
namespace BL
open PySem PySem.Spec PyProof.Rows L2 BG
def c_KINDS : D := (.tup [(.str "both"), (.str "if"), (.str "not"), (.str "pick"), (.str "swap")])
def c_LONGEST : D := (.int 20)
def c_SAME : D := (.tup [(.int 0), (.int 1), (.int 2), (.int 3), (.int 4), (.int 5), (.int 6), (.int 7)])
def b_is_between : Stm := (sRet (eAnd (eUn (pIsi .int) (eVar 0)) (eAnd (eUn oNot (eUn (pIsi .bool) (eVar 0))) (eChain pLe pLe (eVar 1) (eVar 0) (eVar 2)))))
def f_is_between : Fn := fnOf 3 b_is_between
def b_is_gate : Stm := (sSeq (sIf (eOr (eUn oNot (eUn (pIsi .tuple) (eVar 0))) (eOr (eBin pEq (eVar 0) (eTup [])) (eOr (eUn oNot (eUn (pIsi .str) (eBin pIdx (eVar 0) (eC (.int 0))))) (eBin pNotIn (eBin pIdx (eVar 0) (eC (.int 0))) (eC c_KINDS))))) (sRet (eC (.bl false))) sNil)
    (sSeq (sPar 1 2 (eBin pIdx (eVar 0) (eC (.int 0))) (eSlice (eVar 0) (some (eC (.int 1))) none))
    (sSeq (sIf (eOr (eUn oNot (eUn bAll (eComp [3] (itSeq (eVar 2)) (gN 3) (eC (.bl true)) (eCall f_is_between [(eVar 3), (eC (.int 0)), (eC (.int 2))])))) (eBin pNe (eUn pLenSet (eVar 2)) (eUn bLen (eVar 2)))) (sRet (eC (.bl false))) sNil)
    (sSeq (sIf (eBin pNe (eUn bLen (eVar 2)) (eIf (eBin pEq (eVar 1) (eC (.str "not"))) (eC (.int 1)) (eIf (eBin pIn (eVar 1) (eTup [(eC (.str "if")), (eC (.str "swap"))])) (eC (.int 2)) (eC (.int 3))))) (sRet (eC (.bl false))) sNil)
    (sSeq (sIf (eOr (eBin pEq (eVar 1) (eC (.str "both"))) (eBin pEq (eVar 1) (eC (.str "swap")))) (sRet (eBin pLt (eBin pIdx (eVar 2) (eC (.int 0))) (eBin pIdx (eVar 2) (eC (.int 1))))) sNil)
    (sRet (eOr (eBin pNe (eVar 1) (eC (.str "pick"))) (eBin pLt (eBin pIdx (eVar 2) (eC (.int 1))) (eBin pIdx (eVar 2) (eC (.int 2)))))))))))
def f_is_gate : Fn := fnOf 4 b_is_gate
def b_is_circuit : Stm := (sRet (eAnd (eUn (pIsi .tuple) (eVar 0)) (eAnd (eBin pLe (eUn bLen (eVar 0)) (eC c_LONGEST)) (eUn bAll (eComp [1] (itSeq (eVar 0)) (gN 1) (eC (.bl true)) (eCall f_is_gate [(eVar 1)]))))))
def f_is_circuit : Fn := fnOf 2 b_is_circuit
def b_law_is : Stm := (sRet (eAnd (eUn (pIsi .bool) (eVar 0)) (eBin pEq (eVar 0) (eVar 1))))
def f_law_is : Fn := fnOf 2 b_law_is
def b_law_draw : Stm := (sSeq (sTC 1 (eBin pAdd (eTC 1) (eC (.int 1))))
    (sSeq (sAsg 3 (eIf (eScr 0) (eBin pMod (eTC 1) (eUn bLen (eVar 0))) (eC (.int 0))))
    (sSeq (sAsg 4 (eTR 1 (eVar 3) (eIf (eScr 0) (eBin pIdx (eVar 0) (eVar 3)) (eC (.int 0)))))
    (sSeq (sIf (eBin pGe (eVar 4) (eBin pPow (eC (.int 10)) (eC (.int 18)))) (sSeq (sTR 1 (eVar 3) (eBin pDiv (eVar 4) (eVar 2)))
    (sRet (eBin pMod (eVar 4) (eVar 2)))) sNil)
    (sSeq (sAsg 5 (eBin pMod (eBin pAdd (eVar 4) (eBin pMul (eC (.int 104729)) (eTC 1))) (eC (.int 4294967291))))
    (sSeq (sAsg 5 (eBin pMod (eBin pPow (eVar 5) (eC (.int 5))) (eC (.int 4294967279))))
    (sRet (eBin pMod (eBin pDiv (eBin pMod (eBin pAdd (eBin pMul (eBin pDiv (eVar 5) (eC (.int 64))) (eC (.int 69621))) (eVar 5)) (eC (.int 4294967231))) (eC (.int 8))) (eVar 2)))))))))
def f_law_draw : Fn := fnOf 6 b_law_draw
def b_law_begun : Stm := (sRet eBegun)
def f_law_begun : Fn := fnOf 0 b_law_begun
def b_law_gates : Stm := (sSeq (sOwn 0 (eLst []))
    (sSeq (sFor (itRange1 (eC (.int 3))) (gN 1)
    (sSeq (sApp 0 (eTup [(eC (.str "not")), (eVar 1)]))
    (sSeq (sFor (itRange1 (eC (.int 3))) (gN 2)
    (sExt 0 (eIf (eBin pNe (eVar 1) (eVar 2)) (eLst [(eTup [(eC (.str "if")), (eVar 1), (eVar 2)])]) (eLst []))))
    (sSeq (sAsg 3 (eComp [4] (itRange1 (eC (.int 3))) (gN 4) (eBin pNe (eVar 4) (eVar 1)) (eVar 4)))
    (sSeq (sApp 0 (eTup [(eC (.str "both")), (eBin pIdx (eVar 3) (eC (.int 0))), (eBin pIdx (eVar 3) (eC (.int 1))), (eVar 1)]))
    (sSeq (sApp 0 (eTup [(eC (.str "swap")), (eBin pIdx (eVar 3) (eC (.int 0))), (eBin pIdx (eVar 3) (eC (.int 1)))]))
    (sApp 0 (eTup [(eC (.str "pick")), (eVar 1), (eBin pIdx (eVar 3) (eC (.int 0))), (eBin pIdx (eVar 3) (eC (.int 1)))]))))))))
    (sRet (eUn bSortedA (ePeek 0)))))
def f_law_gates : Fn := fnOf 5 b_law_gates
def b_law_circuit : Stm := (sSeq (sAsg 4 (eComp [5] (itSeq (eCall f_law_gates [])) (gN 5) (eBin pIn (eBin pIdx (eVar 5) (eC (.int 0))) (eVar 2)) (eVar 5)))
    (sRet (eUn bTuple (eComp [6] (itRange1 (eCall f_law_draw [(eVar 0), (eVar 1), (eBin pAdd (eVar 3) (eC (.int 1)))])) (gN 6) (eC (.bl true)) (eBin pIdx (eVar 4) (eCall f_law_draw [(eVar 0), (eVar 1), (eUn bLen (eVar 4))]))))))
def f_law_circuit : Fn := fnOf 7 b_law_circuit
def b_check_circuit : Stm := (sIf (eUn oNot (eCall f_is_circuit [(eVar 0)])) (sRaise 1) sNil)
def f_check_circuit : Fn := fnOf 1 b_check_circuit
def b_weight_of : Stm := (sRet (eBin pIdx (eTup [(eC (.int 1)), (eC (.int 2)), (eC (.int 4))]) (eVar 0)))
def f_weight_of : Fn := fnOf 1 b_weight_of
def b_bit : Stm := (sRet (eBin pMod (eBin pDiv (eVar 0) (eCall f_weight_of [(eVar 1)])) (eC (.int 2))))
def f_bit : Fn := fnOf 2 b_bit
def b_applied : Stm := (sSeq (sPar 2 3 (eBin pIdx (eVar 0) (eC (.int 0))) (eSlice (eVar 0) (some (eC (.int 1))) none))
    (sSeq (sIf (eBin pIn (eVar 2) (eTup [(eC (.str "not")), (eC (.str "if")), (eC (.str "both"))])) (sSeq (sIf (eUn bAll (eComp [4] (itSeq (eSlice (eVar 3) none (some (eUn pNeg (eC (.int 1)))))) (gN 4) (eC (.bl true)) (eBin pEq (eCall f_bit [(eVar 1), (eVar 4)]) (eC (.int 1))))) (sRet (eBin pXor (eVar 1) (eCall f_weight_of [(eBin pIdx (eVar 3) (eUn pNeg (eC (.int 1))))]))) sNil)
    (sRet (eVar 1))) sNil)
    (sSeq (sIf (eAnd (eBin pEq (eVar 2) (eC (.str "pick"))) (eBin pEq (eCall f_bit [(eVar 1), (eBin pIdx (eVar 3) (eC (.int 0)))]) (eC (.int 0)))) (sRet (eVar 1)) sNil)
    (sSeq (sAsgG (gP 5 6) (eSlice (eVar 3) (some (eUn pNeg (eC (.int 2)))) none))
    (sSeq (sIf (eBin pEq (eCall f_bit [(eVar 1), (eVar 5)]) (eCall f_bit [(eVar 1), (eVar 6)])) (sRet (eVar 1)) sNil)
    (sRet (eBin pXor (eBin pXor (eVar 1) (eCall f_weight_of [(eVar 5)])) (eCall f_weight_of [(eVar 6)]))))))))
def f_applied : Fn := fnOf 7 b_applied
def b_law_apply : Stm := (sSeq (sOwn 2 (eLst [(eBin pMod (eVar 1) (eC (.int 2))), (eBin pMod (eBin pDiv (eVar 1) (eC (.int 2))) (eC (.int 2))), (eBin pDiv (eVar 1) (eC (.int 4)))]))
    (sSeq (sPar 3 4 (eBin pIdx (eVar 0) (eC (.int 0))) (eBin pIdx (eVar 0) (eUn pNeg (eC (.int 1)))))
    (sSeq (sIf (eOr (eBin pEq (eVar 3) (eC (.str "not"))) (eAnd (eBin pEq (eVar 3) (eC (.str "if"))) (eBin pEq (eBin pIdx (ePeek 2) (eBin pIdx (eVar 0) (eC (.int 1)))) (eC (.int 1))))) (sPut 2 (eVar 4) (eBin pSub (eC (.int 1)) (eBin pIdx (ePeek 2) (eVar 4)))) sNil)
    (sSeq (sIf (eAnd (eBin pEq (eVar 3) (eC (.str "both"))) (eBin pEq (eBin pAdd (eBin pIdx (ePeek 2) (eBin pIdx (eVar 0) (eC (.int 1)))) (eBin pIdx (ePeek 2) (eBin pIdx (eVar 0) (eC (.int 2))))) (eC (.int 2)))) (sPut 2 (eVar 4) (eBin pSub (eC (.int 1)) (eBin pIdx (ePeek 2) (eVar 4)))) sNil)
    (sSeq (sIf (eOr (eBin pEq (eVar 3) (eC (.str "swap"))) (eAnd (eBin pEq (eVar 3) (eC (.str "pick"))) (eBin pEq (eBin pIdx (ePeek 2) (eBin pIdx (eVar 0) (eC (.int 1)))) (eC (.int 1))))) (sSeq (sAsg 5 (eBin pIdx (eVar 0) (eUn pNeg (eC (.int 2)))))
    (sAsgS (gsTup 2 (gsCons (gsPut 2 (eVar 5)) (gsCons (gsPut 2 (eVar 4)) gsNil))) (eTup [(eBin pIdx (ePeek 2) (eVar 4)), (eBin pIdx (ePeek 2) (eVar 5))]))) sNil)
    (sRet (eBin pAdd (eBin pAdd (eBin pIdx (ePeek 2) (eC (.int 0))) (eBin pMul (eC (.int 2)) (eBin pIdx (ePeek 2) (eC (.int 1))))) (eBin pMul (eC (.int 4)) (eBin pIdx (ePeek 2) (eC (.int 2)))))))))))
def f_law_apply : Fn := fnOf 6 b_law_apply
def b_check_gate : Stm := (sIf (eUn oNot (eCall f_is_gate [(eVar 0)])) (sRaise 0) sNil)
def f_check_gate : Fn := fnOf 1 b_check_gate
def b_first_difference : Stm := (sSeq (sFor (itSeq (eC c_SAME)) (gN 2)
    (sIf (eBin pNe (eCall f_applied [(eVar 1), (eCall f_applied [(eVar 0), (eVar 2)])]) (eCall f_applied [(eVar 0), (eCall f_applied [(eVar 1), (eVar 2)])])) (sRet (eVar 2)) sNil))
    (sRet (eC .non)))
def f_first_difference : Fn := fnOf 3 b_first_difference
def b_may_change : Stm := (sSeq (sExpr (eCall f_check_gate [(eVar 0)]))
    (sSeq (sExpr (eCall f_check_gate [(eVar 1)]))
    (sRet (eBin pIs (eCall f_first_difference [(eVar 0), (eVar 1)]) (eC .non)))))
def f_may_change : Fn := fnOf 2 b_may_change
def b_difference : Stm := (sSeq (sExpr (eCall f_check_gate [(eVar 0)]))
    (sSeq (sExpr (eCall f_check_gate [(eVar 1)]))
    (sRet (eCall f_first_difference [(eVar 0), (eVar 1)]))))
def f_difference : Fn := fnOf 2 b_difference
def b_pairs_of : Stm := (sSeq (sOwn 1 (eLst []))
    (sSeq (sFor (itEnum (eVar 0)) (gP 2 3)
    (sFor (itRange2 (eBin pAdd (eVar 2) (eC (.int 1))) (eUn bLen (eVar 0))) (gN 4)
    (sSeq (sAsg 5 (eSlice (eVar 0) (some (eBin pAdd (eVar 2) (eC (.int 1)))) (some (eVar 4))))
    (sIf (eAnd (eBin pEq (eBin pIdx (eVar 0) (eVar 4)) (eVar 3)) (eUn bAll (eComp [6] (itSeq (eVar 5)) (gN 6) (eC (.bl true)) (eBin pIs (eCall f_first_difference [(eVar 3), (eVar 6)]) (eC .non))))) (sApp 1 (eTup [(eVar 2), (eVar 4)])) sNil))))
    (sFrz 1 (sRet (eVar 1)))))
def f_pairs_of : Fn := fnOf 7 b_pairs_of
def b_shortened : Stm := (sSeq (sExpr (eCall f_check_circuit [(eVar 0)]))
    (sSeq (sAsg 1 (eCall f_pairs_of [(eVar 0)]))
    (sSeq (sWhile 1000000 (eBin pNe (eVar 1) (eLst []))
    (sSeq (sAsgG (gP 2 3) (eBin pIdx (eVar 1) (eC (.int 0))))
    (sSeq (sAsg 0 (eBin pAdd (eBin pAdd (eSlice (eVar 0) none (some (eVar 2))) (eSlice (eVar 0) (some (eBin pAdd (eVar 2) (eC (.int 1)))) (some (eVar 3)))) (eSlice (eVar 0) (some (eBin pAdd (eVar 3) (eC (.int 1)))) none)))
    (sAsg 1 (eCall f_pairs_of [(eVar 0)])))))
    (sRet (eVar 0)))))
def f_shortened : Fn := fnOf 4 b_shortened
def b_cancelling : Stm := (sSeq (sExpr (eCall f_check_circuit [(eVar 0)]))
    (sRet (eUn bTuple (eCall f_pairs_of [(eVar 0)]))))
def f_cancelling : Fn := fnOf 1 b_cancelling
end BL
set_option Elab.async false
set_option linter.all false
set_option maxRecDepth 100000
set_option maxHeartbeats 4000000
namespace K14
open PySem PySem.Spec PyProof.Rows L2 BG BL
def b_law_differ : Stm := (sSeq (sFor (itRange1 (eC (.int 8))) (gN 2)
    (sIf (eBin pNe (eCall f_law_apply [(eVar 1), (eCall f_law_apply [(eVar 0), (eVar 2)])]) (eCall f_law_apply [(eVar 0), (eCall f_law_apply [(eVar 1), (eVar 2)])])) (sRet (eVar 2)) sNil))
    (sRet (eC .non)))
def f_law_differ : Fn := fnOf 3 b_law_differ
def b_law_pairs : Stm := (sSeq (sOwn 1 (eLst []))
    (sSeq (sFor (itRange1 (eUn bLen (eVar 0))) (gN 2)
    (sSeq (sAsg 3 (eC (.bl true)))
    (sFor (itRange2 (eBin pAdd (eVar 2) (eC (.int 1))) (eUn bLen (eVar 0))) (gN 4)
    (sSeq (sIf (eAnd (eVar 3) (eBin pEq (eBin pIdx (eVar 0) (eVar 4)) (eBin pIdx (eVar 0) (eVar 2)))) (sApp 1 (eTup [(eVar 2), (eVar 4)])) sNil)
    (sAsg 3 (eAnd (eVar 3) (eBin pIs (eCall f_law_differ [(eBin pIdx (eVar 0) (eVar 2)), (eBin pIdx (eVar 0) (eVar 4))]) (eC .non))))))))
    (sRet (eUn bTuple (ePeek 1)))))
def f_law_pairs : Fn := fnOf 5 b_law_pairs
def b_law_short : Stm := (sSeq (sWhile 1000000 (eBin pNe (eCall f_law_pairs [(eVar 0)]) (eTup []))
    (sSeq (sAsg 1 (eBin pIdx (eCall f_law_pairs [(eVar 0)]) (eC (.int 0))))
    (sAsg 0 (eUn bTuple (eComp [2, 3] (itEnum (eVar 0)) (gP 2 3) (eBin pNotIn (eVar 2) (eVar 1)) (eVar 3))))))
    (sRet (eVar 0)))
def f_law_short : Fn := fnOf 4 b_law_short
def b_law : Stm := (sSeq (sAsg 1 (eCall f_law_begun []))
    (sSeq (sAsg 2 (eCall f_law_gates []))
    (sSeq (sAsg 3 (eBin pIdx (eVar 2) (eCall f_law_draw [(eVar 0), (eVar 1), (eC (.int 18))])))
    (sSeq (sFor (itSeq (eVar 2)) (gN 4)
    (sSeq (sAsg 5 (eCall f_law_differ [(eVar 3), (eVar 4)]))
    (sSeq (sIf (eBin pNe (eCall f_difference [(eVar 3), (eVar 4)]) (eVar 5)) (sRet (eC (.bl false))) sNil)
    (sIf (eUn oNot (eCall f_law_is [(eCall f_may_change [(eVar 3), (eVar 4)]), (eBin pIs (eVar 5) (eC .non))])) (sRet (eC (.bl false))) sNil))))
    (sSeq (sFor (itRange1 (eC (.int 4))) (gN 6)
    (sSeq (sAsg 7 (eBin pIdx (eTup [(eTup [(eC (.str "both")), (eC (.str "if")), (eC (.str "not")), (eC (.str "pick")), (eC (.str "swap"))]), (eTup [(eC (.str "if")), (eC (.str "not"))]), (eTup [(eC (.str "not")), (eC (.str "swap"))]), (eTup [(eC (.str "both")), (eC (.str "not"))])]) (eVar 6)))
    (sSeq (sAsg 8 (eCall f_law_circuit [(eVar 0), (eVar 1), (eVar 7), (eC (.int 9))]))
    (sSeq (sIf (eBin pEq (eCall f_law_draw [(eVar 0), (eVar 1), (eC (.int 2))]) (eC (.int 0))) (sAsg 8 (eBin pAdd (eVar 8) (eUn pRev (eVar 8)))) sNil)
    (sSeq (sIf (eBin pNe (eCall f_cancelling [(eVar 8)]) (eCall f_law_pairs [(eVar 8)])) (sRet (eC (.bl false))) sNil)
    (sSeq (sIf (eBin pNe (eCall f_shortened [(eVar 8)]) (eCall f_law_short [(eVar 8)])) (sRet (eC (.bl false))) sNil)
    (sSeq (sFor (itSeq (eTup [(eC .non), (eLst []), (eTup [(eTup [(eC (.str "not"))])]), (eBin pMul (eTup [(eTup [(eC (.str "not")), (eC (.int 0))])]) (eC (.int 21)))])) (gN 9)
    (sSeq (sOwn 10 (eLst [(eRes resNm al12 (eCall f_cancelling [(eVar 9)]))]))
    (sIf (eBin pNe (eBin pAdd (ePeek 10) (eLst [(eRes resNm al12 (eCall f_shortened [(eVar 9)]))])) (eBin pMul (eLst [(eTup [(eC (.str "circuit"))])]) (eC (.int 2)))) (sRet (eC (.bl false))) sNil)))
    (sFor (itSeq (eTup [(eC .non), (eTup [(eC (.str "not"))]), (eTup [(eC (.str "both")), (eC (.int 0)), (eC (.int 1)), (eC (.int 3))]), (eTup [(eTup [(eC (.str "not")), (eC (.int 0))])])])) (gN 9)
    (sSeq (sOwn 10 (eLst [(eRes resNm al12 (eCall f_may_change [(eVar 9), (eC .non)]))]))
    (sSeq (sApp 10 (eRes resNm al12 (eCall f_difference [(eVar 9), (eC .non)])))
    (sSeq (sApp 10 (eRes resNm al12 (eCall f_may_change [(eVar 3), (eVar 9)])))
    (sIf (eBin pNe (eBin pAdd (ePeek 10) (eLst [(eRes resNm al12 (eCall f_difference [(eVar 3), (eVar 9)]))])) (eBin pMul (eLst [(eTup [(eC (.str "gate"))])]) (eC (.int 4)))) (sRet (eC (.bl false))) sNil))))))))))))
    (sRet (eC (.bl true))))))))
def f_law : Fn := fnOf 11 b_law
end K14
set_option Elab.async false
set_option linter.all false
set_option maxRecDepth 100000
set_option maxHeartbeats 4000000
namespace K14
open PySem PySem.Spec PyProof.Rows L2 BG BL
def topS (i : Nat) : Stmt := PySem.Challenge.pw_backgates_k14_places.main.body.getD i (.Pass ⟨0, 0, 0, 0⟩)
structure Mg (K : PySem.W.Frag) (mg : Str → Option Value) (C : Cn) : Prop extends Bt mg where
  cKINDS : ∃ a, mg "KINDS" = some (.ref a) ∧ ∀ g, Rp K g (.ref a) c_KINDS
  cLONGEST : ∃ t, mg "LONGEST" = some (.int 20 t)
  cSAME : ∃ a, mg "SAME" = some (.ref a) ∧ ∀ g, Rp K g (.ref a) c_SAME
  eInvalidGate : mg "InvalidGate" = some (.ref (C.ex 0)) ∧ PySem.W.excIn K (C.ex 0) [.type "ValueError", .type "Exception", .type "BaseException", .type "object"] "ValueError.__new__" = true ∧ PySem.W.keepIn K (.ref (C.ex 0)) = true ∧ PySem.W.subIn K (.ref (C.ex 0)) (.type "BaseException") = true ∧ PySem.W.typeIn K (.ref (C.ex 0)) = some (.type "type")
  eInvalidCircuit : mg "InvalidCircuit" = some (.ref (C.ex 1)) ∧ PySem.W.excIn K (C.ex 1) [.type "ValueError", .type "Exception", .type "BaseException", .type "object"] "ValueError.__new__" = true ∧ PySem.W.keepIn K (.ref (C.ex 1)) = true ∧ PySem.W.subIn K (.ref (C.ex 1)) (.type "BaseException") = true ∧ PySem.W.typeIn K (.ref (C.ex 1)) = some (.type "type")
theorem g_KINDS {X : Cx} {C : Cn} {E : XK} {pos : Pos} (M : Mg X.K X.mg C) (hg : Gl X "KINDS" := by rfl) : CE X C E (.Name "KINDS" pos) (eC c_KINDS) := by
  obtain ⟨a, h1, h2⟩ := M.cKINDS
  exact ce_glob (v := .ref a) h1 rfl h2 hg
theorem g_LONGEST {X : Cx} {C : Cn} {E : XK} {pos : Pos} (M : Mg X.K X.mg C) (hg : Gl X "LONGEST" := by rfl) : CE X C E (.Name "LONGEST" pos) (eC c_LONGEST) := by
  obtain ⟨t, h1⟩ := M.cLONGEST
  exact ce_glob (v := .int 20) h1 ⟨t, rfl⟩ (fun _ => .int _) hg
theorem g_SAME {X : Cx} {C : Cn} {E : XK} {pos : Pos} (M : Mg X.K X.mg C) (hg : Gl X "SAME" := by rfl) : CE X C E (.Name "SAME" pos) (eC c_SAME) := by
  obtain ⟨a, h1, h2⟩ := M.cSAME
  exact ce_glob (v := .ref a) h1 rfl h2 hg
theorem x_InvalidGate {X : Cx} {C : Cn} {E : XK} {m : Str} {j : Nat} {p p2 pos pos' : Pos} (M : Mg X.K X.mg C) (tk : Takes X (fun cls d _ H => E cls d H)) (hc : X.calm = true := by rfl) (hg : Gl X "InvalidGate" := by rfl) : CS X C E (.Raise (some (.Call (.Name "InvalidGate" p) [.Constant (.str m) j p2] [] pos)) none pos') (sRaise 0) := by
  obtain ⟨h1, h2, h3, h4, h5⟩ := M.eInvalidGate
  exact cs_raise (W := fun cls d _ H => E cls d H) 0 PySem.F.excBase_ValueError h2 h1 h3 (raises_own h4 h5) tk hc hg
theorem x_InvalidCircuit {X : Cx} {C : Cn} {E : XK} {m : Str} {j : Nat} {p p2 pos pos' : Pos} (M : Mg X.K X.mg C) (tk : Takes X (fun cls d _ H => E cls d H)) (hc : X.calm = true := by rfl) (hg : Gl X "InvalidCircuit" := by rfl) : CS X C E (.Raise (some (.Call (.Name "InvalidCircuit" p) [.Constant (.str m) j p2] [] pos)) none pos') (sRaise 1) := by
  obtain ⟨h1, h2, h3, h4, h5⟩ := M.eInvalidCircuit
  exact cs_raise (W := fun cls d _ H => E cls d H) 1 PySem.F.excBase_ValueError h2 h1 h3 (raises_own h4 h5) tk hc hg
abbrev s_law_result : Stmt := topS 34
theorem sc_law_result : FnScope ngR ["call"] (defScope s_law_result) := ⟨rfl, rfl, rfl, by decide +kernel, rfl, by decide +kernel, by decide +kernel⟩
structure ResF (K : PySem.W.Frag) (mg : Str → Option Value) (C : Cn) : Prop where
  ex : ∃ (g GE : Addr) (oc : Value) (od : Option Addr) (osl : Array (Option Value)) (kV doc pm : Value) (an : Option Addr) (cdv ct : Value), mg "_law_result" = some (.ref g) ∧ PySem.W.keepIn K (.ref g) = true ∧
    K.lookup g = some ⟨oc, od, .func (PySem.W.fnOf "_law_result" "_law_result" (defArgs s_law_result) (defBody s_law_result) (defScope s_law_result) .none kV doc pm an cdv ct), osl⟩ ∧ PySem.W.codeIn K cdv "_law_result" = true ∧ mg "GateError" = some (.ref GE) ∧ excOk K GE C.ex = true
  c0 : mg "InvalidGate" = some (.ref (C.ex 0))
  c1 : mg "InvalidCircuit" = some (.ref (C.ex 1))
  c2 : mg "InvalidWord" = some (.ref (C.ex 2))
  c3 : mg "InvalidExchange" = some (.ref (C.ex 3))
  c4 : mg "InvalidLines" = some (.ref (C.ex 4))
  c5 : mg "InvalidKinds" = some (.ref (C.ex 5))
  c6 : mg "InvalidFunction" = some (.ref (C.ex 6))
  c7 : mg "InvalidAnswers" = some (.ref (C.ex 7))
  c8 : mg "InvalidText" = some (.ref (C.ex 8))
  c9 : mg "TooMany" = some (.ref (C.ex 9))
  c10 : mg "Empty" = some (.ref (C.ex 10))
  c11 : mg "NothingToUndo" = some (.ref (C.ex 11))
  ve : mg "ValueError" = none
theorem r_res {X : Cx} {C : Cn} {E : XK} {k : Nat} {c : Addr} {x : Str} {params : Arguments} {body : Expr} {scope : Scope} {fb : Ex} {p lpos pos : Pos}
    (M : Bt X.mg) (R : ResF X.K X.mg C) (Lm : LamD X.base X.mg C x c) (hcode : X.env.code = .ref c) (hq : X.env.qual = x ++ ".<locals>.") (hr : Room (k + 2) X.A) (L : LamX.LamS X.env.scope scope)
    (hbody : ∀ (A : Around) (outer : List Env) (s : Shared) (H : Hp) (E : XK) (f c' : Addr), Room k (A.deeper (LamX.lamEnv X scope s.heap.objs.size f c')) → CE (LamX.lamCx X A outer s H E scope f c') C E body fb)
    (hg : Gl X "_law_result" := by rfl) (hdef : defaultsOf params X.env = ([], []) := by rfl)
    (hbind : ∀ (q : Str) (cl : List (Str × Addr)) (pm cv ctv : Value), bindArgs (PySem.W.kla_fn "<lambda>" q params body scope cl pm cv ctv) ⟨[], []⟩ = pure [] := by intros; rfl) :
    CE X C E (.Call (.Name "_law_result" p) [.Lambda params body scope lpos] [] pos) (eRes resNm al12 fb) := by
  obtain ⟨g, GE, oc, od, osl, kV, doc, pm, an, cdv, ct, h1, h2, h3, h4, h5, h6⟩ := R.ex
  obtain ⟨P, tb, m1, m2⟩ := Lm.ex
  have EA := excOk_all h6
  rw [← hq] at m1 m2
  have hu : ∀ env, (X.A.deeper env).units + 1 < cLine := fun env => (hr.deeper env).u1
  have F := fun_mk (st := s_law_result) h3 h4 h2
  refine ce_res h1 h2 h3 h4 (F.binds (ps := ["call"]) fun _ _ _ _ _ _ us hl => match us, hl with | [_], _ => rfl) sc_law_result (.inl rfl) ?_ tb hcode m1 m2 hr L hbody hg hdef hbind
  refine gives_of (C := C) (al := al12) rfl sc_law_result.nd (fun s H => ?_) h5 rfl rfl rfl rfl EA.exm (fun s H => ?_) (bRes1 (K := X.K) (C := C) (exs := exs12 C.ex)) (fun c hc => bRes2 (of_decide_eq_true hc) (EA.kit c (of_decide_eq_true hc)))
  · exact PS.imp (ps_asg (pe_tup (pa_cons pe_non (pa_cons pe_non pa_nil rfl) rfl)) (pg_tup rfl (pgs_cons (pg_name (i := 1) sc_law_result.nd rfl (.inl rfl) (.inl rfl)) (pgs_cons (pg_name (i := 2) sc_law_result.nd rfl (.inl rfl) (.inl rfl)) pgs_nil rfl) rfl) rfl rfl) rfl rfl rfl) fun De σ H q => ⟨by decide, fun a ha => ⟨a, _, rfl, .inl (.inl upd_same), rfl, _, _, rfl, _, _, rfl, rfl, q a ha⟩⟩
  · exact css_cons (cs_if (ct_noE 1) (css_one (cs_ret (ce_tup (ca_cons ce_str (ca_cons (ce_var 2) ca_nil))))) css_nil)
      (css_cons (cs_dic 4 sc_law_result.nd (cps_cons (ce_isE 1 EA.F M.isinstance R.c0) (cps_cons (ce_isE 1 EA.F M.isinstance R.c1) cps_nil)))
      (css_cons (cs_dupd 4 (cps_cons (ce_isE 1 EA.F M.isinstance R.c2) (cps_cons (ce_isE 1 EA.F M.isinstance R.c3) cps_nil)))
      (css_cons (cs_dupd 4 (cps_cons (ce_isE 1 EA.F M.isinstance R.c4) (cps_cons (ce_isE 1 EA.F M.isinstance R.c5) cps_nil)))
      (css_cons (cs_dupd 4 (cps_cons (ce_isE 1 EA.F M.isinstance R.c6) (cps_cons (ce_isE 1 EA.F M.isinstance R.c7) cps_nil)))
      (css_cons (cs_dupd 4 (cps_cons (ce_isE 1 EA.F M.isinstance R.c8) (cps_cons (ce_isE 1 EA.F M.isinstance R.c9) cps_nil)))
      (css_cons (cs_dupd 4 (cps_cons (ce_isE 1 EA.F M.isinstance R.c10) (cps_cons (ce_isE 1 EA.F M.isinstance R.c11) cps_nil)))
      (css_cons (cs_frzD 4 (cs_asgLc 5 (own := [("name", 6)]) (is := [6]) rfl sc_law_result.nd rfl (sw_true rfl rfl rfl (by decide +kernel)) (ci_w (ci_dic 4)) (blkOk_by (N := ngR) (sc := (defScope s_law_result)) (by decide +kernel)) (by decide) (fun _ _ _ _ _ => (cg_name 6 sc_law_result.nd)) (fun _ _ _ _ _ => (cts_one (ct_val (ce_dix 4 (hu _) (ce_var 6))))) (fun _ _ _ _ _ => (ce_var 6))))
      (css_one (cs_ret (ce_if (ct_w (cw_and (ct_cmp (bin_eq (hr.deeper _).units) (e2w (ce_callB1 cr_len M.len bt_len (e2w (ce_var 5)))) (e2w ce_int)) (pw_and1 (ct_val (ce_isEb 1 EA.F M.isinstance R.ve (by decide +kernel)))))) (ce_tup (ca_cons (ce_ix (e2w (ce_var 5)) (e2w ce_int)) ca_nil)) (ce_tup (ca_cons ce_str ca_nil))))))))))))
section
variable {P : Program} {w : World} {K : PySem.W.Frag} {mg : Str → Option Value} {base : Heap} {C : Cn}
abbrev s_is_between : Stmt := topS 18
theorem sc_is_between : FnScope ["value", "low", "high"] ["value", "low", "high"] (defScope s_is_between) := ⟨rfl, rfl, rfl, by decide +kernel, rfl, by decide +kernel, by decide +kernel⟩
theorem ok_is_between {f : Addr} {fd : FuncData} (M : Mg K mg C) (F : Fun K "is_between" "is_between" s_is_between f fd)  :
    FnOk P w K mg base (L2.CX P w) 1 f fd ["value", "low", "high"] (spF K C 3 f_is_between) :=
  fn_ok (N := ["value", "low", "high"]) F sc_is_between fun cdv A outer s H E hr =>
    (css_one (cs_ret (ce_and (ce_isi .int M.isinstance M.int bt_int (e2w (ce_var 0))) (ce_and (ce_not (ce_isi .bool M.isinstance M.bool bt_bool (e2w (ce_var 0)))) (ce_one (ce_chain bin_le bin_le (e2w (ce_var 1)) (e2w (ce_var 0)) (e2w (ce_var 2))))))))
abbrev s_is_gate : Stmt := topS 19
theorem sc_is_gate : FnScope ["value", "kind", "lines", "line"] ["value"] (defScope s_is_gate) := ⟨rfl, rfl, rfl, by decide +kernel, rfl, by decide +kernel, by decide +kernel⟩
theorem ok_is_gate {f : Addr} {fd : FuncData} (M : Mg K mg C) (F : Fun K "is_gate" "is_gate" s_is_gate f fd) (fd_is_between : Fd P w K mg base C 1 "is_between" 3 f_is_between) :
    FnOk P w K mg base (L2.CX P w) 2 f fd ["value"] (spF K C 1 f_is_gate) :=
  fn_ok (N := ["value", "kind", "lines", "line"]) F sc_is_gate fun cdv A outer s H E hr =>
    (css_cons (cs_if (ct_w (cw_or (ct_not (ct_val (ce_isi .tuple M.isinstance M.tuple bt_tuple (e2w (ce_var 0))))) (cw_or (ct_cmp (bin_eq hr.units) (e2w (ce_var 0)) (e2w (ce_tup ca_nil))) (cw_or (ct_not (ct_val (ce_isi .str M.isinstance M.str bt_str (e2w (ce_ix (e2w (ce_var 0)) (e2w ce_int)))))) (pw_or1 (ct_cmp (bin_notIn hr.u65) (e2w (ce_ix (e2w (ce_var 0)) (e2w ce_int))) (e2w (g_KINDS M)))))))) (css_one (cs_ret ce_bl)) css_nil)
    (css_cons (cs_par 1 2 sc_is_gate.nd (ce_ix (e2w (ce_var 0)) (e2w ce_int)) (ce_slice (e2w (ce_var 0)) (co_some ce_int) co_none))
    (css_cons (cs_if (ct_w (cw_or (ct_not (ct_val (ce_callB1 (cr_allD rfl) M.all bt_all (f2w (cf_comp (own := [("line", 3)]) (is := [3]) rfl sc_is_gate.nd (ciw_seq (e2w (ce_var 2))) (blkOk_by (N := ["value", "kind", "lines", "line"]) (sc := (defScope s_is_gate)) (by decide +kernel)) (by decide) (fun _ _ _ _ _ => (cg_name 3 sc_is_gate.nd)) (fun _ _ _ _ _ => cts_nil) (fun _ _ _ _ _ => (ce_call fd_is_between hr (by decide) passL (ca_cons (ce_var 3) (ca_cons ce_int (ca_cons ce_int ca_nil)))))))))) (pw_or1 (ct_cmp (bin_ne hr.units) (e2w (ce_lenSet rfl M.len M.set (e2w (ce_var 2)))) (e2w (ce_callB1 cr_len M.len bt_len (e2w (ce_var 2)))))))) (css_one (cs_ret ce_bl)) css_nil)
    (css_cons (cs_if (ct_cmp (bin_ne hr.units) (e2w (ce_callB1 cr_len M.len bt_len (e2w (ce_var 2)))) (e2w (ce_if (ct_cmp (bin_eq hr.units) (e2w (ce_var 1)) (e2w ce_str)) ce_int (ce_if (ct_cmp (bin_in hr.u65) (e2w (ce_var 1)) (e2w (ce_tup (ca_cons ce_str (ca_cons ce_str ca_nil))))) ce_int ce_int)))) (css_one (cs_ret ce_bl)) css_nil)
    (css_cons (cs_if (ct_w (cw_or (ct_cmp (bin_eq hr.units) (e2w (ce_var 1)) (e2w ce_str)) (pw_or1 (ct_cmp (bin_eq hr.units) (e2w (ce_var 1)) (e2w ce_str))))) (css_one (cs_ret (ce_cmp bin_lt (e2w (ce_ix (e2w (ce_var 2)) (e2w ce_int))) (e2w (ce_ix (e2w (ce_var 2)) (e2w ce_int)))))) css_nil)
    (css_one (cs_ret (ce_or (ce_cmp (bin_ne hr.units) (e2w (ce_var 1)) (e2w ce_str)) (ce_one (ce_cmp bin_lt (e2w (ce_ix (e2w (ce_var 2)) (e2w ce_int))) (e2w (ce_ix (e2w (ce_var 2)) (e2w ce_int)))))))))))))
abbrev s_is_circuit : Stmt := topS 20
theorem sc_is_circuit : FnScope ["value", "gate"] ["value"] (defScope s_is_circuit) := ⟨rfl, rfl, rfl, by decide +kernel, rfl, by decide +kernel, by decide +kernel⟩
theorem ok_is_circuit {f : Addr} {fd : FuncData} (M : Mg K mg C) (F : Fun K "is_circuit" "is_circuit" s_is_circuit f fd) (fd_is_gate : Fd P w K mg base C 2 "is_gate" 1 f_is_gate) :
    FnOk P w K mg base (L2.CX P w) 3 f fd ["value"] (spF K C 1 f_is_circuit) :=
  fn_ok (N := ["value", "gate"]) F sc_is_circuit fun cdv A outer s H E hr =>
    (css_one (cs_ret (ce_and (ce_isi .tuple M.isinstance M.tuple bt_tuple (e2w (ce_var 0))) (ce_and (ce_cmp bin_le (e2w (ce_callB1 cr_len M.len bt_len (e2w (ce_var 0)))) (e2w (g_LONGEST M))) (ce_one (ce_callB1 (cr_allD rfl) M.all bt_all (f2w (cf_comp (own := [("gate", 1)]) (is := [1]) rfl sc_is_circuit.nd (ciw_seq (e2w (ce_var 0))) (blkOk_by (N := ["value", "gate"]) (sc := (defScope s_is_circuit)) (by decide +kernel)) (by decide) (fun _ _ _ _ _ => (cg_name 1 sc_is_circuit.nd)) (fun _ _ _ _ _ => cts_nil) (fun _ _ _ _ _ => (ce_call fd_is_gate hr (by decide) passL (ca_cons (ce_var 1) ca_nil)))))))))))
abbrev s_check_gate : Stmt := topS 21
theorem sc_check_gate : FnScope ["gate"] ["gate"] (defScope s_check_gate) := ⟨rfl, rfl, rfl, by decide +kernel, rfl, by decide +kernel, by decide +kernel⟩
theorem ok_check_gate {f : Addr} {fd : FuncData} (M : Mg K mg C) (F : Fun K "check_gate" "check_gate" s_check_gate f fd) (fd_is_gate : Fd P w K mg base C 2 "is_gate" 1 f_is_gate) :
    FnOk P w K mg base (L2.CX P w) 3 f fd ["gate"] (spF K C 1 f_check_gate) :=
  fn_ok (N := ["gate"]) F sc_check_gate fun cdv A outer s H E hr =>
    (css_one (cs_if (ct_not (ct_val (ce_call fd_is_gate hr (by decide) passC (ca_cons (ce_var 0) ca_nil)))) (css_one (x_InvalidGate M (takes_of rfl rfl rfl rfl))) css_nil))
abbrev s_check_circuit : Stmt := topS 22
theorem sc_check_circuit : FnScope ["circuit"] ["circuit"] (defScope s_check_circuit) := ⟨rfl, rfl, rfl, by decide +kernel, rfl, by decide +kernel, by decide +kernel⟩
theorem ok_check_circuit {f : Addr} {fd : FuncData} (M : Mg K mg C) (F : Fun K "check_circuit" "check_circuit" s_check_circuit f fd) (fd_is_circuit : Fd P w K mg base C 3 "is_circuit" 1 f_is_circuit) :
    FnOk P w K mg base (L2.CX P w) 4 f fd ["circuit"] (spF K C 1 f_check_circuit) :=
  fn_ok (N := ["circuit"]) F sc_check_circuit fun cdv A outer s H E hr =>
    (css_one (cs_if (ct_not (ct_val (ce_call fd_is_circuit hr (by decide) passC (ca_cons (ce_var 0) ca_nil)))) (css_one (x_InvalidCircuit M (takes_of rfl rfl rfl rfl))) css_nil))
abbrev s_weight_of : Stmt := topS 23
theorem sc_weight_of : FnScope ["line"] ["line"] (defScope s_weight_of) := ⟨rfl, rfl, rfl, by decide +kernel, rfl, by decide +kernel, by decide +kernel⟩
theorem ok_weight_of {f : Addr} {fd : FuncData} (M : Mg K mg C) (F : Fun K "weight_of" "weight_of" s_weight_of f fd)  :
    FnOk P w K mg base (L2.CX P w) 1 f fd ["line"] (spF K C 1 f_weight_of) :=
  fn_ok (N := ["line"]) F sc_weight_of fun cdv A outer s H E hr =>
    (css_one (cs_ret (ce_ix (e2w (ce_tup (ca_cons ce_int (ca_cons ce_int (ca_cons ce_int ca_nil))))) (e2w (ce_var 0)))))
abbrev s_bit : Stmt := topS 24
theorem sc_bit : FnScope ["word", "line"] ["word", "line"] (defScope s_bit) := ⟨rfl, rfl, rfl, by decide +kernel, rfl, by decide +kernel, by decide +kernel⟩
theorem ok_bit {f : Addr} {fd : FuncData} (M : Mg K mg C) (F : Fun K "bit" "bit" s_bit f fd) (fd_weight_of : Fd P w K mg base C 1 "weight_of" 1 f_weight_of) :
    FnOk P w K mg base (L2.CX P w) 2 f fd ["word", "line"] (spF K C 2 f_bit) :=
  fn_ok (N := ["word", "line"]) F sc_bit fun cdv A outer s H E hr =>
    (css_one (cs_ret (ce_bin bin_mod (e2w (ce_bin bin_div (e2w (ce_var 0)) (e2w (ce_call fd_weight_of hr (by decide) passC (ca_cons (ce_var 1) ca_nil))))) (e2w ce_int))))
abbrev s_applied : Stmt := topS 25
theorem sc_applied : FnScope ["gate", "word", "kind", "lines", "line", "one", "other"] ["gate", "word"] (defScope s_applied) := ⟨rfl, rfl, rfl, by decide +kernel, rfl, by decide +kernel, by decide +kernel⟩
theorem ok_applied {f : Addr} {fd : FuncData} (M : Mg K mg C) (F : Fun K "applied" "applied" s_applied f fd) (fd_bit : Fd P w K mg base C 2 "bit" 2 f_bit) (fd_weight_of : Fd P w K mg base C 1 "weight_of" 1 f_weight_of) :
    FnOk P w K mg base (L2.CX P w) 3 f fd ["gate", "word"] (spF K C 2 f_applied) :=
  fn_ok (N := ["gate", "word", "kind", "lines", "line", "one", "other"]) F sc_applied fun cdv A outer s H E hr =>
    (css_cons (cs_par 2 3 sc_applied.nd (ce_ix (e2w (ce_var 0)) (e2w ce_int)) (ce_slice (e2w (ce_var 0)) (co_some ce_int) co_none))
    (css_cons (cs_if (ct_cmp (bin_in hr.u65) (e2w (ce_var 2)) (e2w (ce_tup (ca_cons ce_str (ca_cons ce_str (ca_cons ce_str ca_nil)))))) (css_cons (cs_if (ct_val (ce_callB1 (cr_allD rfl) M.all bt_all (f2w (cf_comp (own := [("line", 4)]) (is := [4]) rfl sc_applied.nd (ciw_seq (e2w (ce_slice (e2w (ce_var 3)) co_none (co_some (ce_neg ce_int))))) (blkOk_by (N := ["gate", "word", "kind", "lines", "line", "one", "other"]) (sc := (defScope s_applied)) (by decide +kernel)) (by decide) (fun _ _ _ _ _ => (cg_name 4 sc_applied.nd)) (fun _ _ _ _ _ => cts_nil) (fun _ _ _ _ _ => (ce_cmp (bin_eq hr.units) (e2w (ce_call fd_bit hr (by decide) passL (ca_cons (ce_var 1) (ca_cons (ce_var 4) ca_nil)))) (e2w ce_int))))))) (css_one (cs_ret (ce_bin bin_xor (e2w (ce_var 1)) (e2w (ce_call fd_weight_of hr (by decide) passC (ca_cons (ce_ix (e2w (ce_var 3)) (e2w (ce_neg ce_int))) ca_nil)))))) css_nil)
    (css_one (cs_ret (ce_var 1)))) css_nil)
    (css_cons (cs_if (ct_w (cw_and (ct_cmp (bin_eq hr.units) (e2w (ce_var 2)) (e2w ce_str)) (pw_and1 (ct_cmp (bin_eq hr.units) (e2w (ce_call fd_bit hr (by decide) passC (ca_cons (ce_var 1) (ca_cons (ce_ix (e2w (ce_var 3)) (e2w ce_int)) ca_nil)))) (e2w ce_int))))) (css_one (cs_ret (ce_var 1))) css_nil)
    (css_cons (cs_asgG (ce_slice (e2w (ce_var 3)) (co_some (ce_neg ce_int)) co_none) (cg_pair 5 6 sc_applied.nd))
    (css_cons (cs_if (ct_cmp (bin_eq hr.units) (e2w (ce_call fd_bit hr (by decide) passC (ca_cons (ce_var 1) (ca_cons (ce_var 5) ca_nil)))) (e2w (ce_call fd_bit hr (by decide) passC (ca_cons (ce_var 1) (ca_cons (ce_var 6) ca_nil))))) (css_one (cs_ret (ce_var 1))) css_nil)
    (css_one (cs_ret (ce_bin bin_xor (e2w (ce_bin bin_xor (e2w (ce_var 1)) (e2w (ce_call fd_weight_of hr (by decide) passC (ca_cons (ce_var 5) ca_nil))))) (e2w (ce_call fd_weight_of hr (by decide) passC (ca_cons (ce_var 6) ca_nil)))))))))))
abbrev s_first_difference : Stmt := topS 27
theorem sc_first_difference : FnScope ["one", "other", "word"] ["one", "other"] (defScope s_first_difference) := ⟨rfl, rfl, rfl, by decide +kernel, rfl, by decide +kernel, by decide +kernel⟩
theorem ok_first_difference {f : Addr} {fd : FuncData} (M : Mg K mg C) (F : Fun K "first_difference" "first_difference" s_first_difference f fd) (fd_applied : Fd P w K mg base C 3 "applied" 2 f_applied) :
    FnOk P w K mg base (L2.CX P w) 4 f fd ["one", "other"] (spF K C 2 f_first_difference) :=
  fn_ok (N := ["one", "other", "word"]) F sc_first_difference fun cdv A outer s H E hr =>
    (css_cons (cs_for rfl (ci_seq (g_SAME M)) (cg_name 2 sc_first_difference.nd)
    (css_one (cs_if (ct_cmp (bin_ne hr.units) (e2w (ce_call fd_applied hr (by decide) passL (ca_cons (ce_var 1) (ca_cons (ce_call fd_applied hr (by decide) passL (ca_cons (ce_var 0) (ca_cons (ce_var 2) ca_nil))) ca_nil)))) (e2w (ce_call fd_applied hr (by decide) passL (ca_cons (ce_var 0) (ca_cons (ce_call fd_applied hr (by decide) passL (ca_cons (ce_var 1) (ca_cons (ce_var 2) ca_nil))) ca_nil))))) (css_one (cs_ret (ce_var 2))) css_nil)))
    (css_one (cs_ret ce_non)))
abbrev s_may_change : Stmt := topS 28
theorem sc_may_change : FnScope ["one", "other"] ["one", "other"] (defScope s_may_change) := ⟨rfl, rfl, rfl, by decide +kernel, rfl, by decide +kernel, by decide +kernel⟩
theorem ok_may_change {f : Addr} {fd : FuncData} (M : Mg K mg C) (F : Fun K "may_change" "may_change" s_may_change f fd) (fd_check_gate : Fd P w K mg base C 3 "check_gate" 1 f_check_gate) (fd_first_difference : Fd P w K mg base C 4 "first_difference" 2 f_first_difference) :
    FnOk P w K mg base (L2.CX P w) 5 f fd ["one", "other"] (spF K C 2 f_may_change) :=
  fn_ok (N := ["one", "other"]) F sc_may_change fun cdv A outer s H E hr =>
    (css_cons (cs_expr (ce_call fd_check_gate hr (by decide) passC (ca_cons (ce_var 0) ca_nil)))
    (css_cons (cs_expr (ce_call fd_check_gate hr (by decide) passC (ca_cons (ce_var 1) ca_nil)))
    (css_one (cs_ret (ce_cmp bin_is (e2w (ce_call fd_first_difference hr (by decide) passC (ca_cons (ce_var 0) (ca_cons (ce_var 1) ca_nil)))) (e2w ce_non))))))
abbrev s_difference : Stmt := topS 29
theorem sc_difference : FnScope ["one", "other"] ["one", "other"] (defScope s_difference) := ⟨rfl, rfl, rfl, by decide +kernel, rfl, by decide +kernel, by decide +kernel⟩
theorem ok_difference {f : Addr} {fd : FuncData} (M : Mg K mg C) (F : Fun K "difference" "difference" s_difference f fd) (fd_check_gate : Fd P w K mg base C 3 "check_gate" 1 f_check_gate) (fd_first_difference : Fd P w K mg base C 4 "first_difference" 2 f_first_difference) :
    FnOk P w K mg base (L2.CX P w) 5 f fd ["one", "other"] (spF K C 2 f_difference) :=
  fn_ok (N := ["one", "other"]) F sc_difference fun cdv A outer s H E hr =>
    (css_cons (cs_expr (ce_call fd_check_gate hr (by decide) passC (ca_cons (ce_var 0) ca_nil)))
    (css_cons (cs_expr (ce_call fd_check_gate hr (by decide) passC (ca_cons (ce_var 1) ca_nil)))
    (css_one (cs_ret (ce_call fd_first_difference hr (by decide) passC (ca_cons (ce_var 0) (ca_cons (ce_var 1) ca_nil)))))))
abbrev s_pairs_of : Stmt := topS 30
theorem sc_pairs_of : FnScope ["circuit", "found", "one", "gate", "other", "between", "item"] ["circuit"] (defScope s_pairs_of) := ⟨rfl, rfl, rfl, by decide +kernel, rfl, by decide +kernel, by decide +kernel⟩
theorem ok_pairs_of {f : Addr} {fd : FuncData} (M : Mg K mg C) (F : Fun K "pairs_of" "pairs_of" s_pairs_of f fd) (fd_first_difference : Fd P w K mg base C 4 "first_difference" 2 f_first_difference) :
    FnOk P w K mg base (L2.CX P w) 5 f fd ["circuit"] (spF K C 1 f_pairs_of) :=
  fn_ok (N := ["circuit", "found", "one", "gate", "other", "between", "item"]) F sc_pairs_of fun cdv A outer s H E hr =>
    (css_cons (cs_own 1 sc_pairs_of.nd (cf_lst ca_nil))
    (css_cons (cs_for rfl (ci_enum M.enumerate (ce_var 0)) (cg_pair 2 3 sc_pairs_of.nd)
    (css_one (cs_for rfl (ci_range2 M.range (ce_bin bin_add (e2w (ce_var 2)) (e2w ce_int)) (ce_callB1 cr_len M.len bt_len (e2w (ce_var 0)))) (cg_name 4 sc_pairs_of.nd)
    (css_cons (cs_asg 5 sc_pairs_of.nd (ce_slice (e2w (ce_var 0)) (co_some (ce_bin bin_add (e2w (ce_var 2)) (e2w ce_int))) (co_some (ce_var 4))))
    (css_one (cs_if (ct_w (cw_and (ct_cmp (bin_eq hr.units) (e2w (ce_ix (e2w (ce_var 0)) (e2w (ce_var 4)))) (e2w (ce_var 3))) (pw_and1 (ct_val (ce_callB1 (cr_allD rfl) M.all bt_all (f2w (cf_comp (own := [("item", 6)]) (is := [6]) rfl sc_pairs_of.nd (ciw_seq (e2w (ce_var 5))) (blkOk_by (N := ["circuit", "found", "one", "gate", "other", "between", "item"]) (sc := (defScope s_pairs_of)) (by decide +kernel)) (by decide) (fun _ _ _ _ _ => (cg_name 6 sc_pairs_of.nd)) (fun _ _ _ _ _ => cts_nil) (fun _ _ _ _ _ => (ce_cmp bin_is (e2w (ce_call fd_first_difference hr (by decide) passL (ca_cons (ce_var 3) (ca_cons (ce_var 6) ca_nil)))) (e2w ce_non)))))))))) (css_one (cs_app 1 (ce_tup (ca_cons (ce_var 2) (ca_cons (ce_var 4) ca_nil))))) css_nil))))))
    (css_one (cs_frz 1 (cs_ret (ce_var 1))))))
abbrev s_shortened : Stmt := topS 31
theorem sc_shortened : FnScope ["circuit", "some", "one", "other"] ["circuit"] (defScope s_shortened) := ⟨rfl, rfl, rfl, by decide +kernel, rfl, by decide +kernel, by decide +kernel⟩
theorem ok_shortened {f : Addr} {fd : FuncData} (M : Mg K mg C) (F : Fun K "shortened" "shortened" s_shortened f fd) (fd_check_circuit : Fd P w K mg base C 4 "check_circuit" 1 f_check_circuit) (fd_pairs_of : Fd P w K mg base C 5 "pairs_of" 1 f_pairs_of) :
    FnOk P w K mg base (L2.CX P w) 6 f fd ["circuit"] (spF K C 1 f_shortened) :=
  fn_ok (N := ["circuit", "some", "one", "other"]) F sc_shortened fun cdv A outer s H E hr =>
    (css_cons (cs_expr (ce_call fd_check_circuit hr (by decide) passC (ca_cons (ce_var 0) ca_nil)))
    (css_cons (cs_asg 1 sc_shortened.nd (ce_call fd_pairs_of hr (by decide) passC (ca_cons (ce_var 0) ca_nil)))
    (css_cons (cs_while (n := 1000000) (ct_cmp (bin_ne hr.units) (e2w (ce_var 1)) (f2w (cf_lst ca_nil)))
    (css_cons (cs_asgG (ce_ix (e2w (ce_var 1)) (e2w ce_int)) (cg_pair 2 3 sc_shortened.nd))
    (css_cons (cs_asg 0 sc_shortened.nd (ce_bin bin_add (e2w (ce_bin bin_add (e2w (ce_slice (e2w (ce_var 0)) co_none (co_some (ce_var 2)))) (e2w (ce_slice (e2w (ce_var 0)) (co_some (ce_bin bin_add (e2w (ce_var 2)) (e2w ce_int))) (co_some (ce_var 3)))))) (e2w (ce_slice (e2w (ce_var 0)) (co_some (ce_bin bin_add (e2w (ce_var 3)) (e2w ce_int))) co_none))))
    (css_one (cs_asg 1 sc_shortened.nd (ce_call fd_pairs_of hr (by decide) passL (ca_cons (ce_var 0) ca_nil)))))))
    (css_one (cs_ret (ce_var 0))))))
abbrev s_cancelling : Stmt := topS 32
theorem sc_cancelling : FnScope ["circuit"] ["circuit"] (defScope s_cancelling) := ⟨rfl, rfl, rfl, by decide +kernel, rfl, by decide +kernel, by decide +kernel⟩
theorem ok_cancelling {f : Addr} {fd : FuncData} (M : Mg K mg C) (F : Fun K "cancelling" "cancelling" s_cancelling f fd) (fd_check_circuit : Fd P w K mg base C 4 "check_circuit" 1 f_check_circuit) (fd_pairs_of : Fd P w K mg base C 5 "pairs_of" 1 f_pairs_of) :
    FnOk P w K mg base (L2.CX P w) 6 f fd ["circuit"] (spF K C 1 f_cancelling) :=
  fn_ok (N := ["circuit"]) F sc_cancelling fun cdv A outer s H E hr =>
    (css_cons (cs_expr (ce_call fd_check_circuit hr (by decide) passC (ca_cons (ce_var 0) ca_nil)))
    (css_one (cs_ret (ce_callTy1 cr_tuple M.tuple bt_tuple (e2w (ce_call fd_pairs_of hr (by decide) passC (ca_cons (ce_var 0) ca_nil)))))))
abbrev s_law_is : Stmt := topS 35
theorem sc_law_is : FnScope ["found", "expected"] ["found", "expected"] (defScope s_law_is) := ⟨rfl, rfl, rfl, by decide +kernel, rfl, by decide +kernel, by decide +kernel⟩
theorem ok_law_is {f : Addr} {fd : FuncData} (M : Mg K mg C) (F : Fun K "_law_is" "_law_is" s_law_is f fd)  :
    FnOk P w K mg base (L2.CX P w) 1 f fd ["found", "expected"] (spF K C 2 f_law_is) :=
  fn_ok (N := ["found", "expected"]) F sc_law_is fun cdv A outer s H E hr =>
    (css_one (cs_ret (ce_and (ce_isi .bool M.isinstance M.bool bt_bool (e2w (ce_var 0))) (ce_one (ce_cmp (bin_eq hr.units) (e2w (ce_var 0)) (e2w (ce_var 1)))))))
abbrev s_law_draw : Stmt := topS 36
theorem sc_law_draw : FnScope ["script", "town", "many", "at", "rest", "number"] ["script", "town", "many"] (defScope s_law_draw) := ⟨rfl, rfl, rfl, by decide +kernel, rfl, by decide +kernel, by decide +kernel⟩
theorem ok_law_draw {f : Addr} {fd : FuncData} (M : Mg K mg C) (F : Fun K "_law_draw" "_law_draw" s_law_draw f fd)  :
    FnOk P w K mg base (L2.CX P w) 1 f fd ["script", "town", "many"] (spF K C 3 f_law_draw) :=
  fn_ok (N := ["script", "town", "many", "at", "rest", "number"]) F sc_law_draw fun cdv A outer s H E hr =>
    (css_cons (cs_tc 1 hr.u1 (ce_bin bin_add (e2w (ce_tc 1 hr.u1)) (e2w ce_int)))
    (css_cons (cs_asg 3 sc_law_draw.nd (ce_if (ct_scr 0) (ce_bin bin_mod (e2w (ce_tc 1 hr.u1)) (e2w (ce_callB1 cr_len M.len bt_len (e2w (ce_var 0))))) ce_int))
    (css_cons (cs_asg 4 sc_law_draw.nd (ce_tr 1 hr.u1 (ce_var 3) (ce_if (ct_scr 0) (ce_ix (e2w (ce_var 0)) (e2w (ce_var 3))) ce_int)))
    (css_cons (cs_if (ct_cmp bin_ge (e2w (ce_var 4)) (e2w (ce_bin bin_pow (e2w ce_int) (e2w ce_int)))) (css_cons (cs_tr 1 hr.u1 (ce_bin bin_div (e2w (ce_var 4)) (e2w (ce_var 2))) (ce_var 3))
    (css_one (cs_ret (ce_bin bin_mod (e2w (ce_var 4)) (e2w (ce_var 2)))))) css_nil)
    (css_cons (cs_asg 5 sc_law_draw.nd (ce_bin bin_mod (e2w (ce_bin bin_add (e2w (ce_var 4)) (e2w (ce_bin bin_mul (e2w ce_int) (e2w (ce_tc 1 hr.u1)))))) (e2w ce_int)))
    (css_cons (cs_asg 5 sc_law_draw.nd (ce_bin bin_mod (e2w (ce_bin bin_pow (e2w (ce_var 5)) (e2w ce_int))) (e2w ce_int)))
    (css_one (cs_ret (ce_bin bin_mod (e2w (ce_bin bin_div (e2w (ce_bin bin_mod (e2w (ce_bin bin_add (e2w (ce_bin bin_mul (e2w (ce_bin bin_div (e2w (ce_var 5)) (e2w ce_int))) (e2w ce_int))) (e2w (ce_var 5)))) (e2w ce_int))) (e2w ce_int))) (e2w (ce_var 2)))))))))))
abbrev s_law_begun : Stmt := topS 37
theorem sc_law_begun : FnScope [] [] (defScope s_law_begun) := ⟨rfl, rfl, rfl, by decide +kernel, rfl, by decide +kernel, by decide +kernel⟩
theorem ok_law_begun {f : Addr} {fd : FuncData} (M : Mg K mg C) (F : Fun K "_law_begun" "_law_begun" s_law_begun f fd)  :
    FnOk P w K mg base (L2.CX P w) 1 f fd [] (spF K C 0 f_law_begun) :=
  fn_ok (N := []) F sc_law_begun fun cdv A outer s H E hr =>
    (css_one (cs_ret ce_begun))
abbrev s_law_gates : Stmt := topS 38
theorem sc_law_gates : FnScope ["found", "one_here", "other_here", "rest", "line"] [] (defScope s_law_gates) := ⟨rfl, rfl, rfl, by decide +kernel, rfl, by decide +kernel, by decide +kernel⟩
theorem ok_law_gates {f : Addr} {fd : FuncData} (M : Mg K mg C) (F : Fun K "_law_gates" "_law_gates" s_law_gates f fd)  :
    FnOk P w K mg base (L2.CX P w) 1 f fd [] (spF K C 0 f_law_gates) :=
  fn_ok (N := ["found", "one_here", "other_here", "rest", "line"]) F sc_law_gates fun cdv A outer s H E hr =>
    (css_cons (cs_own 0 sc_law_gates.nd (cf_lst ca_nil))
    (css_cons (cs_for rfl (ci_range1 M.range ce_int) (cg_name 1 sc_law_gates.nd)
    (css_cons (cs_app 0 (ce_tup (ca_cons ce_str (ca_cons (ce_var 1) ca_nil))))
    (css_cons (cs_for rfl (ci_range1 M.range ce_int) (cg_name 2 sc_law_gates.nd)
    (css_one (cs_ext 0 (e2w (ce_if (ct_cmp (bin_ne hr.units) (e2w (ce_var 1)) (e2w (ce_var 2))) (f2e (cf_lst (ca_cons (ce_tup (ca_cons ce_str (ca_cons (ce_var 1) (ca_cons (ce_var 2) ca_nil)))) ca_nil))) (f2e (cf_lst ca_nil)))))))
    (css_cons (cs_asgLc 3 (own := [("line", 4)]) (is := [4]) rfl sc_law_gates.nd rfl (sw_true rfl rfl rfl (by decide +kernel)) (ci_w (ci_range1 M.range ce_int)) (blkOk_by (N := ["found", "one_here", "other_here", "rest", "line"]) (sc := (defScope s_law_gates)) (by decide +kernel)) (by decide) (fun _ _ _ _ _ => (cg_name 4 sc_law_gates.nd)) (fun _ _ _ _ _ => (cts_one (ct_cmp (bin_ne hr.units) (e2w (ce_var 4)) (e2w (ce_var 1))))) (fun _ _ _ _ _ => (ce_var 4)))
    (css_cons (cs_app 0 (ce_tup (ca_cons ce_str (ca_cons (ce_ix (e2w (ce_var 3)) (e2w ce_int)) (ca_cons (ce_ix (e2w (ce_var 3)) (e2w ce_int)) (ca_cons (ce_var 1) ca_nil))))))
    (css_cons (cs_app 0 (ce_tup (ca_cons ce_str (ca_cons (ce_ix (e2w (ce_var 3)) (e2w ce_int)) (ca_cons (ce_ix (e2w (ce_var 3)) (e2w ce_int)) ca_nil)))))
    (css_one (cs_app 0 (ce_tup (ca_cons ce_str (ca_cons (ce_var 1) (ca_cons (ce_ix (e2w (ce_var 3)) (e2w ce_int)) (ca_cons (ce_ix (e2w (ce_var 3)) (e2w ce_int)) ca_nil)))))))))))))
    (css_one (cs_ret (ce_callB1 (cr_sortedA hr.units) M.sorted bt_sorted (cw_peek 0))))))
abbrev s_law_circuit : Stmt := topS 39
theorem sc_law_circuit : FnScope ["script", "town", "kinds", "most", "some", "gate", "j"] ["script", "town", "kinds", "most"] (defScope s_law_circuit) := ⟨rfl, rfl, rfl, by decide +kernel, rfl, by decide +kernel, by decide +kernel⟩
theorem ok_law_circuit {f : Addr} {fd : FuncData} (M : Mg K mg C) (F : Fun K "_law_circuit" "_law_circuit" s_law_circuit f fd) (fd_law_gates : Fd P w K mg base C 1 "_law_gates" 0 f_law_gates) (fd_law_draw : Fd P w K mg base C 1 "_law_draw" 3 f_law_draw) :
    FnOk P w K mg base (L2.CX P w) 2 f fd ["script", "town", "kinds", "most"] (spF K C 4 f_law_circuit) :=
  fn_ok (N := ["script", "town", "kinds", "most", "some", "gate", "j"]) F sc_law_circuit fun cdv A outer s H E hr =>
    (css_cons (cs_asg 4 sc_law_circuit.nd (f2e (cf_comp (own := [("gate", 5)]) (is := [5]) rfl sc_law_circuit.nd (ciw_seq (e2w (ce_call0 fd_law_gates hr (by decide) passC))) (blkOk_by (N := ["script", "town", "kinds", "most", "some", "gate", "j"]) (sc := (defScope s_law_circuit)) (by decide +kernel)) (by decide) (fun _ _ _ _ _ => (cg_name 5 sc_law_circuit.nd)) (fun _ _ _ _ _ => (cts_one (ct_cmp (bin_in hr.u65) (e2w (ce_ix (e2w (ce_var 5)) (e2w ce_int))) (e2w (ce_var 2))))) (fun _ _ _ _ _ => (ce_var 5)))))
    (css_one (cs_ret (ce_callTy1 cr_tuple M.tuple bt_tuple (f2w (cf_comp (own := [("j", 6)]) (is := [6]) rfl sc_law_circuit.nd (ci_w (ci_range1 M.range (ce_call fd_law_draw hr (by decide) passC (ca_cons (ce_var 0) (ca_cons (ce_var 1) (ca_cons (ce_bin bin_add (e2w (ce_var 3)) (e2w ce_int)) ca_nil)))))) (blkOk_by (N := ["script", "town", "kinds", "most", "some", "gate", "j"]) (sc := (defScope s_law_circuit)) (by decide +kernel)) (by decide) (fun _ _ _ _ _ => (cg_name 6 sc_law_circuit.nd)) (fun _ _ _ _ _ => cts_nil) (fun _ _ _ _ _ => (ce_ix (e2w (ce_var 4)) (e2w (ce_call fd_law_draw hr (by decide) passL (ca_cons (ce_var 0) (ca_cons (ce_var 1) (ca_cons (ce_callB1 cr_len M.len bt_len (e2w (ce_var 4))) ca_nil)))))))))))))
abbrev s_law_apply : Stmt := topS 40
theorem sc_law_apply : FnScope ["gate", "word", "bits", "kind", "last", "one_here"] ["gate", "word"] (defScope s_law_apply) := ⟨rfl, rfl, rfl, by decide +kernel, rfl, by decide +kernel, by decide +kernel⟩
theorem ok_law_apply {f : Addr} {fd : FuncData} (M : Mg K mg C) (F : Fun K "_law_apply" "_law_apply" s_law_apply f fd)  :
    FnOk P w K mg base (L2.CX P w) 1 f fd ["gate", "word"] (spF K C 2 f_law_apply) :=
  fn_ok (N := ["gate", "word", "bits", "kind", "last", "one_here"]) F sc_law_apply fun cdv A outer s H E hr =>
    (css_cons (cs_own 2 sc_law_apply.nd (cf_lst (ca_cons (ce_bin bin_mod (e2w (ce_var 1)) (e2w ce_int)) (ca_cons (ce_bin bin_mod (e2w (ce_bin bin_div (e2w (ce_var 1)) (e2w ce_int))) (e2w ce_int)) (ca_cons (ce_bin bin_div (e2w (ce_var 1)) (e2w ce_int)) ca_nil)))))
    (css_cons (cs_par 3 4 sc_law_apply.nd (ce_ix (e2w (ce_var 0)) (e2w ce_int)) (ce_ix (e2w (ce_var 0)) (e2w (ce_neg ce_int))))
    (css_cons (cs_if (ct_w (cw_or (ct_cmp (bin_eq hr.units) (e2w (ce_var 3)) (e2w ce_str)) (pw_or1 (ct_w (cw_and (ct_cmp (bin_eq hr.units) (e2w (ce_var 3)) (e2w ce_str)) (pw_and1 (ct_cmp (bin_eq hr.units) (e2w (ce_ix (cw_peek 2) (e2w (ce_ix (e2w (ce_var 0)) (e2w ce_int))))) (e2w ce_int)))))))) (css_one (cs_put 2 (ce_bin bin_sub (e2w ce_int) (e2w (ce_ix (cw_peek 2) (e2w (ce_var 4))))) (ce_var 4))) css_nil)
    (css_cons (cs_if (ct_w (cw_and (ct_cmp (bin_eq hr.units) (e2w (ce_var 3)) (e2w ce_str)) (pw_and1 (ct_cmp (bin_eq hr.units) (e2w (ce_bin bin_add (e2w (ce_ix (cw_peek 2) (e2w (ce_ix (e2w (ce_var 0)) (e2w ce_int))))) (e2w (ce_ix (cw_peek 2) (e2w (ce_ix (e2w (ce_var 0)) (e2w ce_int))))))) (e2w ce_int))))) (css_one (cs_put 2 (ce_bin bin_sub (e2w ce_int) (e2w (ce_ix (cw_peek 2) (e2w (ce_var 4))))) (ce_var 4))) css_nil)
    (css_cons (cs_if (ct_w (cw_or (ct_cmp (bin_eq hr.units) (e2w (ce_var 3)) (e2w ce_str)) (pw_or1 (ct_w (cw_and (ct_cmp (bin_eq hr.units) (e2w (ce_var 3)) (e2w ce_str)) (pw_and1 (ct_cmp (bin_eq hr.units) (e2w (ce_ix (cw_peek 2) (e2w (ce_ix (e2w (ce_var 0)) (e2w ce_int))))) (e2w ce_int)))))))) (css_cons (cs_asg 5 sc_law_apply.nd (ce_ix (e2w (ce_var 0)) (e2w (ce_neg ce_int))))
    (css_one (cs_asgS (ce_tup (ca_cons (ce_ix (cw_peek 2) (e2w (ce_var 4))) (ca_cons (ce_ix (cw_peek 2) (e2w (ce_var 5))) ca_nil))) (cgs_tup (n := 2) (cgq_cons (cgs_put 2 (ce_var 5)) (cgq_cons (cgs_put 2 (ce_var 4)) cgq_nil)))))) css_nil)
    (css_one (cs_ret (ce_bin bin_add (e2w (ce_bin bin_add (e2w (ce_ix (cw_peek 2) (e2w ce_int))) (e2w (ce_bin bin_mul (e2w ce_int) (e2w (ce_ix (cw_peek 2) (e2w ce_int))))))) (e2w (ce_bin bin_mul (e2w ce_int) (e2w (ce_ix (cw_peek 2) (e2w ce_int)))))))))))))
abbrev s_law_differ : Stmt := topS 41
theorem sc_law_differ : FnScope ["one_here", "other_here", "word"] ["one_here", "other_here"] (defScope s_law_differ) := ⟨rfl, rfl, rfl, by decide +kernel, rfl, by decide +kernel, by decide +kernel⟩
theorem ok_law_differ {f : Addr} {fd : FuncData} (M : Mg K mg C) (F : Fun K "_law_differ" "_law_differ" s_law_differ f fd) (fd_law_apply : Fd P w K mg base C 1 "_law_apply" 2 f_law_apply) :
    FnOk P w K mg base (L2.CX P w) 2 f fd ["one_here", "other_here"] (spF K C 2 f_law_differ) :=
  fn_ok (N := ["one_here", "other_here", "word"]) F sc_law_differ fun cdv A outer s H E hr =>
    (css_cons (cs_for rfl (ci_range1 M.range ce_int) (cg_name 2 sc_law_differ.nd)
    (css_one (cs_if (ct_cmp (bin_ne hr.units) (e2w (ce_call fd_law_apply hr (by decide) passL (ca_cons (ce_var 1) (ca_cons (ce_call fd_law_apply hr (by decide) passL (ca_cons (ce_var 0) (ca_cons (ce_var 2) ca_nil))) ca_nil)))) (e2w (ce_call fd_law_apply hr (by decide) passL (ca_cons (ce_var 0) (ca_cons (ce_call fd_law_apply hr (by decide) passL (ca_cons (ce_var 1) (ca_cons (ce_var 2) ca_nil))) ca_nil))))) (css_one (cs_ret (ce_var 2))) css_nil)))
    (css_one (cs_ret ce_non)))
abbrev s_law_pairs : Stmt := topS 42
theorem sc_law_pairs : FnScope ["circuit_here", "found", "one_here", "good", "other_here"] ["circuit_here"] (defScope s_law_pairs) := ⟨rfl, rfl, rfl, by decide +kernel, rfl, by decide +kernel, by decide +kernel⟩
theorem ok_law_pairs {f : Addr} {fd : FuncData} (M : Mg K mg C) (F : Fun K "_law_pairs" "_law_pairs" s_law_pairs f fd) (fd_law_differ : Fd P w K mg base C 2 "_law_differ" 2 f_law_differ) :
    FnOk P w K mg base (L2.CX P w) 3 f fd ["circuit_here"] (spF K C 1 f_law_pairs) :=
  fn_ok (N := ["circuit_here", "found", "one_here", "good", "other_here"]) F sc_law_pairs fun cdv A outer s H E hr =>
    (css_cons (cs_own 1 sc_law_pairs.nd (cf_lst ca_nil))
    (css_cons (cs_for rfl (ci_range1 M.range (ce_callB1 cr_len M.len bt_len (e2w (ce_var 0)))) (cg_name 2 sc_law_pairs.nd)
    (css_cons (cs_asg 3 sc_law_pairs.nd ce_bl)
    (css_one (cs_for rfl (ci_range2 M.range (ce_bin bin_add (e2w (ce_var 2)) (e2w ce_int)) (ce_callB1 cr_len M.len bt_len (e2w (ce_var 0)))) (cg_name 4 sc_law_pairs.nd)
    (css_cons (cs_if (ct_w (cw_and (ct_val (ce_var 3)) (pw_and1 (ct_cmp (bin_eq hr.units) (e2w (ce_ix (e2w (ce_var 0)) (e2w (ce_var 4)))) (e2w (ce_ix (e2w (ce_var 0)) (e2w (ce_var 2)))))))) (css_one (cs_app 1 (ce_tup (ca_cons (ce_var 2) (ca_cons (ce_var 4) ca_nil))))) css_nil)
    (css_one (cs_asg 3 sc_law_pairs.nd (ce_and (ce_var 3) (ce_one (ce_cmp bin_is (e2w (ce_call fd_law_differ hr (by decide) passL (ca_cons (ce_ix (e2w (ce_var 0)) (e2w (ce_var 2))) (ca_cons (ce_ix (e2w (ce_var 0)) (e2w (ce_var 4))) ca_nil)))) (e2w ce_non)))))))))))
    (css_one (cs_ret (ce_callTy1 cr_tuple M.tuple bt_tuple (cw_peek 1))))))
abbrev s_law_short : Stmt := topS 43
theorem sc_law_short : FnScope ["circuit_here", "pair", "at", "gate"] ["circuit_here"] (defScope s_law_short) := ⟨rfl, rfl, rfl, by decide +kernel, rfl, by decide +kernel, by decide +kernel⟩
theorem ok_law_short {f : Addr} {fd : FuncData} (M : Mg K mg C) (F : Fun K "_law_short" "_law_short" s_law_short f fd) (fd_law_pairs : Fd P w K mg base C 3 "_law_pairs" 1 f_law_pairs) :
    FnOk P w K mg base (L2.CX P w) 4 f fd ["circuit_here"] (spF K C 1 f_law_short) :=
  fn_ok (N := ["circuit_here", "pair", "at", "gate"]) F sc_law_short fun cdv A outer s H E hr =>
    (css_cons (cs_while (n := 1000000) (ct_cmp (bin_ne hr.units) (e2w (ce_call fd_law_pairs hr (by decide) passL (ca_cons (ce_var 0) ca_nil))) (e2w (ce_tup ca_nil)))
    (css_cons (cs_asg 1 sc_law_short.nd (ce_ix (e2w (ce_call fd_law_pairs hr (by decide) passL (ca_cons (ce_var 0) ca_nil))) (e2w ce_int)))
    (css_one (cs_asg 0 sc_law_short.nd (ce_callTy1 cr_tuple M.tuple bt_tuple (f2w (cf_comp (own := [("at", 2), ("gate", 3)]) (is := [2, 3]) rfl sc_law_short.nd (ci_w (ci_enum M.enumerate (ce_var 0))) (blkOk_by (N := ["circuit_here", "pair", "at", "gate"]) (sc := (defScope s_law_short)) (by decide +kernel)) (by decide) (fun _ _ _ _ _ => (cg_pair 2 3 sc_law_short.nd)) (fun _ _ _ _ _ => (cts_one (ct_cmp (bin_notIn hr.u65) (e2w (ce_var 2)) (e2w (ce_var 1))))) (fun _ _ _ _ _ => (ce_var 3)))))))))
    (css_one (cs_ret (ce_var 0))))
abbrev s_law : Stmt := topS 44
theorem sc_law : FnScope ["script", "town", "gates", "one_here", "other_here", "due", "k", "some", "circuit_here", "odd", "answers"] ["script"] (defScope s_law) := ⟨rfl, rfl, rfl, by decide +kernel, rfl, by decide +kernel, by decide +kernel⟩
theorem ok_law {f ca : Addr} {kV doc pm ct oc : Value} {an od : Option Addr} {osl : Array (Option Value)} (M : Mg K mg C) (lk : K.lookup f = some ⟨oc, od, .func (PySem.W.fnOf "law" "law" (defArgs s_law) (defBody s_law) (defScope s_law) .none kV doc pm an (.ref ca) ct), osl⟩) (hcd : PySem.W.codeIn K (.ref ca) "law" = true) (R : ResF K mg C) (Lm : LamD base mg C "law" ca) (fd_law_begun : Fd P w K mg base C 1 "_law_begun" 0 f_law_begun) (fd_law_gates : Fd P w K mg base C 1 "_law_gates" 0 f_law_gates) (fd_law_draw : Fd P w K mg base C 1 "_law_draw" 3 f_law_draw) (fd_law_differ : Fd P w K mg base C 2 "_law_differ" 2 f_law_differ) (fk0_difference : FdK P w K mg base C 5 "difference" 0 ["one", "other"] f_difference) (fk0_may_change : FdK P w K mg base C 5 "may_change" 0 ["one", "other"] f_may_change) (fd_law_is : Fd P w K mg base C 1 "_law_is" 2 f_law_is) (fd_law_circuit : Fd P w K mg base C 2 "_law_circuit" 4 f_law_circuit) (fk0_cancelling : FdK P w K mg base C 6 "cancelling" 0 ["circuit"] f_cancelling) (fd_law_pairs : Fd P w K mg base C 3 "_law_pairs" 1 f_law_pairs) (fk0_shortened : FdK P w K mg base C 6 "shortened" 0 ["circuit"] f_shortened) (fd_law_short : Fd P w K mg base C 4 "_law_short" 1 f_law_short) (fd_cancelling : Fd P w K mg base C 6 "cancelling" 1 f_cancelling) (fd_shortened : Fd P w K mg base C 6 "shortened" 1 f_shortened) (fd_may_change : Fd P w K mg base C 5 "may_change" 2 f_may_change) (fd_difference : Fd P w K mg base C 5 "difference" 2 f_difference) :
    FnOk P w K mg base (L2.CX P w) 9 f (PySem.W.fnOf "law" "law" (defArgs s_law) (defBody s_law) (defScope s_law) .none kV doc pm an (.ref ca) ct) ["script"] (spF K C 1 f_law) :=
  fn_okL (N := ["script", "town", "gates", "one_here", "other_here", "due", "k", "some", "circuit_here", "odd", "answers"]) lk hcd sc_law fun A outer s H E hr =>
    (css_cons (cs_asg 1 sc_law.nd (ce_call0 fd_law_begun hr (by decide) passC))
    (css_cons (cs_asg 2 sc_law.nd (ce_call0 fd_law_gates hr (by decide) passC))
    (css_cons (cs_asg 3 sc_law.nd (ce_ix (e2w (ce_var 2)) (e2w (ce_call fd_law_draw hr (by decide) passC (ca_cons (ce_var 0) (ca_cons (ce_var 1) (ca_cons ce_int ca_nil)))))))
    (css_cons (cs_for rfl (ci_seq (ce_var 2)) (cg_name 4 sc_law.nd)
    (css_cons (cs_asg 5 sc_law.nd (ce_call fd_law_differ hr (by decide) passL (ca_cons (ce_var 3) (ca_cons (ce_var 4) ca_nil))))
    (css_cons (cs_if (ct_cmp (bin_ne hr.units) (e2w (ce_callK0 fk0_difference hr (by decide) passL (ck_cons (ce_var 3) (ck_cons (ce_var 4) ck_nil)))) (e2w (ce_var 5))) (css_one (cs_ret ce_bl)) css_nil)
    (css_one (cs_if (ct_not (ct_val (ce_call fd_law_is hr (by decide) passL (ca_cons (ce_callK0 fk0_may_change hr (by decide) passL (ck_cons (ce_var 3) (ck_cons (ce_var 4) ck_nil))) (ca_cons (ce_cmp bin_is (e2w (ce_var 5)) (e2w ce_non)) ca_nil))))) (css_one (cs_ret ce_bl)) css_nil)))))
    (css_cons (cs_for rfl (ci_range1 M.range ce_int) (cg_name 6 sc_law.nd)
    (css_cons (cs_asg 7 sc_law.nd (ce_ix (e2w (ce_tup (ca_cons (ce_tup (ca_cons ce_str (ca_cons ce_str (ca_cons ce_str (ca_cons ce_str (ca_cons ce_str ca_nil)))))) (ca_cons (ce_tup (ca_cons ce_str (ca_cons ce_str ca_nil))) (ca_cons (ce_tup (ca_cons ce_str (ca_cons ce_str ca_nil))) (ca_cons (ce_tup (ca_cons ce_str (ca_cons ce_str ca_nil))) ca_nil)))))) (e2w (ce_var 6))))
    (css_cons (cs_asg 8 sc_law.nd (ce_call fd_law_circuit hr (by decide) passL (ca_cons (ce_var 0) (ca_cons (ce_var 1) (ca_cons (ce_var 7) (ca_cons ce_int ca_nil))))))
    (css_cons (cs_if (ct_cmp (bin_eq hr.units) (e2w (ce_call fd_law_draw hr (by decide) passL (ca_cons (ce_var 0) (ca_cons (ce_var 1) (ca_cons ce_int ca_nil))))) (e2w ce_int)) (css_one (cs_asg 8 sc_law.nd (ce_bin bin_add (e2w (ce_var 8)) (e2w (ce_rev (e2w (ce_var 8))))))) css_nil)
    (css_cons (cs_if (ct_cmp (bin_ne hr.units) (e2w (ce_callK0 fk0_cancelling hr (by decide) passL (ck_cons (ce_var 8) ck_nil))) (e2w (ce_call fd_law_pairs hr (by decide) passL (ca_cons (ce_var 8) ca_nil)))) (css_one (cs_ret ce_bl)) css_nil)
    (css_cons (cs_if (ct_cmp (bin_ne hr.units) (e2w (ce_callK0 fk0_shortened hr (by decide) passL (ck_cons (ce_var 8) ck_nil))) (e2w (ce_call fd_law_short hr (by decide) passL (ca_cons (ce_var 8) ca_nil)))) (css_one (cs_ret ce_bl)) css_nil)
    (css_cons (cs_for rfl (ci_seq (ce_tup (ca_cons ce_non (ca_cons (f2e (cf_lst ca_nil)) (ca_cons (ce_tup (ca_cons (ce_tup (ca_cons ce_str ca_nil)) ca_nil)) (ca_cons (ce_bin bin_mul (e2w (ce_tup (ca_cons (ce_tup (ca_cons ce_str (ca_cons ce_int ca_nil))) ca_nil))) (e2w ce_int)) ca_nil)))))) (cg_name 9 sc_law.nd)
    (css_cons (cs_own 10 sc_law.nd (cf_lst (ca_cons (r_res M.toBt R Lm rfl rfl hr (LamX.lamS_by (sc := (defScope s_law)) (by decide +kernel)) fun _ _ _ _ _ _ _ hr => (ce_call fd_cancelling hr (by decide) passM (ca_cons (ce_var 9) ca_nil))) ca_nil)))
    (css_one (cs_if (ct_cmp (bin_ne hr.units) (e2w (ce_bin bin_add (cw_peek 10) (f2w (cf_lst (ca_cons (r_res M.toBt R Lm rfl rfl hr (LamX.lamS_by (sc := (defScope s_law)) (by decide +kernel)) fun _ _ _ _ _ _ _ hr => (ce_call fd_shortened hr (by decide) passM (ca_cons (ce_var 9) ca_nil))) ca_nil))))) (e2w (ce_bin bin_mul (f2w (cf_lst (ca_cons (ce_tup (ca_cons ce_str ca_nil)) ca_nil))) (e2w ce_int)))) (css_one (cs_ret ce_bl)) css_nil))))
    (css_one (cs_for rfl (ci_seq (ce_tup (ca_cons ce_non (ca_cons (ce_tup (ca_cons ce_str ca_nil)) (ca_cons (ce_tup (ca_cons ce_str (ca_cons ce_int (ca_cons ce_int (ca_cons ce_int ca_nil))))) (ca_cons (ce_tup (ca_cons (ce_tup (ca_cons ce_str (ca_cons ce_int ca_nil))) ca_nil)) ca_nil)))))) (cg_name 9 sc_law.nd)
    (css_cons (cs_own 10 sc_law.nd (cf_lst (ca_cons (r_res M.toBt R Lm rfl rfl hr (LamX.lamS_by (sc := (defScope s_law)) (by decide +kernel)) fun _ _ _ _ _ _ _ hr => (ce_call fd_may_change hr (by decide) passM (ca_cons (ce_var 9) (ca_cons ce_non ca_nil)))) ca_nil)))
    (css_cons (cs_app 10 (r_res M.toBt R Lm rfl rfl hr (LamX.lamS_by (sc := (defScope s_law)) (by decide +kernel)) fun _ _ _ _ _ _ _ hr => (ce_call fd_difference hr (by decide) passM (ca_cons (ce_var 9) (ca_cons ce_non ca_nil)))))
    (css_cons (cs_app 10 (r_res M.toBt R Lm rfl rfl hr (LamX.lamS_by (sc := (defScope s_law)) (by decide +kernel)) fun _ _ _ _ _ _ _ hr => (ce_call fd_may_change hr (by decide) passM (ca_cons (ce_var 3) (ca_cons (ce_var 9) ca_nil)))))
    (css_one (cs_if (ct_cmp (bin_ne hr.units) (e2w (ce_bin bin_add (cw_peek 10) (f2w (cf_lst (ca_cons (r_res M.toBt R Lm rfl rfl hr (LamX.lamS_by (sc := (defScope s_law)) (by decide +kernel)) fun _ _ _ _ _ _ _ hr => (ce_call fd_difference hr (by decide) passM (ca_cons (ce_var 3) (ca_cons (ce_var 9) ca_nil)))) ca_nil))))) (e2w (ce_bin bin_mul (f2w (cf_lst (ca_cons (ce_tup (ca_cons ce_str ca_nil)) ca_nil))) (e2w ce_int)))) (css_one (cs_ret ce_bl)) css_nil))))))))))))))
    (css_one (cs_ret ce_bl)))))))
end
end K14
set_option Elab.async false
set_option linter.all false
set_option maxRecDepth 100000
set_option maxHeartbeats 4000000
namespace BG
open PySem
/-- it returns, and Q holds of what is returned -/
def W {α : Type} (r : Option (Out α)) (Q : α → Tn → Prop) : Prop := match r with
  | some (.ok a t) => Q a t
  | _ => False
section
variable {α β : Type} {Q : α → Tn → Prop}
theorem W.ex {r : Option (Out α)} (h : W r Q) : ∃ a t, r = some (.ok a t) ∧ Q a t := by
  match r, h with
  | some (.ok a t), h => exact ⟨a, t, rfl, h⟩
theorem W.mono {Q' : α → Tn → Prop} {r : Option (Out α)} (h : W r Q) (i : ∀ a t, Q a t → Q' a t) : W r Q' := by
  obtain ⟨a, t, rfl, q⟩ := h.ex
  exact i a t q
theorem w_ret {a : α} {t : Tn} (h : Q a t) : W (ret a t) Q := h
theorem w_bnd {m : M β} {f : β → M α} {t : Tn} (h : W (m t) fun a t' => W (f a t') Q) : W (bnd m f t) Q := by
  obtain ⟨a, t', e, q⟩ := h.ex
  rw [bnd_ok e]; exact q
theorem w_calm {m : M α} {t : Tn} (h : W (m t) Q) : W (calm m t) Q := by
  obtain ⟨a, t', e, q⟩ := h.ex
  unfold calm; rw [e]; exact q
theorem w_eq {m : M α} {a : α} {t : Tn} (e : m = ret a) (h : Q a t) : W (m t) Q := by rw [e]; exact h
end
theorem eq_of_W {m : M D} {d : D} (h : ∀ t, W (m t) fun x t' => x = d ∧ t' = t) : m = ret d := by
  funext t
  obtain ⟨a, t', e, rfl, rfl⟩ := (h t).ex
  exact e
section
variable {S : Sl} {t : Tn} {Q : D → Tn → Prop}
theorem w_var {i : Nat} {d : D} (e : S[i]? = some (.val d)) (h : Q d t) : W (eVar i S t) Q := by
  unfold eVar; rw [e]; exact h
theorem w_peekV {i : Nat} {d : D} (e : S[i]? = some (.val d)) (h : Q d t) : W (ePeek i S t) Q := by
  unfold ePeek; rw [e]; exact h
theorem w_peekO {i : Nat} {ds : List D} (e : S[i]? = some (.own ds)) (h : Q (.lst ds) t) : W (ePeek i S t) Q := by
  unfold ePeek; rw [e]; exact h
theorem w_c {d : D} (h : Q d t) : W (eC d S t) Q := h
theorem w_bin {op : D → D → M D} {a b : Ex} (h : W (a S t) fun x t1 => W (b S t1) fun y t2 => W (op x y t2) Q) : W (eBin op a b S t) Q := w_bnd (h.mono fun _ _ h => w_bnd h)
theorem w_un {op : D → M D} {a : Ex} (h : W (a S t) fun x t1 => W (op x t1) Q) : W (eUn op a S t) Q := w_bnd h
theorem w_evnil {Q : List D → Tn → Prop} (h : Q [] t) : W (evs [] S t) Q := h
theorem w_evcons {f : Ex} {fs : List Ex} {Q : List D → Tn → Prop} (h : W (f S t) fun d t1 => W (evs fs S t1) fun ds t2 => Q (d :: ds) t2) : W (evs (f :: fs) S t) Q := w_bnd (h.mono fun _ _ h => w_bnd h)
theorem w_evc1 {f : Ex} {fs hs : List Ex} {Q : List D → Tn → Prop} (h : W (evs (f :: (fs ++ hs)) S t) Q) : W (evs ((f :: fs) ++ hs) S t) Q := h
theorem w_evc0 {hs : List Ex} {Q : List D → Tn → Prop} (h : W (evs hs S t) Q) : W (evs ([] ++ hs) S t) Q := h
theorem w_tup {fs : List Ex} (h : W (evs fs S t) fun ds t1 => Q (.tup ds) t1) : W (eTup fs S t) Q := w_bnd h
theorem w_lst {fs : List Ex} (h : W (evs fs S t) fun ds t1 => Q (.lst ds) t1) : W (eLst fs S t) Q := w_bnd h
theorem w_call {F : Fn} {fs : List Ex} (h : W (evs fs S t) fun ds t1 => W (F ds t1) Q) : W (eCall F fs S t) Q := w_bnd h
/-- of a truth value -/
def Bl (Q : Bool → Tn → Prop) : D → Tn → Prop := fun d t => match d with
  | .bl b => Q b t
  | _ => False
theorem w_and {a b : Ex} (h : W (a S t) (Bl fun k t1 => (k = true → W (b S t1) Q) ∧ (k = false → Q (.bl false) t1))) : W (eAnd a b S t) Q := w_bnd (h.mono fun d t1 q => by
  cases d with
  | bl k => cases k with
    | true => exact q.1 rfl
    | false => exact q.2 rfl
  | _ => exact q.elim)
theorem w_or {a b : Ex} (h : W (a S t) (Bl fun k t1 => (k = false → W (b S t1) Q) ∧ (k = true → Q (.bl true) t1))) : W (eOr a b S t) Q := w_bnd (h.mono fun d t1 q => by
  cases d with
  | bl k => cases k with
    | true => exact q.2 rfl
    | false => exact q.1 rfl
  | _ => exact q.elim)
theorem w_ife {c a b : Ex} (h : W (c S t) (Bl fun k t1 => (k = true → W (a S t1) Q) ∧ (k = false → W (b S t1) Q))) : W (eIf c a b S t) Q := w_bnd (h.mono fun d t1 q => by
  cases d with
  | bl k => cases k with
    | true => exact q.1 rfl
    | false => exact q.2 rfl
  | _ => exact q.elim)
theorem w_chain {o1 o2 : D → D → M D} {a b c : Ex} (h : W (a S t) fun x t1 => W (b S t1) fun y t2 => W (o1 x y t2) (Bl fun k t3 => (k = true → W (c S t3) fun u t4 => W (o2 y u t4) Q) ∧ (k = false → Q (.bl false) t3))) : W (eChain o1 o2 a b c S t) Q :=
  w_bnd (h.mono fun x t1 h => w_bnd (h.mono fun y t2 h => w_bnd (h.mono fun d t3 q => by
    cases d with
    | bl k => cases k with
      | true => exact w_bnd (q.1 rfl)
      | false => exact q.2 rfl
    | _ => exact q.elim)))
theorem w_not {b : Bool} (h : Q (.bl (!b)) t) : W (oNot (.bl b) t) Q := h
theorem w_slice {a : Ex} {lo hi : Option Ex} (h : W (a S t) fun x t1 => W (oEx lo S t1) fun l t2 => W (oEx hi S t2) fun u t3 => W (pSlice x l u t3) Q) : W (eSlice a lo hi S t) Q :=
  w_bnd (h.mono fun x t1 h => w_bnd (h.mono fun l t2 h => w_bnd h))
theorem w_oN {Q : Option Int → Tn → Prop} (h : Q none t) : W (oEx none S t) Q := h
/-- of a number -/
def In (Q : Int → Tn → Prop) : D → Tn → Prop := fun d t => match d with
  | .int i => Q i t
  | _ => False
theorem w_oS {f : Ex} {Q : Option Int → Tn → Prop} (h : W (f S t) (In fun i t1 => Q (some i) t1)) : W (oEx (some f) S t) Q := w_bnd (h.mono fun d t1 q => by
  cases d with
  | int k => exact q
  | _ => exact q.elim)
theorem w_comp {vs : List Nat} {it : Sl → M (List D)} {tg : Tg} {cond elt : Ex} (h : W (it S t) fun ds t1 => ds.length ≤ sizeLine ∧ W (cmpL tg cond elt (wipeS S vs) ds t1) fun rs t2 => Q (.lst rs) t2) : W (eComp vs it tg cond elt S t) Q :=
  w_bnd (h.mono fun ds t1 ⟨h1, h2⟩ => by rw [if_pos h1]; exact w_bnd h2)
/-- of a tuple or a list -/
def Sq (Q : List D → Tn → Prop) : D → Tn → Prop := fun d t => match d with
  | .tup ds => Q ds t
  | .lst ds => Q ds t
  | _ => False
theorem w_itSeq {f : Ex} {Q : List D → Tn → Prop} (h : W (f S t) (Sq Q)) : W (itSeq f S t) Q := w_bnd (h.mono fun d t1 q => by
  cases d with
  | tup ds => exact q
  | lst ds => exact q
  | _ => exact q.elim)
def rng (n : Nat) : List D := (List.range n).map fun (i : Nat) => D.int (i : Int)
theorem rng_eq (n : Nat) : ((List.range n).map fun (i : Nat) => D.int ((0 : Int) + (i : Int))) = rng n := by
  unfold rng
  exact List.map_congr_left fun i _ => by rw [Int.zero_add]
theorem w_itR {f : Ex} {Q : List D → Tn → Prop} (h : W (f S t) (In fun j t1 => 0 ≤ j ∧ j < 2 ^ 62 ∧ Q (rng j.toNat) t1)) : W (itRange1 f S t) Q := w_bnd (h.mono fun d t1 q => by
  cases d with
  | int k =>
    obtain ⟨h1, h2, h3⟩ := q
    show W ((if -(2 ^ 62) ≤ k ∧ k < 2 ^ 62 then ret ((List.range k.toNat).map fun (i : Nat) => D.int ((0 : Int) + (i : Int))) else stuck) t1) Q
    rw [if_pos ⟨by omega, h2⟩, rng_eq]
    exact h3
  | _ => exact q.elim)
end
section
variable {S : Sl} {t : Tn} {Q : Fl → Tn → Prop}
/-- what follows: on with the slots, or back with a value -/
def Nx (N : Sl → Tn → Prop) (R : D → Tn → Prop) : Fl → Tn → Prop := fun fl t => match fl with
  | .nx S => N S t
  | .ret d => R d t
theorem w_nil (h : Q (.nx S) t) : W (sNil S t) Q := h
theorem w_seq {a b : Stm} (h : W (a S t) (Nx (fun S' t' => W (b S' t') Q) (fun d t' => Q (.ret d) t'))) : W (sSeq a b S t) Q := w_bnd (h.mono fun fl t1 q => by
  cases fl with
  | nx S' => exact q
  | ret d => exact q)
theorem w_asg {i : Nat} {e : Ex} (h : W (e S t) fun d t1 => Q (.nx (S.set i (.val d))) t1) : W (sAsg i e S t) Q := w_bnd h
/-- of a list -/
def Ls (Q : List D → Tn → Prop) : D → Tn → Prop := fun d t => match d with
  | .lst ds => Q ds t
  | _ => False
theorem w_own {i : Nat} {e : Ex} (h : W (e S t) (Ls fun ds t1 => Q (.nx (S.set i (.own ds))) t1)) : W (sOwn i e S t) Q := w_bnd (h.mono fun d t1 q => by
  cases d with
  | lst ds => exact q
  | _ => exact q.elim)
theorem w_par {i j : Nat} {a b : Ex} (h : W (a S t) fun x t1 => W (b S t1) fun y t2 => Q (.nx ((S.set i (.val x)).set j (.val y))) t2) : W (sPar i j a b S t) Q := w_bnd (h.mono fun _ _ h => w_bnd h)
theorem w_parO {i j : Nat} {a b : Ex} (h : W (a S t) fun x t1 => W (b S t1) (Ls fun ds t2 => Q (.nx ((S.set i (.val x)).set j (.own ds))) t2)) : W (sParO i j a b S t) Q := w_bnd (h.mono fun _ _ h => w_bnd (h.mono fun d t1 q => by
  cases d with
  | lst ds => exact q
  | _ => exact q.elim))
theorem w_app {i : Nat} {ds : List D} {e : Ex} (he : S[i]? = some (.own ds)) (h : W (e S t) fun d t1 => ds.length < sizeLine ∧ Q (.nx (S.set i (.own (ds ++ [d])))) t1) : W (sApp i e S t) Q := by
  unfold sApp
  rw [he]
  exact w_bnd (h.mono fun d t1 ⟨h1, h2⟩ => by
    show W ((if ds.length < sizeLine then ret (Fl.nx (S.set i (.own (ds ++ [d])))) else stuck) t1) Q
    rw [if_pos h1]; exact h2)
theorem w_expr {e : Ex} (h : W (e S t) fun _ t1 => Q (.nx S) t1) : W (sExpr e S t) Q := w_bnd h
theorem w_if {c : Ex} {a b : Stm} (h : W (c S t) (Bl fun k t1 => (k = true → W (a S t1) Q) ∧ (k = false → W (b S t1) Q))) : W (sIf c a b S t) Q := w_bnd (h.mono fun d t1 q => by
  cases d with
  | bl k => cases k with
    | true => exact q.1 rfl
    | false => exact q.2 rfl
  | _ => exact q.elim)
theorem w_sret {e : Ex} (h : W (e S t) fun d t1 => Q (.ret d) t1) : W (sRet e S t) Q := w_bnd h
theorem w_frz {i : Nat} {ds : List D} {a : Stm} (he : S[i]? = some (.own ds)) (h : W (a (S.set i (.val (.lst ds))) t) Q) : W (sFrz i a S t) Q := by
  unfold sFrz; rw [he]; exact h
theorem w_for {it : Sl → M (List D)} {tg : Tg} {body : Stm} (h : W (it S t) fun ds t1 => W (forL tg body ds S t1) Q) : W (sFor it tg body S t) Q := w_bnd (w_calm h)
theorem w_forI {tg : Tg} {body : Stm} (I : Nat → Sl → Tn → Prop) : ∀ {ds : List D} {k : Nat} {S : Sl} {t : Tn}, I k S t →
    (∀ i d, ds[i]? = some d → ∀ S t, I (k + i) S t → ∃ S', tg d S = some S' ∧ W (body S' t) (Nx (fun S2 t2 => I (k + i + 1) S2 t2) fun d t2 => Q (.ret d) t2)) →
    (∀ S t, I (k + ds.length) S t → Q (.nx S) t) → W (forL tg body ds S t) Q
  | [], k, S, t, h0, _, hQ => hQ S t h0
  | d :: ds, k, S, t, h0, hs, hQ => by
    obtain ⟨S', e, w⟩ := hs 0 d rfl S t h0
    show W ((match tg d S with
      | none => stuck
      | some S' => bnd (calm (body S')) fun fl => match fl with
        | .nx S'' => forL tg body ds S''
        | .ret v => ret (.ret v)) t) Q
    rw [e]
    exact w_bnd (w_calm (w.mono fun fl t1 q => by
      cases fl with
      | ret v => exact q
      | nx S2 =>
        refine w_forI I (k := k + 1) q (fun i d' e' S t hI => ?_) fun S t hI => hQ S t (by rw [List.length_cons, Nat.add_comm ds.length 1, ← Nat.add_assoc]; exact hI)
        have := hs (i + 1) d' e' S t (by rw [Nat.add_comm i 1, ← Nat.add_assoc]; exact hI)
        rw [Nat.add_comm i 1, ← Nat.add_assoc] at this
        exact this))
/-- with an invariant that does not count -/
theorem w_forC {tg : Tg} {body : Stm} {ds : List D} {S : Sl} {t : Tn} (I : Sl → Tn → Prop) (h0 : I S t)
    (hs : ∀ d ∈ ds, ∀ S t, I S t → ∃ S', tg d S = some S' ∧ W (body S' t) (Nx (fun S2 t2 => I S2 t2) fun d t2 => Q (.ret d) t2))
    (hQ : ∀ S t, I S t → Q (.nx S) t) : W (forL tg body ds S t) Q :=
  w_forI (fun _ => I) (k := 0) h0 (fun i d e S t hI => hs d (List.mem_of_getElem? e) S t hI) fun S t hI => hQ S t hI
end
theorem w_fn {n : Nat} {body : Stm} {ds : List D} {t : Tn} {Q : D → Tn → Prop} (h : W (body (slots0 n ds) t) (Nx (fun _ t1 => Q .non t1) Q)) : W (fnOf n body ds t) Q := w_bnd (h.mono fun fl t1 q => by
  cases fl with
  | nx S => exact q
  | ret d => exact q)
section
variable {tg : Tg} {cond elt : Ex} {S : Sl}
theorem cmpL_pure {p : D → Bool} {e : D → D} : ∀ {ds : List D}, (∀ d ∈ ds, ∃ S', tg d S = some S' ∧ cond S' = ret (.bl (p d)) ∧ (p d = true → elt S' = ret (e d))) → cmpL tg cond elt S ds = ret ((ds.filter p).map e)
  | [], _ => rfl
  | d :: ds, h => by
    obtain ⟨S', e1, e2, e3⟩ := h d (List.mem_cons_self ..)
    have ih := cmpL_pure (p := p) (e := e) fun d hd => h d (List.mem_cons_of_mem _ hd)
    show (match tg d S with
      | none => stuck
      | some S' => bnd (calm (cond S')) fun b => match b with
        | .bl true => bnd (calm (elt S')) fun r => bnd (cmpL tg cond elt S ds) fun rs => ret (r :: rs)
        | .bl false => cmpL tg cond elt S ds
        | _ => stuck) = _
    rw [e1]
    show bnd (calm (cond S')) _ = _
    rw [e2]
    cases hp : p d with
    | true =>
      show bnd (calm (elt S')) _ = _
      rw [e3 hp, ih, List.filter_cons_of_pos hp, List.map_cons]
      rfl
    | false =>
      show cmpL tg cond elt S ds = _
      rw [ih, List.filter_cons_of_neg (by rw [hp]; decide)]
theorem w_cmpL {T : Tn → Prop} {R : D → D → Prop} {Q : List D → Tn → Prop} : ∀ {ds : List D} {t : Tn}, T t →
    (∀ d ∈ ds, ∀ t, T t → ∃ S', tg d S = some S' ∧ cond S' = ret (.bl true) ∧ W (elt S' t) fun r t1 => T t1 ∧ R d r) →
    (∀ rs t, T t → ds.length = rs.length → (∀ (i : Nat) (d r : D), ds[i]? = some d → rs[i]? = some r → R d r) → Q rs t) → W (cmpL tg cond elt S ds t) Q
  | [], t, ht, _, hQ => hQ [] t ht rfl fun i d r e => by simp at e
  | d :: ds, t, ht, h, hQ => by
    obtain ⟨S', e1, e2, e3⟩ := h d (List.mem_cons_self ..) t ht
    show W ((match tg d S with
      | none => stuck
      | some S' => bnd (calm (cond S')) fun b => match b with
        | .bl true => bnd (calm (elt S')) fun r => bnd (cmpL tg cond elt S ds) fun rs => ret (r :: rs)
        | .bl false => cmpL tg cond elt S ds
        | _ => stuck) t) Q
    rw [e1]
    show W (bnd (calm (cond S')) _ t) Q
    rw [e2]
    refine w_bnd (w_calm (w_ret ?_))
    refine w_bnd (w_calm (e3.mono fun r t1 ⟨ht1, hr⟩ => w_bnd ?_))
    refine w_cmpL ht1 (fun d hd => h d (List.mem_cons_of_mem _ hd)) fun rs t2 ht2 hl hR => ?_
    refine hQ (r :: rs) t2 ht2 (by rw [List.length_cons, List.length_cons, hl]) fun i d' r' e e' => ?_
    cases i with
    | zero => cases e; cases e'; exact hr
    | succ i => exact hR i d' r' e e'
end
theorem w_cmpP {tg : Tg} {cond elt : Ex} {S : Sl} {t : Tn} {Q : List D → Tn → Prop} {ds : List D} (p : D → Bool) (e : D → D) (h : ∀ d ∈ ds, ∃ S', tg d S = some S' ∧ cond S' = ret (.bl (p d)) ∧ (p d = true → elt S' = ret (e d))) (q : Q ((ds.filter p).map e) t) : W (cmpL tg cond elt S ds t) Q := by
  rw [cmpL_pure h]; exact q
section
variable {S : Sl} {c : Int} {rs : List (Int × Int)}
theorem w_tc {i : Nat} {Q : D → Tn → Prop} (e : S[i]? = some (.val .town)) (h : Q (.int c) (some (c, rs))) : W (eTC i S (some (c, rs))) Q := by
  unfold eTC isTown; rw [e]; exact h
theorem w_stc {i : Nat} {e : Ex} {t : Tn} {Q : Fl → Tn → Prop} (he : S[i]? = some (.val .town)) (h : W (e S t) (In fun n t1 => ∃ c rs, t1 = some (c, rs) ∧ Q (.nx S) (some (n, rs)))) : W (sTC i e S t) Q := by
  unfold sTC isTown
  rw [he, if_pos rfl]
  exact w_bnd (h.mono fun d t1 q => by
    cases d with
    | int n => obtain ⟨c, rs, rfl, q⟩ := q; exact q
    | _ => exact q.elim)
end
section
variable {S : Sl} {c : Int} {rs : List (Int × Int)}
theorem w_tr {i : Nat} {k d : Ex} {t : Tn} {Q : D → Tn → Prop} (he : S[i]? = some (.val .town)) (h : W (k S t) (In fun n t1 => W (d S t1) fun b t2 => ∃ c rs, t2 = some (c, rs) ∧ Q (match rLook rs n with | some v => .int v | none => b) (some (c, rs)))) : W (eTR i k d S t) Q := by
  unfold eTR isTown
  rw [he, if_pos rfl]
  exact w_bnd (h.mono fun a t1 q => by
    cases a with
    | int n => exact w_bnd (q.mono fun b t2 q => by obtain ⟨c, rs, rfl, q⟩ := q; exact q)
    | _ => exact q.elim)
theorem w_str {i : Nat} {k e : Ex} {t : Tn} {Q : Fl → Tn → Prop} (he : S[i]? = some (.val .town)) (h : W (e S t) (In fun v t1 => W (k S t1) (In fun n t2 => ∃ c rs, t2 = some (c, rs) ∧ rs.length < 1000000 ∧ Q (.nx S) (some (c, rPut rs n v))))) : W (sTR i k e S t) Q := by
  unfold sTR isTown
  rw [he, if_pos rfl]
  exact w_bnd (h.mono fun d t1 q => by
    cases d with
    | int v => exact w_bnd (q.mono fun a t2 q => by
        cases a with
        | int n =>
          obtain ⟨c, rs, rfl, hl, q⟩ := q
          show W (if rs.length < 1000000 then some (.ok (.nx S) (some (c, rPut rs n v))) else none) Q
          rw [if_pos hl]; exact q
        | _ => exact q.elim)
    | _ => exact q.elim)
theorem w_scr {i : Nat} {ns : List Int} {t : Tn} {Q : D → Tn → Prop} (e : S[i]? = some (.val (.scr ns))) (h : Q (.bl (!ns.isEmpty)) t) : W (eScr i S t) Q := by
  unfold eScr scrAt; rw [e]; exact h
theorem w_begun {Q : D → Tn → Prop} (h : Q .town (some (0, []))) : W (eBegun S none) Q := h
end
end BG
set_option Elab.async false
set_option linter.all false
set_option maxRecDepth 100000
set_option maxHeartbeats 4000000
namespace BG
open PySem L2
section
variable {t : Tn} {Q : D → Tn → Prop}
theorem nx_nx {N : Sl → Tn → Prop} {R : D → Tn → Prop} {S : Sl} (h : N S t) : Nx N R (.nx S) t := h
theorem nx_ret {N : Sl → Tn → Prop} {R : D → Tn → Prop} {d : D} (h : R d t) : Nx N R (.ret d) t := h
theorem bl_i {Q : Bool → Tn → Prop} {b : Bool} (h : Q b t) : Bl Q (.bl b) t := h
theorem in_i {Q : Int → Tn → Prop} {b : Int} (h : Q b t) : In Q (.int b) t := h
theorem sq_t {Q : List D → Tn → Prop} {b : List D} (h : Q b t) : Sq Q (.tup b) t := h
theorem sq_l {Q : List D → Tn → Prop} {b : List D} (h : Q b t) : Sq Q (.lst b) t := h
theorem ls_l {Q : List D → Tn → Prop} {b : List D} (h : Q b t) : Ls Q (.lst b) t := h
theorem ift {A B : Prop} (h : A) : (true = true → A) ∧ (true = false → B) := ⟨fun _ => h, fun e => Bool.noConfusion e⟩
theorem iff' {A B : Prop} (h : B) : (false = true → A) ∧ (false = false → B) := ⟨fun e => Bool.noConfusion e, fun _ => h⟩
theorem ift2 {A B : Prop} (h : A) : (true = false → B) ∧ (true = true → A) := ⟨fun e => Bool.noConfusion e, fun _ => h⟩
theorem iff2 {A B : Prop} (h : B) : (false = false → B) ∧ (false = true → A) := ⟨fun _ => h, fun e => Bool.noConfusion e⟩
theorem ift_of {A B : Prop} {k : Bool} (e : k = true) (h : A) : (k = true → A) ∧ (k = false → B) := by subst e; exact ift h
theorem iff_of {A B : Prop} {k : Bool} (e : k = false) (h : B) : (k = true → A) ∧ (k = false → B) := by subst e; exact iff' h
theorem ift2_of {A B : Prop} {k : Bool} (e : k = true) (h : A) : (k = false → B) ∧ (k = true → A) := by subst e; exact ift2 h
theorem iff2_of {A B : Prop} {k : Bool} (e : k = false) (h : B) : (k = false → B) ∧ (k = true → A) := by subst e; exact iff2 h
theorem w_addI {i j : Int} (h : Q (.int (i + j)) t) : W (pAdd (.int i) (.int j) t) Q := h
theorem w_addT {xs ys : List D} (hl : xs.length + ys.length ≤ sizeLine) (h : Q (.tup (xs ++ ys)) t) : W (pAdd (.tup xs) (.tup ys) t) Q := by
  show W ((if xs.length + ys.length ≤ sizeLine then ret (.tup (xs ++ ys)) else stuck) t) Q
  rw [if_pos hl]; exact h
theorem w_addL {xs ys : List D} (hl : xs.length + ys.length ≤ sizeLine) (h : Q (.lst (xs ++ ys)) t) : W (pAdd (.lst xs) (.lst ys) t) Q := by
  show W ((if xs.length + ys.length ≤ sizeLine then ret (.lst (xs ++ ys)) else stuck) t) Q
  rw [if_pos hl]; exact h
theorem w_sub {i j : Int} (h : Q (.int (i - j)) t) : W (pSub (.int i) (.int j) t) Q := h
theorem w_mulI {i j : Int} (hl : -(2 ^ 64) < i ∧ i < 2 ^ 64) (h : Q (.int (i * j)) t) : W (pMul (.int i) (.int j) t) Q := by
  show W ((if -(2 ^ 64) < i ∧ i < 2 ^ 64 then ret (.int (i * j)) else stuck) t) Q
  rw [if_pos hl]; exact h
theorem w_mulT {xs : List D} {k : Int} (hl : xs ≠ [] ∧ 2 ≤ k ∧ k ≤ 1000 ∧ xs.length ≤ 1000) (h : Q (.tup (List.replicate k.toNat xs).flatten) t) : W (pMul (.tup xs) (.int k) t) Q := by
  show W ((if xs ≠ [] ∧ 2 ≤ k ∧ k ≤ 1000 ∧ xs.length ≤ 1000 then ret (.tup (List.replicate k.toNat xs).flatten) else stuck) t) Q
  rw [if_pos hl]; exact h
theorem w_mulL {xs : List D} {k : Int} (hl : 0 ≤ k ∧ k ≤ 1000 ∧ xs.length ≤ 1000) (h : Q (.lst (List.replicate k.toNat xs).flatten) t) : W (pMul (.lst xs) (.int k) t) Q := by
  show W ((if 0 ≤ k ∧ k ≤ 1000 ∧ xs.length ≤ 1000 then ret (.lst (List.replicate k.toNat xs).flatten) else stuck) t) Q
  rw [if_pos hl]; exact h
theorem w_mod {i j : Int} (hl : 0 < j) (h : Q (.int (i % j)) t) : W (pMod (.int i) (.int j) t) Q := by
  show W ((if 0 < j then ret (.int (i % j)) else stuck) t) Q
  rw [if_pos hl]; exact h
theorem w_div {i j : Int} (hl : 0 < j ∧ j < 1073741824) (h : Q (.int (i / j)) t) : W (pDiv (.int i) (.int j) t) Q := by
  show W ((if 0 < j ∧ j < 1073741824 then ret (.int (i / j)) else stuck) t) Q
  rw [if_pos hl]; exact h
theorem w_pow {i j : Int} (hl : 0 ≤ j ∧ j ≤ 1000000 ∧ i.natAbs < 2 ^ 64) (h : Q (.int (i ^ j.toNat)) t) : W (pPow (.int i) (.int j) t) Q := by
  show W ((if 0 ≤ j ∧ j ≤ 1000000 ∧ i.natAbs < 2 ^ 64 then ret (.int (i ^ j.toNat)) else stuck) t) Q
  rw [if_pos hl]; exact h
theorem w_xor {i j : Int} (h : Q (.int (Builtin.bitXor i j)) t) : W (pXor (.int i) (.int j) t) Q := h
theorem w_eqD {p q : D} (hp : okD p 60 = true) (hq : okD q 60 = true) (h : Q (.bl (PyData.eqv p.py q.py)) t) : W (pEq p q t) Q := by
  unfold pEq; rw [if_pos ⟨hp, hq⟩]; exact h
theorem w_neD {p q : D} (hp : okD p 60 = true) (hq : okD q 60 = true) (h : Q (.bl (!PyData.eqv p.py q.py)) t) : W (pNe p q t) Q := by
  unfold pNe; rw [if_pos ⟨hp, hq⟩]; exact h
theorem w_ltI {i j : Int} (h : Q (.bl (decide (i < j))) t) : W (pLt (.int i) (.int j) t) Q := h
theorem w_leI {i j : Int} (h : Q (.bl (decide (i ≤ j))) t) : W (pLe (.int i) (.int j) t) Q := h
theorem w_gtI {i j : Int} (h : Q (.bl (decide (j < i))) t) : W (pGt (.int i) (.int j) t) Q := h
theorem w_geI {i j : Int} (h : Q (.bl (decide (j ≤ i))) t) : W (pGe (.int i) (.int j) t) Q := h
theorem w_inT {p : D} {ds : List D} (hp : okD p 60 = true) (hq : okA ds 60 = true) (h : Q (.bl (inD p ds)) t) : W (pIn p (.tup ds) t) Q := by
  show W ((if okD p 60 = true ∧ okA ds 60 = true then ret (.bl (inD p ds)) else stuck) t) Q
  rw [if_pos ⟨hp, hq⟩]; exact h
theorem w_inL {p : D} {ds : List D} (hp : okD p 60 = true) (hq : okA ds 60 = true) (h : Q (.bl (inD p ds)) t) : W (pIn p (.lst ds) t) Q := by
  show W ((if okD p 60 = true ∧ okA ds 60 = true then ret (.bl (inD p ds)) else stuck) t) Q
  rw [if_pos ⟨hp, hq⟩]; exact h
theorem w_idxT {ds : List D} {i : Int} {d : D} (e : atI ds i = some d) (h : Q d t) : W (pIdx (.tup ds) (.int i) t) Q := by
  show W ((match atI ds i with | some d => ret d | none => stuck) t) Q
  rw [e]; exact h
theorem w_idxL {ds : List D} {i : Int} {d : D} (e : atI ds i = some d) (h : Q d t) : W (pIdx (.lst ds) (.int i) t) Q := by
  show W ((match atI ds i with | some d => ret d | none => stuck) t) Q
  rw [e]; exact h
theorem w_idxS {ns : List Int} {i : Int} {n : Int} (e : atI ns i = some n) (h : Q (.int n) t) : W (pIdx (.scr ns) (.int i) t) Q := by
  show W ((match atI ns i with | some d => ret (D.int d) | none => stuck) t) Q
  rw [e]; exact h
theorem w_slT {ds : List D} {lo hi : Option Int} (h : Q (.tup (cutD ds lo hi)) t) : W (pSlice (.tup ds) lo hi t) Q := h
theorem w_slL {ds : List D} {lo hi : Option Int} (h : Q (.lst (cutD ds lo hi)) t) : W (pSlice (.lst ds) lo hi t) Q := h
theorem w_lenT {ds : List D} (h : Q (.int ds.length) t) : W (bLen (.tup ds) t) Q := h
theorem w_lenL {ds : List D} (h : Q (.int ds.length) t) : W (bLen (.lst ds) t) Q := h
theorem w_lenS {ns : List Int} (h : Q (.int ns.length) t) : W (bLen (.scr ns) t) Q := h
theorem w_tupL {ds : List D} (h : Q (.tup ds) t) : W (bTuple (.lst ds) t) Q := h
theorem w_tupT {ds : List D} (h : Q (.tup ds) t) : W (bTuple (.tup ds) t) Q := h
theorem w_lstL {ds : List D} (h : Q (.lst ds) t) : W (bList (.lst ds) t) Q := h
theorem w_lstT {ds : List D} (h : Q (.lst ds) t) : W (bList (.tup ds) t) Q := h
theorem w_isi {T : Ty} {d : D} {b : Bool} (e : isTy T d = some b) (h : Q (.bl b) t) : W (pIsi T d t) Q := by
  unfold pIsi; rw [e]; exact h
theorem w_allL {ds : List D} {bs : List Bool} (e : bools ds = some bs) (h : Q (.bl (bs.all id)) t) : W (bAll (.lst ds) t) Q := by
  show W ((match bools ds with | some bs => ret (D.bl (bs.all id)) | none => stuck) t) Q
  rw [e]; exact h
theorem w_neg {i : Int} (h : Q (.int (-i)) t) : W (pNeg (.int i) t) Q := h
theorem w_rng {i : Int} (hl : 0 ≤ i ∧ i ≤ 1000000) (h : Q (.lst (rng i.toNat)) t) : W (pRng (.int i) t) Q := by
  show W ((if 0 ≤ i ∧ i ≤ 1000000 then ret (D.lst ((List.range i.toNat).map fun (i : Nat) => D.int (i : Int))) else stuck) t) Q
  rw [if_pos hl]; exact h
theorem w_isn {p : D} (h : Q (.bl (isN p)) t) : W (pIs p .non t) Q := by cases p <;> exact h
theorem w_isnn {p : D} (h : Q (.bl (!isN p)) t) : W (pIsNot p .non t) Q := by cases p <;> exact h
end
theorem w_eqI {i j : Int} {t : Tn} {Q : D → Tn → Prop} (h : Q (.bl (decide (i = j))) t) : W (pEq (.int i) (.int j) t) Q := by
  refine w_eqD rfl rfl ?_
  have e : PyData.eqv (D.int i).py (D.int j).py = decide (i = j) := by
    show (i == j) = decide (i = j)
    rw [Bool.eq_iff_iff, beq_iff_eq, decide_eq_true_iff]
  rw [e]; exact h
theorem w_neI {i j : Int} {t : Tn} {Q : D → Tn → Prop} (h : Q (.bl (decide (i ≠ j))) t) : W (pNe (.int i) (.int j) t) Q := by
  refine w_neD rfl rfl ?_
  have e : (!PyData.eqv (D.int i).py (D.int j).py) = decide (i ≠ j) := by
    show (!(i == j)) = decide (i ≠ j)
    by_cases h : i = j
    · rw [decide_eq_false (by simp [h]), beq_iff_eq.mpr h]; rfl
    · rw [decide_eq_true h, beq_eq_false_iff_ne.mpr h]; rfl
  rw [e]; exact h
/-- of a pair -/
def Pr (Q : D → D → Tn → Prop) : D → Tn → Prop := fun d t => match d with
  | .tup [a, b] => Q a b t
  | _ => False
theorem pr_i {Q : D → D → Tn → Prop} {a b : D} {t : Tn} (h : Q a b t) : Pr Q (.tup [a, b]) t := h
theorem w_asgP {i j : Nat} {e : Ex} {S : Sl} {t : Tn} {Q : Fl → Tn → Prop} (h : W (e S t) (Pr fun a b t1 => Q (.nx ((S.set i (.val a)).set j (.val b))) t1)) : W (sAsgG (gP i j) e S t) Q := w_bnd (h.mono fun d t1 q => by
  unfold Pr at q
  split at q
  · exact q
  · exact q.elim)
theorem w_cmpM {tg : Tg} {elt : Ex} {S : Sl} {t : Tn} {Q : List D → Tn → Prop} {ds : List D} (e : D → D) (h : ∀ d ∈ ds, ∃ S', tg d S = some S' ∧ elt S' = ret (e d)) (q : Q (ds.map e) t) : W (cmpL tg (eC (.bl true)) elt S ds t) Q := by
  refine w_cmpP (fun _ => true) e (fun d hd => ?_) (by rw [show ds.filter (fun _ => true) = ds from List.filter_eq_self.mpr fun _ _ => rfl]; exact q)
  obtain ⟨S', e1, e2⟩ := h d hd
  exact ⟨S', e1, rfl, fun _ => e2⟩
mutual
def nobl : D → Bool
  | .non => true
  | .bl _ => false
  | .int _ => true
  | .str _ => true
  | .tup xs => noblA xs
  | .lst xs => noblA xs
  | .town => false
  | .scr _ => false
  | .dct _ _ => false
def noblA : List D → Bool
  | [] => true
  | d :: ds => nobl d && noblA ds
end
mutual
theorem eqv_iff : ∀ {p q : D}, nobl p = true → nobl q = true → (PyData.eqv p.py q.py = true ↔ p = q)
  | .non, q, hp, hq => by cases q <;> first | exact ⟨fun _ => rfl, fun _ => rfl⟩ | (cases hq; done) | (constructor <;> intro h <;> cases h; done)
  | .int i, q, hp, hq => by
    cases q with
    | int j =>
      show ((i == j) = true ↔ _)
      rw [beq_iff_eq]
      exact ⟨fun h => by rw [h], fun h => by cases h; rfl⟩
    | _ => first | (cases hq; done) | (constructor <;> intro h <;> cases h)
  | .str i, q, hp, hq => by
    cases q with
    | str j =>
      show ((i == j) = true ↔ _)
      rw [beq_iff_eq]
      exact ⟨fun h => by rw [h], fun h => by cases h; rfl⟩
    | _ => first | (cases hq; done) | (constructor <;> intro h <;> cases h)
  | .tup xs, q, hp, hq => by
    cases q with
    | tup ys =>
      have := eqvA_iff (ds := xs) (es := ys) hp hq
      show (PyData.eqvAll (pyA xs) (pyA ys) = true ↔ _)
      rw [this]
      exact ⟨fun h => by rw [h], fun h => by cases h; rfl⟩
    | _ => first | (cases hq; done) | (constructor <;> intro h <;> cases h)
  | .lst xs, q, hp, hq => by
    cases q with
    | lst ys =>
      have := eqvA_iff (ds := xs) (es := ys) hp hq
      show (PyData.eqvAll (pyA xs) (pyA ys) = true ↔ _)
      rw [this]
      exact ⟨fun h => by rw [h], fun h => by cases h; rfl⟩
    | _ => first | (cases hq; done) | (constructor <;> intro h <;> cases h)
theorem eqvA_iff : ∀ {ds es : List D}, noblA ds = true → noblA es = true → (PyData.eqvAll (pyA ds) (pyA es) = true ↔ ds = es)
  | [], [], _, _ => ⟨fun _ => rfl, fun _ => rfl⟩
  | [], e :: es, _, _ => ⟨fun h => (nomatch h), fun h => (nomatch h)⟩
  | d :: ds, [], _, _ => ⟨fun h => (nomatch h), fun h => (nomatch h)⟩
  | d :: ds, e :: es, hp, hq => by
    have hp : (nobl d && noblA ds) = true := hp
    have hq : (nobl e && noblA es) = true := hq
    rw [Bool.and_eq_true] at hp hq
    show ((PyData.eqv d.py e.py && PyData.eqvAll (pyA ds) (pyA es)) = true ↔ _)
    rw [Bool.and_eq_true, eqv_iff hp.1 hq.1, eqvA_iff hp.2 hq.2, List.cons.injEq]
end
theorem w_resE {nm : Nat → Str} {al : Nat → Bool} {F : Fn} {fs : List Ex} {S : Sl} {t : Tn} {Q : D → Tn → Prop} (h : W (evs fs S t) fun ds t1 => W (eResM nm al (F ds) t1) Q) : W (eRes nm al (eCall F fs) S t) Q := by
  obtain ⟨ds, t1, e, q⟩ := h.ex
  unfold eRes
  have e2 : eCall F fs S t = F ds t1 := by unfold eCall; exact bnd_ok e
  unfold eResM at q ⊢
  rw [e2]
  exact q
theorem w_rmX {nm : Nat → Str} {al : Nat → Bool} {m : M D} {t : Tn} {Q : D → Tn → Prop} {c : Nat} (h : m = raise c) (ha : al c = true) (q : Q (.tup [.str (nm c)]) t) : W (eResM nm al m t) Q := by
  unfold eResM
  rw [h]
  show W (if al c = true then some (.ok (.tup [.str (nm c)]) t) else none) Q
  rw [if_pos ha]; exact q
theorem w_rG {m : M D} {t : Tn} {Q : D → Tn → Prop} (h : m = raise 0) (q : Q (.tup [.str "gate"]) t) : W (eResM resNm al12 m t) Q := w_rmX h rfl q
theorem w_rC {m : M D} {t : Tn} {Q : D → Tn → Prop} (h : m = raise 1) (q : Q (.tup [.str "circuit"]) t) : W (eResM resNm al12 m t) Q := w_rmX h rfl q
theorem w_fnil {tg : Tg} {body : Stm} {S : Sl} {t : Tn} {Q : Fl → Tn → Prop} (h : Q (.nx S) t) : W (forL tg body [] S t) Q := h
theorem w_fcons {tg : Tg} {body : Stm} {d : D} {ds : List D} {S S' : Sl} {t : Tn} {Q : Fl → Tn → Prop} (e : tg d S = some S') (h : W (body S' t) (Nx (fun S2 t2 => W (forL tg body ds S2 t2) Q) fun d t2 => Q (.ret d) t2)) : W (forL tg body (d :: ds) S t) Q := by
  show W ((match tg d S with
      | none => stuck
      | some S' => bnd (calm (body S')) fun fl => match fl with
        | .nx S'' => forL tg body ds S''
        | .ret v => ret (.ret v)) t) Q
  rw [e]
  exact w_bnd (w_calm (h.mono fun fl t1 q => by cases fl with | ret v => exact q | nx S2 => exact q))
theorem and_lt {a b : Nat} {P : Prop} (h : a < b) (p : P) : a < b ∧ P := ⟨h, p⟩
theorem and_le {a b : Nat} {P : Prop} (h : a ≤ b) (p : P) : a ≤ b ∧ P := ⟨h, p⟩
theorem and_ri {j : Int} {P : Prop} (h : 0 ≤ j) (h2 : j < 2 ^ 62) (p : P) : 0 ≤ j ∧ j < 2 ^ 62 ∧ P := ⟨h, h2, p⟩
/-- of a tuple -/
def Tp (Q : List D → Tn → Prop) : D → Tn → Prop := fun d t => match d with
  | .tup ds => Q ds t
  | _ => False
theorem tp_t {Q : List D → Tn → Prop} {b : List D} {t : Tn} (h : Q b t) : Tp Q (.tup b) t := h
end BG
set_option Elab.async false
set_option linter.all false
set_option maxRecDepth 100000
set_option maxHeartbeats 4000000
namespace BL
open PySem BG L2
theorem nd_le : ∀ (n : Nat) (l : List Int), l.Nodup → (∀ k ∈ l, 0 ≤ k ∧ k < (n : Int)) → l.length ≤ n
  | 0, l, _, h => by
    cases l with
    | nil => exact Nat.le_refl _
    | cons k r => have := h k (List.mem_cons_self ..); omega
  | n + 1, l, nd, h => by
    have ih := nd_le n (l.erase (n : Int)) (nd.erase _) fun k hk => by
      have h1 := (nd.mem_erase_iff).mp hk
      have h2 := h k h1.2
      have := h1.1
      omega
    by_cases hm : (n : Int) ∈ l
    · rw [List.length_erase_of_mem hm] at ih; omega
    · rw [List.erase_of_not_mem hm] at ih; omega
structure TOk (t : Tn) : Prop where
  ex : ∃ c rs, t = some (c, rs) ∧ (rs.map Prod.fst).Nodup ∧ ∀ k ∈ rs.map Prod.fst, (0 : Int) ≤ k ∧ k < ((64 : Nat) : Int)
theorem TOk.begun : TOk (some (0, [])) := ⟨0, [], rfl, .nil, fun k h => nomatch h⟩
theorem rPut_keys (rs : List (Int × Int)) (k v : Int) : (rPut rs k v).map Prod.fst = if (rs.any fun p => decide (p.1 = k)) = true then rs.map Prod.fst else rs.map Prod.fst ++ [k] := by
  unfold rPut
  split
  · rw [List.map_map]
    refine List.map_congr_left fun p _ => ?_
    show (if p.1 = k then (p.1, v) else p).1 = p.1
    split <;> rfl
  · rw [List.map_append]; rfl
theorem atI_nat {α : Type} {xs : List α} {n : Nat} {x : α} (e : xs[n]? = some x) : atI xs (n : Int) = some x := by
  unfold atI ixN
  have hl : n < xs.length := (List.getElem?_eq_some_iff.mp e).1
  rw [if_pos (by omega), if_pos (by omega)]
  show xs[(n : Int).toNat]? = some x
  rw [Int.toNat_natCast]; exact e
theorem atI_of {α : Type} {xs : List α} {i : Int} (h0 : 0 ≤ i) (h1 : i < xs.length) : ∃ x, x ∈ xs ∧ atI xs i = some x ∧ xs[i.toNat]? = some x := by
  have hl : i.toNat < xs.length := by omega
  refine ⟨xs[i.toNat], List.getElem_mem hl, ?_, List.getElem?_eq_getElem hl⟩
  have := atI_nat (xs := xs) (n := i.toNat) (List.getElem?_eq_getElem hl)
  rw [Int.toNat_of_nonneg h0] at this
  exact this
/-- what is left of the draw's body when the number at the place is known -/
theorem draw_tail {ns : List Int} {m a n c : Int} {rs : List (Int × Int)} {Q : D → Tn → Prop} {b : Stm} {S : Sl} (hb : S = [.val (.scr ns), .val .town, .val (.int m), .val (.int a), .val (.int n), .un]) (nd : (rs.map Prod.fst).Nodup) (hk : ∀ k ∈ rs.map Prod.fst, (0 : Int) ≤ k ∧ k < ((64 : Nat) : Int)) (a0 : 0 ≤ a) (a1 : a < 64) (h0 : 0 < m) (h1 : m < 1073741824) (hQ : ∀ r t', 0 ≤ r → r < m → TOk t' → Q (.int r) t') :
    W ((sSeq (sIf (eBin pGe (eVar 4) (eBin pPow (eC (.int 10)) (eC (.int 18)))) (sSeq (sTR 1 (eVar 3) (eBin pDiv (eVar 4) (eVar 2))) (sRet (eBin pMod (eVar 4) (eVar 2)))) sNil)
      (sSeq (sAsg 5 (eBin pMod (eBin pAdd (eVar 4) (eBin pMul (eC (.int 104729)) (eTC 1))) (eC (.int 4294967291))))
      (sSeq (sAsg 5 (eBin pMod (eBin pPow (eVar 5) (eC (.int 5))) (eC (.int 4294967279))))
      (sRet (eBin pMod (eBin pDiv (eBin pMod (eBin pAdd (eBin pMul (eBin pDiv (eVar 5) (eC (.int 64))) (eC (.int 69621))) (eVar 5)) (eC (.int 4294967231))) (eC (.int 8))) (eVar 2)))))) S (some (c, rs))) (Nx (fun _ t1 => Q .non t1) Q) := by
  subst hb
  repeat (first | (with_reducible first | refine w_seq ?_ | refine w_asg ?_ | refine w_asgP ?_ | refine pr_i ?_ | refine w_eqI ?_ | refine w_neI ?_ | refine w_own ?_ | refine w_par ?_ | refine w_parO ?_ | refine w_expr ?_ | refine w_if ?_ | refine w_sret ?_ | refine w_nil ?_ | refine w_for ?_ | refine w_bin ?_ | refine w_un ?_ | refine w_tup ?_ | refine w_lst ?_ | refine w_call ?_ | refine w_and ?_ | refine w_or ?_ | refine w_ife ?_ | refine w_chain ?_ | refine w_slice ?_ | refine w_oN ?_ | refine w_oS ?_ | refine w_comp ?_ | refine w_itSeq ?_ | refine w_itR ?_ | refine w_evnil ?_ | refine w_evcons ?_ | refine w_evc1 ?_ | refine w_evc0 ?_ | refine w_c ?_ | refine nx_nx ?_ | refine nx_ret ?_ | refine bl_i ?_ | refine in_i ?_ | refine sq_t ?_ | refine sq_l ?_ | refine ls_l ?_ | refine tp_t ?_ | refine w_not ?_ | refine w_addI ?_ | refine w_sub ?_ | refine w_xor ?_ | refine w_ltI ?_ | refine w_leI ?_ | refine w_gtI ?_ | refine w_geI ?_ | refine w_slT ?_ | refine w_slL ?_ | refine w_lenT ?_ | refine w_lenL ?_ | refine w_lenS ?_ | refine w_tupL ?_ | refine w_tupT ?_ | refine w_lstL ?_ | refine w_lstT ?_ | refine w_neg ?_ | refine w_isn ?_ | refine w_isnn ?_ | refine w_begun ?_ | refine w_ret ?_ | refine w_resE ?_) | (with_reducible refine w_var (by with_unfolding_all rfl) ?_) | (with_reducible refine w_peekV (by with_unfolding_all rfl) ?_) | (with_reducible refine w_peekO (by with_unfolding_all rfl) ?_) | (with_reducible refine w_app (by with_unfolding_all rfl) ?_) | (with_reducible refine w_frz (by with_unfolding_all rfl) ?_) | (with_reducible refine w_scr (by with_unfolding_all rfl) ?_) | (with_reducible refine w_tc (by with_unfolding_all rfl) ?_) | (with_reducible refine w_stc (by with_unfolding_all rfl) ?_) | (with_reducible refine w_tr (by with_unfolding_all rfl) ?_) | (with_reducible refine w_str (by with_unfolding_all rfl) ?_) | (with_reducible refine w_idxT (by with_unfolding_all rfl) ?_) | (with_reducible refine w_idxL (by with_unfolding_all rfl) ?_) | (with_reducible refine w_isi (by with_unfolding_all rfl) ?_) | ((with_reducible first | refine w_addT ?_ ?_ | refine w_addL ?_ ?_ | refine w_mulI ?_ ?_ | refine w_mulT ?_ ?_ | refine w_mulL ?_ ?_ | refine w_mod ?_ ?_ | refine w_div ?_ ?_ | refine w_pow ?_ ?_ | refine w_rng ?_ ?_); (first | decide | omega | (refine ⟨?_, ?_⟩ <;> omega) | (refine ⟨?_, ?_, ?_⟩ <;> omega) | (simp only [List.length_cons, List.length_nil, List.length_append, List.length_reverse, BL.cD_len, BL.iD_len, BL.mkx_len, BL.sizeL]; omega) | (refine ⟨List.cons_ne_nil _ _, ?_⟩; simp only [List.length_cons, List.length_nil]; omega))) | ((with_reducible first | refine w_eqD ?_ ?_ ?_ | refine w_neD ?_ ?_ ?_ | refine w_inT ?_ ?_ ?_ | refine w_inL ?_ ?_ ?_); (first | rfl | with_unfolding_all rfl); (first | rfl | with_unfolding_all rfl)) | ((with_reducible refine ift_of ?_ ?_); (with_unfolding_all rfl)) | ((with_reducible refine iff_of ?_ ?_); (with_unfolding_all rfl)) | ((with_reducible refine ift2_of ?_ ?_); (with_unfolding_all rfl)) | ((with_reducible refine iff2_of ?_ ?_); (with_unfolding_all rfl)) | ((with_reducible refine ift_of ?_ ?_); exact decide_eq_true (by omega)) | ((with_reducible refine iff_of ?_ ?_); exact decide_eq_false (by omega)) | ((with_reducible refine ift2_of ?_ ?_); exact decide_eq_true (by omega)) | ((with_reducible refine iff2_of ?_ ?_); exact decide_eq_false (by omega)))
  refine ⟨fun _ => ?_, fun _ => ?_⟩
  · repeat (first | (with_reducible first | refine w_seq ?_ | refine w_asg ?_ | refine w_asgP ?_ | refine pr_i ?_ | refine w_eqI ?_ | refine w_neI ?_ | refine w_own ?_ | refine w_par ?_ | refine w_parO ?_ | refine w_expr ?_ | refine w_if ?_ | refine w_sret ?_ | refine w_nil ?_ | refine w_for ?_ | refine w_bin ?_ | refine w_un ?_ | refine w_tup ?_ | refine w_lst ?_ | refine w_call ?_ | refine w_and ?_ | refine w_or ?_ | refine w_ife ?_ | refine w_chain ?_ | refine w_slice ?_ | refine w_oN ?_ | refine w_oS ?_ | refine w_comp ?_ | refine w_itSeq ?_ | refine w_itR ?_ | refine w_evnil ?_ | refine w_evcons ?_ | refine w_evc1 ?_ | refine w_evc0 ?_ | refine w_c ?_ | refine nx_nx ?_ | refine nx_ret ?_ | refine bl_i ?_ | refine in_i ?_ | refine sq_t ?_ | refine sq_l ?_ | refine ls_l ?_ | refine tp_t ?_ | refine w_not ?_ | refine w_addI ?_ | refine w_sub ?_ | refine w_xor ?_ | refine w_ltI ?_ | refine w_leI ?_ | refine w_gtI ?_ | refine w_geI ?_ | refine w_slT ?_ | refine w_slL ?_ | refine w_lenT ?_ | refine w_lenL ?_ | refine w_lenS ?_ | refine w_tupL ?_ | refine w_tupT ?_ | refine w_lstL ?_ | refine w_lstT ?_ | refine w_neg ?_ | refine w_isn ?_ | refine w_isnn ?_ | refine w_begun ?_ | refine w_ret ?_ | refine w_resE ?_) | (with_reducible refine w_var (by with_unfolding_all rfl) ?_) | (with_reducible refine w_peekV (by with_unfolding_all rfl) ?_) | (with_reducible refine w_peekO (by with_unfolding_all rfl) ?_) | (with_reducible refine w_app (by with_unfolding_all rfl) ?_) | (with_reducible refine w_frz (by with_unfolding_all rfl) ?_) | (with_reducible refine w_scr (by with_unfolding_all rfl) ?_) | (with_reducible refine w_tc (by with_unfolding_all rfl) ?_) | (with_reducible refine w_stc (by with_unfolding_all rfl) ?_) | (with_reducible refine w_tr (by with_unfolding_all rfl) ?_) | (with_reducible refine w_str (by with_unfolding_all rfl) ?_) | (with_reducible refine w_idxT (by with_unfolding_all rfl) ?_) | (with_reducible refine w_idxL (by with_unfolding_all rfl) ?_) | (with_reducible refine w_isi (by with_unfolding_all rfl) ?_) | ((with_reducible first | refine w_addT ?_ ?_ | refine w_addL ?_ ?_ | refine w_mulI ?_ ?_ | refine w_mulT ?_ ?_ | refine w_mulL ?_ ?_ | refine w_mod ?_ ?_ | refine w_div ?_ ?_ | refine w_pow ?_ ?_ | refine w_rng ?_ ?_); (first | decide | omega | (refine ⟨?_, ?_⟩ <;> omega) | (refine ⟨?_, ?_, ?_⟩ <;> omega) | (simp only [List.length_cons, List.length_nil, List.length_append, List.length_reverse, BL.cD_len, BL.iD_len, BL.mkx_len, BL.sizeL]; omega) | (refine ⟨List.cons_ne_nil _ _, ?_⟩; simp only [List.length_cons, List.length_nil]; omega))) | ((with_reducible first | refine w_eqD ?_ ?_ ?_ | refine w_neD ?_ ?_ ?_ | refine w_inT ?_ ?_ ?_ | refine w_inL ?_ ?_ ?_); (first | rfl | with_unfolding_all rfl); (first | rfl | with_unfolding_all rfl)) | ((with_reducible refine ift_of ?_ ?_); (with_unfolding_all rfl)) | ((with_reducible refine iff_of ?_ ?_); (with_unfolding_all rfl)) | ((with_reducible refine ift2_of ?_ ?_); (with_unfolding_all rfl)) | ((with_reducible refine iff2_of ?_ ?_); (with_unfolding_all rfl)) | ((with_reducible refine ift_of ?_ ?_); exact decide_eq_true (by omega)) | ((with_reducible refine iff_of ?_ ?_); exact decide_eq_false (by omega)) | ((with_reducible refine ift2_of ?_ ?_); exact decide_eq_true (by omega)) | ((with_reducible refine iff2_of ?_ ?_); exact decide_eq_false (by omega)))
    refine ⟨c, rs, rfl, ?_, ?_⟩
    · have := nd_le 64 _ nd hk
      rw [List.length_map] at this
      omega
    repeat (first | (with_reducible first | refine w_seq ?_ | refine w_asg ?_ | refine w_asgP ?_ | refine pr_i ?_ | refine w_eqI ?_ | refine w_neI ?_ | refine w_own ?_ | refine w_par ?_ | refine w_parO ?_ | refine w_expr ?_ | refine w_if ?_ | refine w_sret ?_ | refine w_nil ?_ | refine w_for ?_ | refine w_bin ?_ | refine w_un ?_ | refine w_tup ?_ | refine w_lst ?_ | refine w_call ?_ | refine w_and ?_ | refine w_or ?_ | refine w_ife ?_ | refine w_chain ?_ | refine w_slice ?_ | refine w_oN ?_ | refine w_oS ?_ | refine w_comp ?_ | refine w_itSeq ?_ | refine w_itR ?_ | refine w_evnil ?_ | refine w_evcons ?_ | refine w_evc1 ?_ | refine w_evc0 ?_ | refine w_c ?_ | refine nx_nx ?_ | refine nx_ret ?_ | refine bl_i ?_ | refine in_i ?_ | refine sq_t ?_ | refine sq_l ?_ | refine ls_l ?_ | refine tp_t ?_ | refine w_not ?_ | refine w_addI ?_ | refine w_sub ?_ | refine w_xor ?_ | refine w_ltI ?_ | refine w_leI ?_ | refine w_gtI ?_ | refine w_geI ?_ | refine w_slT ?_ | refine w_slL ?_ | refine w_lenT ?_ | refine w_lenL ?_ | refine w_lenS ?_ | refine w_tupL ?_ | refine w_tupT ?_ | refine w_lstL ?_ | refine w_lstT ?_ | refine w_neg ?_ | refine w_isn ?_ | refine w_isnn ?_ | refine w_begun ?_ | refine w_ret ?_ | refine w_resE ?_) | (with_reducible refine w_var (by with_unfolding_all rfl) ?_) | (with_reducible refine w_peekV (by with_unfolding_all rfl) ?_) | (with_reducible refine w_peekO (by with_unfolding_all rfl) ?_) | (with_reducible refine w_app (by with_unfolding_all rfl) ?_) | (with_reducible refine w_frz (by with_unfolding_all rfl) ?_) | (with_reducible refine w_scr (by with_unfolding_all rfl) ?_) | (with_reducible refine w_tc (by with_unfolding_all rfl) ?_) | (with_reducible refine w_stc (by with_unfolding_all rfl) ?_) | (with_reducible refine w_tr (by with_unfolding_all rfl) ?_) | (with_reducible refine w_str (by with_unfolding_all rfl) ?_) | (with_reducible refine w_idxT (by with_unfolding_all rfl) ?_) | (with_reducible refine w_idxL (by with_unfolding_all rfl) ?_) | (with_reducible refine w_isi (by with_unfolding_all rfl) ?_) | ((with_reducible first | refine w_addT ?_ ?_ | refine w_addL ?_ ?_ | refine w_mulI ?_ ?_ | refine w_mulT ?_ ?_ | refine w_mulL ?_ ?_ | refine w_mod ?_ ?_ | refine w_div ?_ ?_ | refine w_pow ?_ ?_ | refine w_rng ?_ ?_); (first | decide | omega | (refine ⟨?_, ?_⟩ <;> omega) | (refine ⟨?_, ?_, ?_⟩ <;> omega) | (simp only [List.length_cons, List.length_nil, List.length_append, List.length_reverse, BL.cD_len, BL.iD_len, BL.mkx_len, BL.sizeL]; omega) | (refine ⟨List.cons_ne_nil _ _, ?_⟩; simp only [List.length_cons, List.length_nil]; omega))) | ((with_reducible first | refine w_eqD ?_ ?_ ?_ | refine w_neD ?_ ?_ ?_ | refine w_inT ?_ ?_ ?_ | refine w_inL ?_ ?_ ?_); (first | rfl | with_unfolding_all rfl); (first | rfl | with_unfolding_all rfl)) | ((with_reducible refine ift_of ?_ ?_); (with_unfolding_all rfl)) | ((with_reducible refine iff_of ?_ ?_); (with_unfolding_all rfl)) | ((with_reducible refine ift2_of ?_ ?_); (with_unfolding_all rfl)) | ((with_reducible refine iff2_of ?_ ?_); (with_unfolding_all rfl)) | ((with_reducible refine ift_of ?_ ?_); exact decide_eq_true (by omega)) | ((with_reducible refine iff_of ?_ ?_); exact decide_eq_false (by omega)) | ((with_reducible refine ift2_of ?_ ?_); exact decide_eq_true (by omega)) | ((with_reducible refine iff2_of ?_ ?_); exact decide_eq_false (by omega)))
    refine hQ _ _ (Int.emod_nonneg _ (Int.ne_of_gt h0)) (Int.emod_lt_of_pos _ h0) ⟨c, _, rfl, ?_, ?_⟩
    · rw [rPut_keys]
      split
      · exact nd
      · rename_i hn
        refine List.nodup_append.mpr ⟨nd, List.nodup_cons.mpr ⟨fun h => (nomatch h), List.nodup_nil⟩, fun x hx y hy => ?_⟩
        rw [List.mem_singleton] at hy
        subst hy
        intro e
        subst e
        obtain ⟨p, hp, rfl⟩ := List.mem_map.mp hx
        exact hn (List.any_eq_true.mpr ⟨p, hp, decide_eq_true rfl⟩)
    · rw [rPut_keys]
      split
      · exact hk
      · intro k hk'
        rcases List.mem_append.mp hk' with h | h
        · exact hk k h
        · rw [List.mem_singleton] at h; omega
  · repeat (first | (with_reducible first | refine w_seq ?_ | refine w_asg ?_ | refine w_asgP ?_ | refine pr_i ?_ | refine w_eqI ?_ | refine w_neI ?_ | refine w_own ?_ | refine w_par ?_ | refine w_parO ?_ | refine w_expr ?_ | refine w_if ?_ | refine w_sret ?_ | refine w_nil ?_ | refine w_for ?_ | refine w_bin ?_ | refine w_un ?_ | refine w_tup ?_ | refine w_lst ?_ | refine w_call ?_ | refine w_and ?_ | refine w_or ?_ | refine w_ife ?_ | refine w_chain ?_ | refine w_slice ?_ | refine w_oN ?_ | refine w_oS ?_ | refine w_comp ?_ | refine w_itSeq ?_ | refine w_itR ?_ | refine w_evnil ?_ | refine w_evcons ?_ | refine w_evc1 ?_ | refine w_evc0 ?_ | refine w_c ?_ | refine nx_nx ?_ | refine nx_ret ?_ | refine bl_i ?_ | refine in_i ?_ | refine sq_t ?_ | refine sq_l ?_ | refine ls_l ?_ | refine tp_t ?_ | refine w_not ?_ | refine w_addI ?_ | refine w_sub ?_ | refine w_xor ?_ | refine w_ltI ?_ | refine w_leI ?_ | refine w_gtI ?_ | refine w_geI ?_ | refine w_slT ?_ | refine w_slL ?_ | refine w_lenT ?_ | refine w_lenL ?_ | refine w_lenS ?_ | refine w_tupL ?_ | refine w_tupT ?_ | refine w_lstL ?_ | refine w_lstT ?_ | refine w_neg ?_ | refine w_isn ?_ | refine w_isnn ?_ | refine w_begun ?_ | refine w_ret ?_ | refine w_resE ?_) | (with_reducible refine w_var (by with_unfolding_all rfl) ?_) | (with_reducible refine w_peekV (by with_unfolding_all rfl) ?_) | (with_reducible refine w_peekO (by with_unfolding_all rfl) ?_) | (with_reducible refine w_app (by with_unfolding_all rfl) ?_) | (with_reducible refine w_frz (by with_unfolding_all rfl) ?_) | (with_reducible refine w_scr (by with_unfolding_all rfl) ?_) | (with_reducible refine w_tc (by with_unfolding_all rfl) ?_) | (with_reducible refine w_stc (by with_unfolding_all rfl) ?_) | (with_reducible refine w_tr (by with_unfolding_all rfl) ?_) | (with_reducible refine w_str (by with_unfolding_all rfl) ?_) | (with_reducible refine w_idxT (by with_unfolding_all rfl) ?_) | (with_reducible refine w_idxL (by with_unfolding_all rfl) ?_) | (with_reducible refine w_isi (by with_unfolding_all rfl) ?_) | ((with_reducible first | refine w_addT ?_ ?_ | refine w_addL ?_ ?_ | refine w_mulI ?_ ?_ | refine w_mulT ?_ ?_ | refine w_mulL ?_ ?_ | refine w_mod ?_ ?_ | refine w_div ?_ ?_ | refine w_pow ?_ ?_ | refine w_rng ?_ ?_); (first | decide | omega | (refine ⟨?_, ?_⟩ <;> omega) | (refine ⟨?_, ?_, ?_⟩ <;> omega) | (simp only [List.length_cons, List.length_nil, List.length_append, List.length_reverse, BL.cD_len, BL.iD_len, BL.mkx_len, BL.sizeL]; omega) | (refine ⟨List.cons_ne_nil _ _, ?_⟩; simp only [List.length_cons, List.length_nil]; omega))) | ((with_reducible first | refine w_eqD ?_ ?_ ?_ | refine w_neD ?_ ?_ ?_ | refine w_inT ?_ ?_ ?_ | refine w_inL ?_ ?_ ?_); (first | rfl | with_unfolding_all rfl); (first | rfl | with_unfolding_all rfl)) | ((with_reducible refine ift_of ?_ ?_); (with_unfolding_all rfl)) | ((with_reducible refine iff_of ?_ ?_); (with_unfolding_all rfl)) | ((with_reducible refine ift2_of ?_ ?_); (with_unfolding_all rfl)) | ((with_reducible refine iff2_of ?_ ?_); (with_unfolding_all rfl)) | ((with_reducible refine ift_of ?_ ?_); exact decide_eq_true (by omega)) | ((with_reducible refine iff_of ?_ ?_); exact decide_eq_false (by omega)) | ((with_reducible refine ift2_of ?_ ?_); exact decide_eq_true (by omega)) | ((with_reducible refine iff2_of ?_ ?_); exact decide_eq_false (by omega)))
    exact hQ _ _ (Int.emod_nonneg _ (Int.ne_of_gt h0)) (Int.emod_lt_of_pos _ h0) ⟨c, rs, rfl, nd, hk⟩
theorem w_draw {ns : List Int} {m : Int} {t : Tn} {Q : D → Tn → Prop} (hl : ns.length ≤ 63) (ht : TOk t) (h0 : 0 < m) (h1 : m < 1073741824) (hQ : ∀ r t', 0 ≤ r → r < m → TOk t' → Q (.int r) t') : W (f_law_draw [.scr ns, .town, .int m] t) Q := by
  obtain ⟨c, rs, rfl, nd, hk⟩ := ht.ex
  refine w_fn ?_
  show W (b_law_draw [.val (.scr ns), .val .town, .val (.int m), .un, .un, .un] _) _
  unfold b_law_draw
  cases ns with
  | nil =>
    repeat (first | (with_reducible first | refine w_seq ?_ | refine w_asg ?_ | refine w_asgP ?_ | refine pr_i ?_ | refine w_eqI ?_ | refine w_neI ?_ | refine w_own ?_ | refine w_par ?_ | refine w_parO ?_ | refine w_expr ?_ | refine w_if ?_ | refine w_sret ?_ | refine w_nil ?_ | refine w_for ?_ | refine w_bin ?_ | refine w_un ?_ | refine w_tup ?_ | refine w_lst ?_ | refine w_call ?_ | refine w_and ?_ | refine w_or ?_ | refine w_ife ?_ | refine w_chain ?_ | refine w_slice ?_ | refine w_oN ?_ | refine w_oS ?_ | refine w_comp ?_ | refine w_itSeq ?_ | refine w_itR ?_ | refine w_evnil ?_ | refine w_evcons ?_ | refine w_evc1 ?_ | refine w_evc0 ?_ | refine w_c ?_ | refine nx_nx ?_ | refine nx_ret ?_ | refine bl_i ?_ | refine in_i ?_ | refine sq_t ?_ | refine sq_l ?_ | refine ls_l ?_ | refine tp_t ?_ | refine w_not ?_ | refine w_addI ?_ | refine w_sub ?_ | refine w_xor ?_ | refine w_ltI ?_ | refine w_leI ?_ | refine w_gtI ?_ | refine w_geI ?_ | refine w_slT ?_ | refine w_slL ?_ | refine w_lenT ?_ | refine w_lenL ?_ | refine w_lenS ?_ | refine w_tupL ?_ | refine w_tupT ?_ | refine w_lstL ?_ | refine w_lstT ?_ | refine w_neg ?_ | refine w_isn ?_ | refine w_isnn ?_ | refine w_begun ?_ | refine w_ret ?_ | refine w_resE ?_) | (with_reducible refine w_var (by with_unfolding_all rfl) ?_) | (with_reducible refine w_peekV (by with_unfolding_all rfl) ?_) | (with_reducible refine w_peekO (by with_unfolding_all rfl) ?_) | (with_reducible refine w_app (by with_unfolding_all rfl) ?_) | (with_reducible refine w_frz (by with_unfolding_all rfl) ?_) | (with_reducible refine w_scr (by with_unfolding_all rfl) ?_) | (with_reducible refine w_tc (by with_unfolding_all rfl) ?_) | (with_reducible refine w_stc (by with_unfolding_all rfl) ?_) | (with_reducible refine w_tr (by with_unfolding_all rfl) ?_) | (with_reducible refine w_str (by with_unfolding_all rfl) ?_) | (with_reducible refine w_idxT (by with_unfolding_all rfl) ?_) | (with_reducible refine w_idxL (by with_unfolding_all rfl) ?_) | (with_reducible refine w_isi (by with_unfolding_all rfl) ?_) | ((with_reducible first | refine w_addT ?_ ?_ | refine w_addL ?_ ?_ | refine w_mulI ?_ ?_ | refine w_mulT ?_ ?_ | refine w_mulL ?_ ?_ | refine w_mod ?_ ?_ | refine w_div ?_ ?_ | refine w_pow ?_ ?_ | refine w_rng ?_ ?_); (first | decide | omega | (refine ⟨?_, ?_⟩ <;> omega) | (refine ⟨?_, ?_, ?_⟩ <;> omega) | (simp only [List.length_cons, List.length_nil, List.length_append, List.length_reverse, BL.cD_len, BL.iD_len, BL.mkx_len, BL.sizeL]; omega) | (refine ⟨List.cons_ne_nil _ _, ?_⟩; simp only [List.length_cons, List.length_nil]; omega))) | ((with_reducible first | refine w_eqD ?_ ?_ ?_ | refine w_neD ?_ ?_ ?_ | refine w_inT ?_ ?_ ?_ | refine w_inL ?_ ?_ ?_); (first | rfl | with_unfolding_all rfl); (first | rfl | with_unfolding_all rfl)) | ((with_reducible refine ift_of ?_ ?_); (with_unfolding_all rfl)) | ((with_reducible refine iff_of ?_ ?_); (with_unfolding_all rfl)) | ((with_reducible refine ift2_of ?_ ?_); (with_unfolding_all rfl)) | ((with_reducible refine iff2_of ?_ ?_); (with_unfolding_all rfl)) | ((with_reducible refine ift_of ?_ ?_); exact decide_eq_true (by omega)) | ((with_reducible refine iff_of ?_ ?_); exact decide_eq_false (by omega)) | ((with_reducible refine ift2_of ?_ ?_); exact decide_eq_true (by omega)) | ((with_reducible refine iff2_of ?_ ?_); exact decide_eq_false (by omega)))
    refine ⟨c, rs, rfl, ?_⟩
    repeat (first | (with_reducible first | refine w_seq ?_ | refine w_asg ?_ | refine w_asgP ?_ | refine pr_i ?_ | refine w_eqI ?_ | refine w_neI ?_ | refine w_own ?_ | refine w_par ?_ | refine w_parO ?_ | refine w_expr ?_ | refine w_if ?_ | refine w_sret ?_ | refine w_nil ?_ | refine w_for ?_ | refine w_bin ?_ | refine w_un ?_ | refine w_tup ?_ | refine w_lst ?_ | refine w_call ?_ | refine w_and ?_ | refine w_or ?_ | refine w_ife ?_ | refine w_chain ?_ | refine w_slice ?_ | refine w_oN ?_ | refine w_oS ?_ | refine w_comp ?_ | refine w_itSeq ?_ | refine w_itR ?_ | refine w_evnil ?_ | refine w_evcons ?_ | refine w_evc1 ?_ | refine w_evc0 ?_ | refine w_c ?_ | refine nx_nx ?_ | refine nx_ret ?_ | refine bl_i ?_ | refine in_i ?_ | refine sq_t ?_ | refine sq_l ?_ | refine ls_l ?_ | refine tp_t ?_ | refine w_not ?_ | refine w_addI ?_ | refine w_sub ?_ | refine w_xor ?_ | refine w_ltI ?_ | refine w_leI ?_ | refine w_gtI ?_ | refine w_geI ?_ | refine w_slT ?_ | refine w_slL ?_ | refine w_lenT ?_ | refine w_lenL ?_ | refine w_lenS ?_ | refine w_tupL ?_ | refine w_tupT ?_ | refine w_lstL ?_ | refine w_lstT ?_ | refine w_neg ?_ | refine w_isn ?_ | refine w_isnn ?_ | refine w_begun ?_ | refine w_ret ?_ | refine w_resE ?_) | (with_reducible refine w_var (by with_unfolding_all rfl) ?_) | (with_reducible refine w_peekV (by with_unfolding_all rfl) ?_) | (with_reducible refine w_peekO (by with_unfolding_all rfl) ?_) | (with_reducible refine w_app (by with_unfolding_all rfl) ?_) | (with_reducible refine w_frz (by with_unfolding_all rfl) ?_) | (with_reducible refine w_scr (by with_unfolding_all rfl) ?_) | (with_reducible refine w_tc (by with_unfolding_all rfl) ?_) | (with_reducible refine w_stc (by with_unfolding_all rfl) ?_) | (with_reducible refine w_tr (by with_unfolding_all rfl) ?_) | (with_reducible refine w_str (by with_unfolding_all rfl) ?_) | (with_reducible refine w_idxT (by with_unfolding_all rfl) ?_) | (with_reducible refine w_idxL (by with_unfolding_all rfl) ?_) | (with_reducible refine w_isi (by with_unfolding_all rfl) ?_) | ((with_reducible first | refine w_addT ?_ ?_ | refine w_addL ?_ ?_ | refine w_mulI ?_ ?_ | refine w_mulT ?_ ?_ | refine w_mulL ?_ ?_ | refine w_mod ?_ ?_ | refine w_div ?_ ?_ | refine w_pow ?_ ?_ | refine w_rng ?_ ?_); (first | decide | omega | (refine ⟨?_, ?_⟩ <;> omega) | (refine ⟨?_, ?_, ?_⟩ <;> omega) | (simp only [List.length_cons, List.length_nil, List.length_append, List.length_reverse, BL.cD_len, BL.iD_len, BL.mkx_len, BL.sizeL]; omega) | (refine ⟨List.cons_ne_nil _ _, ?_⟩; simp only [List.length_cons, List.length_nil]; omega))) | ((with_reducible first | refine w_eqD ?_ ?_ ?_ | refine w_neD ?_ ?_ ?_ | refine w_inT ?_ ?_ ?_ | refine w_inL ?_ ?_ ?_); (first | rfl | with_unfolding_all rfl); (first | rfl | with_unfolding_all rfl)) | ((with_reducible refine ift_of ?_ ?_); (with_unfolding_all rfl)) | ((with_reducible refine iff_of ?_ ?_); (with_unfolding_all rfl)) | ((with_reducible refine ift2_of ?_ ?_); (with_unfolding_all rfl)) | ((with_reducible refine iff2_of ?_ ?_); (with_unfolding_all rfl)) | ((with_reducible refine ift_of ?_ ?_); exact decide_eq_true (by omega)) | ((with_reducible refine iff_of ?_ ?_); exact decide_eq_false (by omega)) | ((with_reducible refine ift2_of ?_ ?_); exact decide_eq_true (by omega)) | ((with_reducible refine iff2_of ?_ ?_); exact decide_eq_false (by omega)))
    refine ⟨c + 1, rs, rfl, ?_⟩
    refine nx_nx ?_
    cases rLook rs 0 with
    | none => exact draw_tail (b := sNil) rfl nd hk (by decide) (by decide) h0 h1 hQ
    | some v => exact draw_tail (b := sNil) rfl nd hk (by decide) (by decide) h0 h1 hQ
  | cons x r =>
    have hp : 0 < ((x :: r).length : Int) := by simp only [List.length_cons]; omega
    have a1 := Int.emod_nonneg (c + 1) (Int.ne_of_gt hp)
    have a2 := Int.emod_lt_of_pos (c + 1) hp
    obtain ⟨y, _, hy, _⟩ := atI_of a1 a2
    repeat (first | (with_reducible first | refine w_seq ?_ | refine w_asg ?_ | refine w_asgP ?_ | refine pr_i ?_ | refine w_eqI ?_ | refine w_neI ?_ | refine w_own ?_ | refine w_par ?_ | refine w_parO ?_ | refine w_expr ?_ | refine w_if ?_ | refine w_sret ?_ | refine w_nil ?_ | refine w_for ?_ | refine w_bin ?_ | refine w_un ?_ | refine w_tup ?_ | refine w_lst ?_ | refine w_call ?_ | refine w_and ?_ | refine w_or ?_ | refine w_ife ?_ | refine w_chain ?_ | refine w_slice ?_ | refine w_oN ?_ | refine w_oS ?_ | refine w_comp ?_ | refine w_itSeq ?_ | refine w_itR ?_ | refine w_evnil ?_ | refine w_evcons ?_ | refine w_evc1 ?_ | refine w_evc0 ?_ | refine w_c ?_ | refine nx_nx ?_ | refine nx_ret ?_ | refine bl_i ?_ | refine in_i ?_ | refine sq_t ?_ | refine sq_l ?_ | refine ls_l ?_ | refine tp_t ?_ | refine w_not ?_ | refine w_addI ?_ | refine w_sub ?_ | refine w_xor ?_ | refine w_ltI ?_ | refine w_leI ?_ | refine w_gtI ?_ | refine w_geI ?_ | refine w_slT ?_ | refine w_slL ?_ | refine w_lenT ?_ | refine w_lenL ?_ | refine w_lenS ?_ | refine w_tupL ?_ | refine w_tupT ?_ | refine w_lstL ?_ | refine w_lstT ?_ | refine w_neg ?_ | refine w_isn ?_ | refine w_isnn ?_ | refine w_begun ?_ | refine w_ret ?_ | refine w_resE ?_) | (with_reducible refine w_var (by with_unfolding_all rfl) ?_) | (with_reducible refine w_peekV (by with_unfolding_all rfl) ?_) | (with_reducible refine w_peekO (by with_unfolding_all rfl) ?_) | (with_reducible refine w_app (by with_unfolding_all rfl) ?_) | (with_reducible refine w_frz (by with_unfolding_all rfl) ?_) | (with_reducible refine w_scr (by with_unfolding_all rfl) ?_) | (with_reducible refine w_tc (by with_unfolding_all rfl) ?_) | (with_reducible refine w_stc (by with_unfolding_all rfl) ?_) | (with_reducible refine w_tr (by with_unfolding_all rfl) ?_) | (with_reducible refine w_str (by with_unfolding_all rfl) ?_) | (with_reducible refine w_idxT (by with_unfolding_all rfl) ?_) | (with_reducible refine w_idxL (by with_unfolding_all rfl) ?_) | (with_reducible refine w_isi (by with_unfolding_all rfl) ?_) | ((with_reducible first | refine w_addT ?_ ?_ | refine w_addL ?_ ?_ | refine w_mulI ?_ ?_ | refine w_mulT ?_ ?_ | refine w_mulL ?_ ?_ | refine w_mod ?_ ?_ | refine w_div ?_ ?_ | refine w_pow ?_ ?_ | refine w_rng ?_ ?_); (first | decide | omega | (refine ⟨?_, ?_⟩ <;> omega) | (refine ⟨?_, ?_, ?_⟩ <;> omega) | (simp only [List.length_cons, List.length_nil, List.length_append, List.length_reverse, BL.cD_len, BL.iD_len, BL.mkx_len, BL.sizeL]; omega) | (refine ⟨List.cons_ne_nil _ _, ?_⟩; simp only [List.length_cons, List.length_nil]; omega))) | ((with_reducible first | refine w_eqD ?_ ?_ ?_ | refine w_neD ?_ ?_ ?_ | refine w_inT ?_ ?_ ?_ | refine w_inL ?_ ?_ ?_); (first | rfl | with_unfolding_all rfl); (first | rfl | with_unfolding_all rfl)) | ((with_reducible refine ift_of ?_ ?_); (with_unfolding_all rfl)) | ((with_reducible refine iff_of ?_ ?_); (with_unfolding_all rfl)) | ((with_reducible refine ift2_of ?_ ?_); (with_unfolding_all rfl)) | ((with_reducible refine iff2_of ?_ ?_); (with_unfolding_all rfl)) | ((with_reducible refine ift_of ?_ ?_); exact decide_eq_true (by omega)) | ((with_reducible refine iff_of ?_ ?_); exact decide_eq_false (by omega)) | ((with_reducible refine ift2_of ?_ ?_); exact decide_eq_true (by omega)) | ((with_reducible refine iff2_of ?_ ?_); exact decide_eq_false (by omega)))
    refine ⟨c, rs, rfl, ?_⟩
    repeat (first | (with_reducible first | refine w_seq ?_ | refine w_asg ?_ | refine w_asgP ?_ | refine pr_i ?_ | refine w_eqI ?_ | refine w_neI ?_ | refine w_own ?_ | refine w_par ?_ | refine w_parO ?_ | refine w_expr ?_ | refine w_if ?_ | refine w_sret ?_ | refine w_nil ?_ | refine w_for ?_ | refine w_bin ?_ | refine w_un ?_ | refine w_tup ?_ | refine w_lst ?_ | refine w_call ?_ | refine w_and ?_ | refine w_or ?_ | refine w_ife ?_ | refine w_chain ?_ | refine w_slice ?_ | refine w_oN ?_ | refine w_oS ?_ | refine w_comp ?_ | refine w_itSeq ?_ | refine w_itR ?_ | refine w_evnil ?_ | refine w_evcons ?_ | refine w_evc1 ?_ | refine w_evc0 ?_ | refine w_c ?_ | refine nx_nx ?_ | refine nx_ret ?_ | refine bl_i ?_ | refine in_i ?_ | refine sq_t ?_ | refine sq_l ?_ | refine ls_l ?_ | refine tp_t ?_ | refine w_not ?_ | refine w_addI ?_ | refine w_sub ?_ | refine w_xor ?_ | refine w_ltI ?_ | refine w_leI ?_ | refine w_gtI ?_ | refine w_geI ?_ | refine w_slT ?_ | refine w_slL ?_ | refine w_lenT ?_ | refine w_lenL ?_ | refine w_lenS ?_ | refine w_tupL ?_ | refine w_tupT ?_ | refine w_lstL ?_ | refine w_lstT ?_ | refine w_neg ?_ | refine w_isn ?_ | refine w_isnn ?_ | refine w_begun ?_ | refine w_ret ?_ | refine w_resE ?_) | (with_reducible refine w_var (by with_unfolding_all rfl) ?_) | (with_reducible refine w_peekV (by with_unfolding_all rfl) ?_) | (with_reducible refine w_peekO (by with_unfolding_all rfl) ?_) | (with_reducible refine w_app (by with_unfolding_all rfl) ?_) | (with_reducible refine w_frz (by with_unfolding_all rfl) ?_) | (with_reducible refine w_scr (by with_unfolding_all rfl) ?_) | (with_reducible refine w_tc (by with_unfolding_all rfl) ?_) | (with_reducible refine w_stc (by with_unfolding_all rfl) ?_) | (with_reducible refine w_tr (by with_unfolding_all rfl) ?_) | (with_reducible refine w_str (by with_unfolding_all rfl) ?_) | (with_reducible refine w_idxT (by with_unfolding_all rfl) ?_) | (with_reducible refine w_idxL (by with_unfolding_all rfl) ?_) | (with_reducible refine w_isi (by with_unfolding_all rfl) ?_) | ((with_reducible first | refine w_addT ?_ ?_ | refine w_addL ?_ ?_ | refine w_mulI ?_ ?_ | refine w_mulT ?_ ?_ | refine w_mulL ?_ ?_ | refine w_mod ?_ ?_ | refine w_div ?_ ?_ | refine w_pow ?_ ?_ | refine w_rng ?_ ?_); (first | decide | omega | (refine ⟨?_, ?_⟩ <;> omega) | (refine ⟨?_, ?_, ?_⟩ <;> omega) | (simp only [List.length_cons, List.length_nil, List.length_append, List.length_reverse, BL.cD_len, BL.iD_len, BL.mkx_len, BL.sizeL]; omega) | (refine ⟨List.cons_ne_nil _ _, ?_⟩; simp only [List.length_cons, List.length_nil]; omega))) | ((with_reducible first | refine w_eqD ?_ ?_ ?_ | refine w_neD ?_ ?_ ?_ | refine w_inT ?_ ?_ ?_ | refine w_inL ?_ ?_ ?_); (first | rfl | with_unfolding_all rfl); (first | rfl | with_unfolding_all rfl)) | ((with_reducible refine ift_of ?_ ?_); (with_unfolding_all rfl)) | ((with_reducible refine iff_of ?_ ?_); (with_unfolding_all rfl)) | ((with_reducible refine ift2_of ?_ ?_); (with_unfolding_all rfl)) | ((with_reducible refine iff2_of ?_ ?_); (with_unfolding_all rfl)) | ((with_reducible refine ift_of ?_ ?_); exact decide_eq_true (by omega)) | ((with_reducible refine iff_of ?_ ?_); exact decide_eq_false (by omega)) | ((with_reducible refine ift2_of ?_ ?_); exact decide_eq_true (by omega)) | ((with_reducible refine iff2_of ?_ ?_); exact decide_eq_false (by omega)))
    refine w_idxS hy ?_
    refine ⟨c + 1, rs, rfl, ?_⟩
    refine nx_nx ?_
    cases rLook rs ((c + 1) % ((x :: r).length : Int)) with
    | none => exact draw_tail (b := sNil) rfl nd hk a1 (by omega) h0 h1 hQ
    | some v => exact draw_tail (b := sNil) rfl nd hk a1 (by omega) h0 h1 hQ
end BL
set_option Elab.async false
set_option linter.all false
set_option maxRecDepth 100000
set_option maxHeartbeats 4000000
namespace BL
open PySem BG L2
def gts : List D := [.tup [.str "both", .int 0, .int 1, .int 2], .tup [.str "both", .int 0, .int 2, .int 1], .tup [.str "both", .int 1, .int 2, .int 0], .tup [.str "if", .int 0, .int 1], .tup [.str "if", .int 0, .int 2], .tup [.str "if", .int 1, .int 0], .tup [.str "if", .int 1, .int 2], .tup [.str "if", .int 2, .int 0], .tup [.str "if", .int 2, .int 1], .tup [.str "not", .int 0], .tup [.str "not", .int 1], .tup [.str "not", .int 2], .tup [.str "pick", .int 0, .int 1, .int 2], .tup [.str "pick", .int 1, .int 0, .int 2], .tup [.str "pick", .int 2, .int 0, .int 1], .tup [.str "swap", .int 0, .int 1], .tup [.str "swap", .int 0, .int 2], .tup [.str "swap", .int 1, .int 2]]
theorem law_gates_eq : f_law_gates [] = ret (.lst gts) := by with_unfolding_all rfl
theorem gts_len : gts.length = 18 := by decide +kernel
theorem map_eq_all {α β : Type} {f g : α → β} {l : List α} (h : l.map f = l.map g) : ∀ x ∈ l, f x = g x := List.map_inj_left.mp h
theorem is_gate_eq : ∀ g ∈ gts, f_is_gate [g] = ret (.bl true) := map_eq_all (by with_unfolding_all rfl)
theorem all_of {α : Type} {p : α → Bool} {l : List α} (h : l.all p = true) : ∀ x ∈ l, p x = true := List.all_eq_true.mp h
def kindD : D → D
  | .tup (k :: _) => k
  | _ => .non
def gateShape : D → Bool
  | .tup (.str k :: ls) => okD (.tup (.str k :: ls)) 20 && nobl (.tup (.str k :: ls))
  | _ => false
theorem gts_shape : ∀ g ∈ gts, gateShape g = true := all_of (by decide +kernel)
theorem gts_kind {g : D} (h : g ∈ gts) : ∃ k ls, g = .tup (.str k :: ls) ∧ okD g 20 = true ∧ nobl g = true := by
  have := gts_shape g h
  unfold gateShape at this
  split at this
  · rw [Bool.and_eq_true] at this; exact ⟨_, _, rfl, this.1, this.2⟩
  · cases this
mutual
theorem okD_le : ∀ {d : D} {n m : Nat}, n ≤ m → okD d n = true → okD d m = true
  | .non, n, m, h, e => by cases n <;> cases m <;> rfl
  | .bl _, n, m, h, e => by cases n <;> cases m <;> rfl
  | .int _, n, m, h, e => by cases n <;> cases m <;> rfl
  | .str x, n, m, h, e => by unfold okD at e ⊢; exact e
  | .tup xs, 0, m, h, e => by cases e
  | .tup xs, n + 1, 0, h, e => by omega
  | .tup xs, n + 1, m + 1, h, e => okA_le (ds := xs) (n := n) (m := m) (by omega) e
  | .lst xs, 0, m, h, e => by cases e
  | .lst xs, n + 1, 0, h, e => by omega
  | .lst xs, n + 1, m + 1, h, e => okA_le (ds := xs) (n := n) (m := m) (by omega) e
  | .town, n, m, h, e => by unfold okD at e; cases e
  | .scr _, n, m, h, e => by unfold okD at e; cases e
  | .dct _ _, n, m, h, e => by unfold okD at e; cases e
theorem okA_le : ∀ {ds : List D} {n m : Nat}, n ≤ m → okA ds n = true → okA ds m = true
  | [], _, _, _, _ => rfl
  | d :: ds, n, m, h, e => by
    have e : (okD d n && okA ds n) = true := e
    show (okD d m && okA ds m) = true
    rw [Bool.and_eq_true] at e ⊢
    exact ⟨okD_le h e.1, okA_le h e.2⟩
end
theorem okA_of {ds : List D} {n : Nat} (h : ∀ d ∈ ds, okD d n = true) : okA ds n = true := by rw [okA_all]; exact List.all_eq_true.mpr h
theorem noblA_of : ∀ {ds : List D}, (∀ d ∈ ds, nobl d = true) → noblA ds = true
  | [], _ => rfl
  | d :: ds, h => by
    show (nobl d && noblA ds) = true
    rw [h d (List.mem_cons_self ..), noblA_of fun d hd => h d (List.mem_cons_of_mem _ hd)]; rfl
theorem atI_zero {α : Type} {x : α} {xs : List α} : atI (x :: xs) 0 = some x := atI_nat (n := 0) rfl
def gtsK (ks : List D) : List D := gts.filter fun g => inD (kindD g) ks
theorem gtsK_sub {ks : List D} {g : D} (h : g ∈ gtsK ks) : g ∈ gts := (List.mem_filter.mp h).1
theorem gtsK_len (ks : List D) : (gtsK ks).length ≤ 18 := by
  have := List.length_filter_le (fun g => inD (kindD g) ks) gts
  rw [gts_len] at this; exact this
theorem w_circuit {ns : List Int} {ks : List D} {most : Nat} {t : Tn} {Q : D → Tn → Prop} (hl : ns.length ≤ 63) (ht : TOk t) (hm : most ≤ 1000) (hk : okA ks 60 = true) (hne : gtsK ks ≠ []) (hQ : ∀ cs t', cs.length ≤ most → (∀ g ∈ cs, g ∈ gtsK ks) → TOk t' → Q (.tup cs) t') :
    W (f_law_circuit [.scr ns, .town, .tup ks, .int most] t) Q := by
  refine w_fn ?_
  show W (b_law_circuit [.val (.scr ns), .val .town, .val (.tup ks), .val (.int most), .un, .un, .un] _) _
  unfold b_law_circuit
  repeat (first | (with_reducible refine w_eq law_gates_eq ?_) | (with_reducible first | refine w_seq ?_ | refine w_asg ?_ | refine w_asgP ?_ | refine pr_i ?_ | refine w_eqI ?_ | refine w_neI ?_ | refine w_own ?_ | refine w_par ?_ | refine w_parO ?_ | refine w_expr ?_ | refine w_if ?_ | refine w_sret ?_ | refine w_nil ?_ | refine w_for ?_ | refine w_bin ?_ | refine w_un ?_ | refine w_tup ?_ | refine w_lst ?_ | refine w_call ?_ | refine w_and ?_ | refine w_or ?_ | refine w_ife ?_ | refine w_chain ?_ | refine w_slice ?_ | refine w_oN ?_ | refine w_oS ?_ | refine w_comp ?_ | refine w_itSeq ?_ | refine w_itR ?_ | refine w_evnil ?_ | refine w_evcons ?_ | refine w_evc1 ?_ | refine w_evc0 ?_ | refine w_c ?_ | refine nx_nx ?_ | refine nx_ret ?_ | refine bl_i ?_ | refine in_i ?_ | refine sq_t ?_ | refine sq_l ?_ | refine ls_l ?_ | refine tp_t ?_ | refine w_not ?_ | refine w_addI ?_ | refine w_sub ?_ | refine w_xor ?_ | refine w_ltI ?_ | refine w_leI ?_ | refine w_gtI ?_ | refine w_geI ?_ | refine w_slT ?_ | refine w_slL ?_ | refine w_lenT ?_ | refine w_lenL ?_ | refine w_lenS ?_ | refine w_tupL ?_ | refine w_tupT ?_ | refine w_lstL ?_ | refine w_lstT ?_ | refine w_neg ?_ | refine w_isn ?_ | refine w_isnn ?_ | refine w_begun ?_ | refine w_ret ?_ | refine w_resE ?_) | (with_reducible refine w_var (by with_unfolding_all rfl) ?_) | (with_reducible refine w_peekV (by with_unfolding_all rfl) ?_) | (with_reducible refine w_peekO (by with_unfolding_all rfl) ?_) | (with_reducible refine w_app (by with_unfolding_all rfl) ?_) | (with_reducible refine w_frz (by with_unfolding_all rfl) ?_) | (with_reducible refine w_scr (by with_unfolding_all rfl) ?_) | (with_reducible refine w_tc (by with_unfolding_all rfl) ?_) | (with_reducible refine w_stc (by with_unfolding_all rfl) ?_) | (with_reducible refine w_tr (by with_unfolding_all rfl) ?_) | (with_reducible refine w_str (by with_unfolding_all rfl) ?_) | (with_reducible refine w_idxT (by with_unfolding_all rfl) ?_) | (with_reducible refine w_idxL (by with_unfolding_all rfl) ?_) | (with_reducible refine w_isi (by with_unfolding_all rfl) ?_) | ((with_reducible first | refine w_addT ?_ ?_ | refine w_addL ?_ ?_ | refine w_mulI ?_ ?_ | refine w_mulT ?_ ?_ | refine w_mulL ?_ ?_ | refine w_mod ?_ ?_ | refine w_div ?_ ?_ | refine w_pow ?_ ?_ | refine w_rng ?_ ?_); (first | decide | omega | (refine ⟨?_, ?_⟩ <;> omega) | (refine ⟨?_, ?_, ?_⟩ <;> omega) | (simp only [List.length_cons, List.length_nil, List.length_append, List.length_reverse, BL.cD_len, BL.iD_len, BL.mkx_len, BL.sizeL]; omega) | (refine ⟨List.cons_ne_nil _ _, ?_⟩; simp only [List.length_cons, List.length_nil]; omega))) | ((with_reducible first | refine w_eqD ?_ ?_ ?_ | refine w_neD ?_ ?_ ?_ | refine w_inT ?_ ?_ ?_ | refine w_inL ?_ ?_ ?_); (first | rfl | with_unfolding_all rfl); (first | rfl | with_unfolding_all rfl)) | ((with_reducible refine ift_of ?_ ?_); (with_unfolding_all rfl)) | ((with_reducible refine iff_of ?_ ?_); (with_unfolding_all rfl)) | ((with_reducible refine ift2_of ?_ ?_); (with_unfolding_all rfl)) | ((with_reducible refine iff2_of ?_ ?_); (with_unfolding_all rfl)) | ((with_reducible refine ift_of ?_ ?_); exact decide_eq_true (by omega)) | ((with_reducible refine iff_of ?_ ?_); exact decide_eq_false (by omega)) | ((with_reducible refine ift2_of ?_ ?_); exact decide_eq_true (by omega)) | ((with_reducible refine iff2_of ?_ ?_); exact decide_eq_false (by omega)))
  have hl18 := gtsK_len ks
  have hpos : 0 < (gtsK ks).length := List.length_pos_iff.mpr hne
  refine ⟨by decide +kernel, w_cmpP (fun g => inD (kindD g) ks) id (fun g hg => ?_) ?_⟩
  · obtain ⟨k, ls, rfl, ok, nb⟩ := gts_kind hg
    refine ⟨_, rfl, eq_of_W fun t => ?_, fun _ => eq_of_W fun t => ?_⟩
    · repeat (first | (with_reducible refine w_idxT atI_zero ?_) | (with_reducible first | refine w_seq ?_ | refine w_asg ?_ | refine w_asgP ?_ | refine pr_i ?_ | refine w_eqI ?_ | refine w_neI ?_ | refine w_own ?_ | refine w_par ?_ | refine w_parO ?_ | refine w_expr ?_ | refine w_if ?_ | refine w_sret ?_ | refine w_nil ?_ | refine w_for ?_ | refine w_bin ?_ | refine w_un ?_ | refine w_tup ?_ | refine w_lst ?_ | refine w_call ?_ | refine w_and ?_ | refine w_or ?_ | refine w_ife ?_ | refine w_chain ?_ | refine w_slice ?_ | refine w_oN ?_ | refine w_oS ?_ | refine w_comp ?_ | refine w_itSeq ?_ | refine w_itR ?_ | refine w_evnil ?_ | refine w_evcons ?_ | refine w_evc1 ?_ | refine w_evc0 ?_ | refine w_c ?_ | refine nx_nx ?_ | refine nx_ret ?_ | refine bl_i ?_ | refine in_i ?_ | refine sq_t ?_ | refine sq_l ?_ | refine ls_l ?_ | refine tp_t ?_ | refine w_not ?_ | refine w_addI ?_ | refine w_sub ?_ | refine w_xor ?_ | refine w_ltI ?_ | refine w_leI ?_ | refine w_gtI ?_ | refine w_geI ?_ | refine w_slT ?_ | refine w_slL ?_ | refine w_lenT ?_ | refine w_lenL ?_ | refine w_lenS ?_ | refine w_tupL ?_ | refine w_tupT ?_ | refine w_lstL ?_ | refine w_lstT ?_ | refine w_neg ?_ | refine w_isn ?_ | refine w_isnn ?_ | refine w_begun ?_ | refine w_ret ?_ | refine w_resE ?_) | (with_reducible refine w_var (by with_unfolding_all rfl) ?_) | (with_reducible refine w_peekV (by with_unfolding_all rfl) ?_) | (with_reducible refine w_peekO (by with_unfolding_all rfl) ?_) | (with_reducible refine w_app (by with_unfolding_all rfl) ?_) | (with_reducible refine w_frz (by with_unfolding_all rfl) ?_) | (with_reducible refine w_scr (by with_unfolding_all rfl) ?_) | (with_reducible refine w_tc (by with_unfolding_all rfl) ?_) | (with_reducible refine w_stc (by with_unfolding_all rfl) ?_) | (with_reducible refine w_tr (by with_unfolding_all rfl) ?_) | (with_reducible refine w_str (by with_unfolding_all rfl) ?_) | (with_reducible refine w_idxT (by with_unfolding_all rfl) ?_) | (with_reducible refine w_idxL (by with_unfolding_all rfl) ?_) | (with_reducible refine w_isi (by with_unfolding_all rfl) ?_) | ((with_reducible first | refine w_addT ?_ ?_ | refine w_addL ?_ ?_ | refine w_mulI ?_ ?_ | refine w_mulT ?_ ?_ | refine w_mulL ?_ ?_ | refine w_mod ?_ ?_ | refine w_div ?_ ?_ | refine w_pow ?_ ?_ | refine w_rng ?_ ?_); (first | decide | omega | (refine ⟨?_, ?_⟩ <;> omega) | (refine ⟨?_, ?_, ?_⟩ <;> omega) | (simp only [List.length_cons, List.length_nil, List.length_append, List.length_reverse, BL.cD_len, BL.iD_len, BL.mkx_len, BL.sizeL]; omega) | (refine ⟨List.cons_ne_nil _ _, ?_⟩; simp only [List.length_cons, List.length_nil]; omega))) | ((with_reducible first | refine w_eqD ?_ ?_ ?_ | refine w_neD ?_ ?_ ?_ | refine w_inT ?_ ?_ ?_ | refine w_inL ?_ ?_ ?_); (first | rfl | with_unfolding_all rfl); (first | rfl | with_unfolding_all rfl)) | ((with_reducible refine ift_of ?_ ?_); (with_unfolding_all rfl)) | ((with_reducible refine iff_of ?_ ?_); (with_unfolding_all rfl)) | ((with_reducible refine ift2_of ?_ ?_); (with_unfolding_all rfl)) | ((with_reducible refine iff2_of ?_ ?_); (with_unfolding_all rfl)) | ((with_reducible refine ift_of ?_ ?_); exact decide_eq_true (by omega)) | ((with_reducible refine iff_of ?_ ?_); exact decide_eq_false (by omega)) | ((with_reducible refine ift2_of ?_ ?_); exact decide_eq_true (by omega)) | ((with_reducible refine iff2_of ?_ ?_); exact decide_eq_false (by omega)))
      have ok2 : okD (.str k) 60 = true := by
        have : (okD (.str k) 19 && okA ls 19) = true := ok
        rw [Bool.and_eq_true] at this
        exact okD_le (by decide) this.1
      refine w_inT ok2 hk ?_
      exact ⟨rfl, rfl⟩
    · repeat (first | (with_reducible first | refine w_seq ?_ | refine w_asg ?_ | refine w_asgP ?_ | refine pr_i ?_ | refine w_eqI ?_ | refine w_neI ?_ | refine w_own ?_ | refine w_par ?_ | refine w_parO ?_ | refine w_expr ?_ | refine w_if ?_ | refine w_sret ?_ | refine w_nil ?_ | refine w_for ?_ | refine w_bin ?_ | refine w_un ?_ | refine w_tup ?_ | refine w_lst ?_ | refine w_call ?_ | refine w_and ?_ | refine w_or ?_ | refine w_ife ?_ | refine w_chain ?_ | refine w_slice ?_ | refine w_oN ?_ | refine w_oS ?_ | refine w_comp ?_ | refine w_itSeq ?_ | refine w_itR ?_ | refine w_evnil ?_ | refine w_evcons ?_ | refine w_evc1 ?_ | refine w_evc0 ?_ | refine w_c ?_ | refine nx_nx ?_ | refine nx_ret ?_ | refine bl_i ?_ | refine in_i ?_ | refine sq_t ?_ | refine sq_l ?_ | refine ls_l ?_ | refine tp_t ?_ | refine w_not ?_ | refine w_addI ?_ | refine w_sub ?_ | refine w_xor ?_ | refine w_ltI ?_ | refine w_leI ?_ | refine w_gtI ?_ | refine w_geI ?_ | refine w_slT ?_ | refine w_slL ?_ | refine w_lenT ?_ | refine w_lenL ?_ | refine w_lenS ?_ | refine w_tupL ?_ | refine w_tupT ?_ | refine w_lstL ?_ | refine w_lstT ?_ | refine w_neg ?_ | refine w_isn ?_ | refine w_isnn ?_ | refine w_begun ?_ | refine w_ret ?_ | refine w_resE ?_) | (with_reducible refine w_var (by with_unfolding_all rfl) ?_) | (with_reducible refine w_peekV (by with_unfolding_all rfl) ?_) | (with_reducible refine w_peekO (by with_unfolding_all rfl) ?_) | (with_reducible refine w_app (by with_unfolding_all rfl) ?_) | (with_reducible refine w_frz (by with_unfolding_all rfl) ?_) | (with_reducible refine w_scr (by with_unfolding_all rfl) ?_) | (with_reducible refine w_tc (by with_unfolding_all rfl) ?_) | (with_reducible refine w_stc (by with_unfolding_all rfl) ?_) | (with_reducible refine w_tr (by with_unfolding_all rfl) ?_) | (with_reducible refine w_str (by with_unfolding_all rfl) ?_) | (with_reducible refine w_idxT (by with_unfolding_all rfl) ?_) | (with_reducible refine w_idxL (by with_unfolding_all rfl) ?_) | (with_reducible refine w_isi (by with_unfolding_all rfl) ?_) | ((with_reducible first | refine w_addT ?_ ?_ | refine w_addL ?_ ?_ | refine w_mulI ?_ ?_ | refine w_mulT ?_ ?_ | refine w_mulL ?_ ?_ | refine w_mod ?_ ?_ | refine w_div ?_ ?_ | refine w_pow ?_ ?_ | refine w_rng ?_ ?_); (first | decide | omega | (refine ⟨?_, ?_⟩ <;> omega) | (refine ⟨?_, ?_, ?_⟩ <;> omega) | (simp only [List.length_cons, List.length_nil, List.length_append, List.length_reverse, BL.cD_len, BL.iD_len, BL.mkx_len, BL.sizeL]; omega) | (refine ⟨List.cons_ne_nil _ _, ?_⟩; simp only [List.length_cons, List.length_nil]; omega))) | ((with_reducible first | refine w_eqD ?_ ?_ ?_ | refine w_neD ?_ ?_ ?_ | refine w_inT ?_ ?_ ?_ | refine w_inL ?_ ?_ ?_); (first | rfl | with_unfolding_all rfl); (first | rfl | with_unfolding_all rfl)) | ((with_reducible refine ift_of ?_ ?_); (with_unfolding_all rfl)) | ((with_reducible refine iff_of ?_ ?_); (with_unfolding_all rfl)) | ((with_reducible refine ift2_of ?_ ?_); (with_unfolding_all rfl)) | ((with_reducible refine iff2_of ?_ ?_); (with_unfolding_all rfl)) | ((with_reducible refine ift_of ?_ ?_); exact decide_eq_true (by omega)) | ((with_reducible refine iff_of ?_ ?_); exact decide_eq_false (by omega)) | ((with_reducible refine ift2_of ?_ ?_); exact decide_eq_true (by omega)) | ((with_reducible refine iff2_of ?_ ?_); exact decide_eq_false (by omega)))
      exact ⟨rfl, rfl⟩
  rw [List.map_id]
  show Nx _ _ (.nx [.val (.scr ns), .val .town, .val (.tup ks), .val (.int most), .val (.lst (gtsK ks)), .un, .un]) _
  generalize gtsK ks = gs at *
  repeat (first | (with_reducible refine w_draw hl ht (by omega) (by omega) fun r t' r0 r1 ht' => ?_) | (with_reducible first | refine w_seq ?_ | refine w_asg ?_ | refine w_asgP ?_ | refine pr_i ?_ | refine w_eqI ?_ | refine w_neI ?_ | refine w_own ?_ | refine w_par ?_ | refine w_parO ?_ | refine w_expr ?_ | refine w_if ?_ | refine w_sret ?_ | refine w_nil ?_ | refine w_for ?_ | refine w_bin ?_ | refine w_un ?_ | refine w_tup ?_ | refine w_lst ?_ | refine w_call ?_ | refine w_and ?_ | refine w_or ?_ | refine w_ife ?_ | refine w_chain ?_ | refine w_slice ?_ | refine w_oN ?_ | refine w_oS ?_ | refine w_comp ?_ | refine w_itSeq ?_ | refine w_itR ?_ | refine w_evnil ?_ | refine w_evcons ?_ | refine w_evc1 ?_ | refine w_evc0 ?_ | refine w_c ?_ | refine nx_nx ?_ | refine nx_ret ?_ | refine bl_i ?_ | refine in_i ?_ | refine sq_t ?_ | refine sq_l ?_ | refine ls_l ?_ | refine tp_t ?_ | refine w_not ?_ | refine w_addI ?_ | refine w_sub ?_ | refine w_xor ?_ | refine w_ltI ?_ | refine w_leI ?_ | refine w_gtI ?_ | refine w_geI ?_ | refine w_slT ?_ | refine w_slL ?_ | refine w_lenT ?_ | refine w_lenL ?_ | refine w_lenS ?_ | refine w_tupL ?_ | refine w_tupT ?_ | refine w_lstL ?_ | refine w_lstT ?_ | refine w_neg ?_ | refine w_isn ?_ | refine w_isnn ?_ | refine w_begun ?_ | refine w_ret ?_ | refine w_resE ?_) | (with_reducible refine w_var (by with_unfolding_all rfl) ?_) | (with_reducible refine w_peekV (by with_unfolding_all rfl) ?_) | (with_reducible refine w_peekO (by with_unfolding_all rfl) ?_) | (with_reducible refine w_app (by with_unfolding_all rfl) ?_) | (with_reducible refine w_frz (by with_unfolding_all rfl) ?_) | (with_reducible refine w_scr (by with_unfolding_all rfl) ?_) | (with_reducible refine w_tc (by with_unfolding_all rfl) ?_) | (with_reducible refine w_stc (by with_unfolding_all rfl) ?_) | (with_reducible refine w_tr (by with_unfolding_all rfl) ?_) | (with_reducible refine w_str (by with_unfolding_all rfl) ?_) | (with_reducible refine w_idxT (by with_unfolding_all rfl) ?_) | (with_reducible refine w_idxL (by with_unfolding_all rfl) ?_) | (with_reducible refine w_isi (by with_unfolding_all rfl) ?_) | ((with_reducible first | refine w_addT ?_ ?_ | refine w_addL ?_ ?_ | refine w_mulI ?_ ?_ | refine w_mulT ?_ ?_ | refine w_mulL ?_ ?_ | refine w_mod ?_ ?_ | refine w_div ?_ ?_ | refine w_pow ?_ ?_ | refine w_rng ?_ ?_); (first | decide | omega | (refine ⟨?_, ?_⟩ <;> omega) | (refine ⟨?_, ?_, ?_⟩ <;> omega) | (simp only [List.length_cons, List.length_nil, List.length_append, List.length_reverse, BL.cD_len, BL.iD_len, BL.mkx_len, BL.sizeL]; omega) | (refine ⟨List.cons_ne_nil _ _, ?_⟩; simp only [List.length_cons, List.length_nil]; omega))) | ((with_reducible first | refine w_eqD ?_ ?_ ?_ | refine w_neD ?_ ?_ ?_ | refine w_inT ?_ ?_ ?_ | refine w_inL ?_ ?_ ?_); (first | rfl | with_unfolding_all rfl); (first | rfl | with_unfolding_all rfl)) | ((with_reducible refine ift_of ?_ ?_); (with_unfolding_all rfl)) | ((with_reducible refine iff_of ?_ ?_); (with_unfolding_all rfl)) | ((with_reducible refine ift2_of ?_ ?_); (with_unfolding_all rfl)) | ((with_reducible refine iff2_of ?_ ?_); (with_unfolding_all rfl)) | ((with_reducible refine ift_of ?_ ?_); exact decide_eq_true (by omega)) | ((with_reducible refine iff_of ?_ ?_); exact decide_eq_false (by omega)) | ((with_reducible refine ift2_of ?_ ?_); exact decide_eq_true (by omega)) | ((with_reducible refine iff2_of ?_ ?_); exact decide_eq_false (by omega)))
  refine ⟨r0, by omega, ?_⟩
  refine ⟨by unfold rng; rw [List.length_map, List.length_range]; have : sizeLine = 16777216 := rfl; omega, ?_⟩
  refine w_cmpL (T := TOk) (R := fun _ r => r ∈ gs) ht' (fun d hd t ht => ⟨_, rfl, rfl, ?_⟩) fun rs t2 ht2 he hR => ?_
  · show W (eBin pIdx (eVar 4) (eCall f_law_draw [(eVar 0), (eVar 1), (eUn bLen (eVar 4))]) [.val (.scr ns), .val .town, .val (.tup ks), .val (.int most), .val (.lst gs), .un, .val d] t) _
    repeat (first | (with_reducible refine w_draw hl ht (by omega) (by omega) fun r t' r0 r1 ht' => ?_) | (with_reducible first | refine w_seq ?_ | refine w_asg ?_ | refine w_asgP ?_ | refine pr_i ?_ | refine w_eqI ?_ | refine w_neI ?_ | refine w_own ?_ | refine w_par ?_ | refine w_parO ?_ | refine w_expr ?_ | refine w_if ?_ | refine w_sret ?_ | refine w_nil ?_ | refine w_for ?_ | refine w_bin ?_ | refine w_un ?_ | refine w_tup ?_ | refine w_lst ?_ | refine w_call ?_ | refine w_and ?_ | refine w_or ?_ | refine w_ife ?_ | refine w_chain ?_ | refine w_slice ?_ | refine w_oN ?_ | refine w_oS ?_ | refine w_comp ?_ | refine w_itSeq ?_ | refine w_itR ?_ | refine w_evnil ?_ | refine w_evcons ?_ | refine w_evc1 ?_ | refine w_evc0 ?_ | refine w_c ?_ | refine nx_nx ?_ | refine nx_ret ?_ | refine bl_i ?_ | refine in_i ?_ | refine sq_t ?_ | refine sq_l ?_ | refine ls_l ?_ | refine tp_t ?_ | refine w_not ?_ | refine w_addI ?_ | refine w_sub ?_ | refine w_xor ?_ | refine w_ltI ?_ | refine w_leI ?_ | refine w_gtI ?_ | refine w_geI ?_ | refine w_slT ?_ | refine w_slL ?_ | refine w_lenT ?_ | refine w_lenL ?_ | refine w_lenS ?_ | refine w_tupL ?_ | refine w_tupT ?_ | refine w_lstL ?_ | refine w_lstT ?_ | refine w_neg ?_ | refine w_isn ?_ | refine w_isnn ?_ | refine w_begun ?_ | refine w_ret ?_ | refine w_resE ?_) | (with_reducible refine w_var (by with_unfolding_all rfl) ?_) | (with_reducible refine w_peekV (by with_unfolding_all rfl) ?_) | (with_reducible refine w_peekO (by with_unfolding_all rfl) ?_) | (with_reducible refine w_app (by with_unfolding_all rfl) ?_) | (with_reducible refine w_frz (by with_unfolding_all rfl) ?_) | (with_reducible refine w_scr (by with_unfolding_all rfl) ?_) | (with_reducible refine w_tc (by with_unfolding_all rfl) ?_) | (with_reducible refine w_stc (by with_unfolding_all rfl) ?_) | (with_reducible refine w_tr (by with_unfolding_all rfl) ?_) | (with_reducible refine w_str (by with_unfolding_all rfl) ?_) | (with_reducible refine w_idxT (by with_unfolding_all rfl) ?_) | (with_reducible refine w_idxL (by with_unfolding_all rfl) ?_) | (with_reducible refine w_isi (by with_unfolding_all rfl) ?_) | ((with_reducible first | refine w_addT ?_ ?_ | refine w_addL ?_ ?_ | refine w_mulI ?_ ?_ | refine w_mulT ?_ ?_ | refine w_mulL ?_ ?_ | refine w_mod ?_ ?_ | refine w_div ?_ ?_ | refine w_pow ?_ ?_ | refine w_rng ?_ ?_); (first | decide | omega | (refine ⟨?_, ?_⟩ <;> omega) | (refine ⟨?_, ?_, ?_⟩ <;> omega) | (simp only [List.length_cons, List.length_nil, List.length_append, List.length_reverse, BL.cD_len, BL.iD_len, BL.mkx_len, BL.sizeL]; omega) | (refine ⟨List.cons_ne_nil _ _, ?_⟩; simp only [List.length_cons, List.length_nil]; omega))) | ((with_reducible first | refine w_eqD ?_ ?_ ?_ | refine w_neD ?_ ?_ ?_ | refine w_inT ?_ ?_ ?_ | refine w_inL ?_ ?_ ?_); (first | rfl | with_unfolding_all rfl); (first | rfl | with_unfolding_all rfl)) | ((with_reducible refine ift_of ?_ ?_); (with_unfolding_all rfl)) | ((with_reducible refine iff_of ?_ ?_); (with_unfolding_all rfl)) | ((with_reducible refine ift2_of ?_ ?_); (with_unfolding_all rfl)) | ((with_reducible refine iff2_of ?_ ?_); (with_unfolding_all rfl)) | ((with_reducible refine ift_of ?_ ?_); exact decide_eq_true (by omega)) | ((with_reducible refine iff_of ?_ ?_); exact decide_eq_false (by omega)) | ((with_reducible refine ift2_of ?_ ?_); exact decide_eq_true (by omega)) | ((with_reducible refine iff2_of ?_ ?_); exact decide_eq_false (by omega)))
    obtain ⟨x, hx, e, _⟩ := atI_of r0 r1
    exact w_idxL e ⟨by assumption, hx⟩
  · repeat (first | (with_reducible first | refine w_seq ?_ | refine w_asg ?_ | refine w_asgP ?_ | refine pr_i ?_ | refine w_eqI ?_ | refine w_neI ?_ | refine w_own ?_ | refine w_par ?_ | refine w_parO ?_ | refine w_expr ?_ | refine w_if ?_ | refine w_sret ?_ | refine w_nil ?_ | refine w_for ?_ | refine w_bin ?_ | refine w_un ?_ | refine w_tup ?_ | refine w_lst ?_ | refine w_call ?_ | refine w_and ?_ | refine w_or ?_ | refine w_ife ?_ | refine w_chain ?_ | refine w_slice ?_ | refine w_oN ?_ | refine w_oS ?_ | refine w_comp ?_ | refine w_itSeq ?_ | refine w_itR ?_ | refine w_evnil ?_ | refine w_evcons ?_ | refine w_evc1 ?_ | refine w_evc0 ?_ | refine w_c ?_ | refine nx_nx ?_ | refine nx_ret ?_ | refine bl_i ?_ | refine in_i ?_ | refine sq_t ?_ | refine sq_l ?_ | refine ls_l ?_ | refine tp_t ?_ | refine w_not ?_ | refine w_addI ?_ | refine w_sub ?_ | refine w_xor ?_ | refine w_ltI ?_ | refine w_leI ?_ | refine w_gtI ?_ | refine w_geI ?_ | refine w_slT ?_ | refine w_slL ?_ | refine w_lenT ?_ | refine w_lenL ?_ | refine w_lenS ?_ | refine w_tupL ?_ | refine w_tupT ?_ | refine w_lstL ?_ | refine w_lstT ?_ | refine w_neg ?_ | refine w_isn ?_ | refine w_isnn ?_ | refine w_begun ?_ | refine w_ret ?_ | refine w_resE ?_) | (with_reducible refine w_var (by with_unfolding_all rfl) ?_) | (with_reducible refine w_peekV (by with_unfolding_all rfl) ?_) | (with_reducible refine w_peekO (by with_unfolding_all rfl) ?_) | (with_reducible refine w_app (by with_unfolding_all rfl) ?_) | (with_reducible refine w_frz (by with_unfolding_all rfl) ?_) | (with_reducible refine w_scr (by with_unfolding_all rfl) ?_) | (with_reducible refine w_tc (by with_unfolding_all rfl) ?_) | (with_reducible refine w_stc (by with_unfolding_all rfl) ?_) | (with_reducible refine w_tr (by with_unfolding_all rfl) ?_) | (with_reducible refine w_str (by with_unfolding_all rfl) ?_) | (with_reducible refine w_idxT (by with_unfolding_all rfl) ?_) | (with_reducible refine w_idxL (by with_unfolding_all rfl) ?_) | (with_reducible refine w_isi (by with_unfolding_all rfl) ?_) | ((with_reducible first | refine w_addT ?_ ?_ | refine w_addL ?_ ?_ | refine w_mulI ?_ ?_ | refine w_mulT ?_ ?_ | refine w_mulL ?_ ?_ | refine w_mod ?_ ?_ | refine w_div ?_ ?_ | refine w_pow ?_ ?_ | refine w_rng ?_ ?_); (first | decide | omega | (refine ⟨?_, ?_⟩ <;> omega) | (refine ⟨?_, ?_, ?_⟩ <;> omega) | (simp only [List.length_cons, List.length_nil, List.length_append, List.length_reverse, BL.cD_len, BL.iD_len, BL.mkx_len, BL.sizeL]; omega) | (refine ⟨List.cons_ne_nil _ _, ?_⟩; simp only [List.length_cons, List.length_nil]; omega))) | ((with_reducible first | refine w_eqD ?_ ?_ ?_ | refine w_neD ?_ ?_ ?_ | refine w_inT ?_ ?_ ?_ | refine w_inL ?_ ?_ ?_); (first | rfl | with_unfolding_all rfl); (first | rfl | with_unfolding_all rfl)) | ((with_reducible refine ift_of ?_ ?_); (with_unfolding_all rfl)) | ((with_reducible refine iff_of ?_ ?_); (with_unfolding_all rfl)) | ((with_reducible refine ift2_of ?_ ?_); (with_unfolding_all rfl)) | ((with_reducible refine iff2_of ?_ ?_); (with_unfolding_all rfl)) | ((with_reducible refine ift_of ?_ ?_); exact decide_eq_true (by omega)) | ((with_reducible refine iff_of ?_ ?_); exact decide_eq_false (by omega)) | ((with_reducible refine ift2_of ?_ ?_); exact decide_eq_true (by omega)) | ((with_reducible refine iff2_of ?_ ?_); exact decide_eq_false (by omega)))
    refine hQ _ _ ?_ ?_ ht2
    · rw [← he]; unfold rng; rw [List.length_map, List.length_range]; omega
    · intro g hg
      obtain ⟨i, hi, e⟩ := List.mem_iff_getElem.mp hg
      have hi' : i < (rng r.toNat).length := by rw [he]; exact hi
      exact hR i _ g (List.getElem?_eq_getElem hi') (by rw [← e]; exact List.getElem?_eq_getElem hi)
theorem w_circuitI {ns : List Int} {ks : List D} {m : Int} {t : Tn} {Q : D → Tn → Prop} (hl : ns.length ≤ 63) (ht : TOk t) (h0 : 0 ≤ m) (hm : m ≤ 1000) (hk : okA ks 60 = true) (hne : gtsK ks ≠ []) (hQ : ∀ cs t', cs.length ≤ m.toNat → (∀ g ∈ cs, g ∈ gtsK ks) → TOk t' → Q (.tup cs) t') :
    W (f_law_circuit [.scr ns, .town, .tup ks, .int m] t) Q := by
  have e : m = (m.toNat : Int) := (Int.toNat_of_nonneg h0).symm
  rw [e]
  exact w_circuit hl ht (by omega) hk hne hQ
def iD (ws : List Nat) : List D := ws.map fun (w : Nat) => D.int (w : Int)
theorem iD_len (ws : List Nat) : (iD ws).length = ws.length := List.length_map _
theorem sIx_le {n d k : Nat} (h : k ≤ n) : HT.sIx n d (some (k : Int)) = k := by rw [HT.sIx_nat]; omega
theorem cutD_take {ds : List D} {k : Nat} (h : k ≤ ds.length) : cutD ds none (some (k : Int)) = ds.take k := by
  unfold cutD
  rw [sIx_le h]
  show (ds.drop 0).take (k - 0) = _
  rw [List.drop_zero, Nat.sub_zero]
theorem cutD_drop {ds : List D} {k : Nat} (h : k ≤ ds.length) : cutD ds (some (k : Int)) none = ds.drop k := by
  unfold cutD
  rw [sIx_le h]
  show (ds.drop k).take (ds.length - k) = _
  rw [List.take_of_length_le]
  rw [List.length_drop]; exact Nat.le_refl _
end BL
set_option Elab.async false
set_option linter.all false
set_option maxRecDepth 100000
set_option maxHeartbeats 4000000
namespace BL
open PySem BG L2
theorem bools_map {α : Type} (f : α → Bool) : ∀ l : List α, bools (l.map fun x => D.bl (f x)) = some (l.map f)
  | [] => rfl
  | x :: l => by
    show (bools (l.map fun x => D.bl (f x))).map (f x :: ·) = _
    rw [bools_map f l]; rfl
theorem filter_true {α : Type} (l : List α) : l.filter (fun _ => true) = l := List.filter_eq_self.mpr fun _ _ => rfl
theorem all_map {α : Type} (f : α → Bool) (l : List α) : (l.map f).all id = l.all f := by rw [List.all_map]; rfl
theorem is_circuit_eq {ds : List D} (isg : D → Bool) (hl : ds.length ≤ sizeLine) (h : ds.length ≤ 20 → ∀ d ∈ ds, f_is_gate [d] = ret (.bl (isg d))) : f_is_circuit [.tup ds] = ret (.bl (decide ((ds.length : Int) ≤ 20) && ds.all isg)) := by
  refine eq_of_W fun t => w_fn ?_
  show W (b_is_circuit [.val (.tup ds), .un] t) _
  unfold b_is_circuit c_LONGEST
  repeat (first | (with_reducible first | refine w_seq ?_ | refine w_asg ?_ | refine w_asgP ?_ | refine pr_i ?_ | refine w_eqI ?_ | refine w_neI ?_ | refine w_own ?_ | refine w_par ?_ | refine w_parO ?_ | refine w_expr ?_ | refine w_if ?_ | refine w_sret ?_ | refine w_nil ?_ | refine w_for ?_ | refine w_bin ?_ | refine w_un ?_ | refine w_tup ?_ | refine w_lst ?_ | refine w_call ?_ | refine w_and ?_ | refine w_or ?_ | refine w_ife ?_ | refine w_chain ?_ | refine w_slice ?_ | refine w_oN ?_ | refine w_oS ?_ | refine w_comp ?_ | refine w_itSeq ?_ | refine w_itR ?_ | refine w_evnil ?_ | refine w_evcons ?_ | refine w_evc1 ?_ | refine w_evc0 ?_ | refine w_c ?_ | refine nx_nx ?_ | refine nx_ret ?_ | refine bl_i ?_ | refine in_i ?_ | refine sq_t ?_ | refine sq_l ?_ | refine ls_l ?_ | refine tp_t ?_ | refine w_not ?_ | refine w_addI ?_ | refine w_sub ?_ | refine w_xor ?_ | refine w_ltI ?_ | refine w_leI ?_ | refine w_gtI ?_ | refine w_geI ?_ | refine w_slT ?_ | refine w_slL ?_ | refine w_lenT ?_ | refine w_lenL ?_ | refine w_lenS ?_ | refine w_tupL ?_ | refine w_tupT ?_ | refine w_lstL ?_ | refine w_lstT ?_ | refine w_neg ?_ | refine w_isn ?_ | refine w_isnn ?_ | refine w_begun ?_ | refine w_ret ?_ | refine w_resE ?_) | (with_reducible refine w_var (by with_unfolding_all rfl) ?_) | (with_reducible refine w_peekV (by with_unfolding_all rfl) ?_) | (with_reducible refine w_peekO (by with_unfolding_all rfl) ?_) | (with_reducible refine w_app (by with_unfolding_all rfl) ?_) | (with_reducible refine w_frz (by with_unfolding_all rfl) ?_) | (with_reducible refine w_scr (by with_unfolding_all rfl) ?_) | (with_reducible refine w_tc (by with_unfolding_all rfl) ?_) | (with_reducible refine w_stc (by with_unfolding_all rfl) ?_) | (with_reducible refine w_tr (by with_unfolding_all rfl) ?_) | (with_reducible refine w_str (by with_unfolding_all rfl) ?_) | (with_reducible refine w_idxT (by with_unfolding_all rfl) ?_) | (with_reducible refine w_idxL (by with_unfolding_all rfl) ?_) | (with_reducible refine w_isi (by with_unfolding_all rfl) ?_) | ((with_reducible first | refine w_addT ?_ ?_ | refine w_addL ?_ ?_ | refine w_mulI ?_ ?_ | refine w_mulT ?_ ?_ | refine w_mulL ?_ ?_ | refine w_mod ?_ ?_ | refine w_div ?_ ?_ | refine w_pow ?_ ?_ | refine w_rng ?_ ?_); (first | decide | omega | (refine ⟨?_, ?_⟩ <;> omega) | (refine ⟨?_, ?_, ?_⟩ <;> omega) | (simp only [List.length_cons, List.length_nil, List.length_append, List.length_reverse, BL.cD_len, BL.iD_len, BL.mkx_len, BL.sizeL]; omega) | (refine ⟨List.cons_ne_nil _ _, ?_⟩; simp only [List.length_cons, List.length_nil]; omega))) | ((with_reducible first | refine w_eqD ?_ ?_ ?_ | refine w_neD ?_ ?_ ?_ | refine w_inT ?_ ?_ ?_ | refine w_inL ?_ ?_ ?_); (first | rfl | with_unfolding_all rfl); (first | rfl | with_unfolding_all rfl)) | ((with_reducible refine ift_of ?_ ?_); (with_unfolding_all rfl)) | ((with_reducible refine iff_of ?_ ?_); (with_unfolding_all rfl)) | ((with_reducible refine ift2_of ?_ ?_); (with_unfolding_all rfl)) | ((with_reducible refine iff2_of ?_ ?_); (with_unfolding_all rfl)) | ((with_reducible refine ift_of ?_ ?_); exact decide_eq_true (by omega)) | ((with_reducible refine iff_of ?_ ?_); exact decide_eq_false (by omega)) | ((with_reducible refine ift2_of ?_ ?_); exact decide_eq_true (by omega)) | ((with_reducible refine iff2_of ?_ ?_); exact decide_eq_false (by omega)))
  refine ⟨fun h1 => ?_, fun h1 => ?_⟩
  · have h1' : ds.length ≤ 20 := by have := of_decide_eq_true h1; omega
    repeat (first | (with_reducible first | refine w_seq ?_ | refine w_asg ?_ | refine w_asgP ?_ | refine pr_i ?_ | refine w_eqI ?_ | refine w_neI ?_ | refine w_own ?_ | refine w_par ?_ | refine w_parO ?_ | refine w_expr ?_ | refine w_if ?_ | refine w_sret ?_ | refine w_nil ?_ | refine w_for ?_ | refine w_bin ?_ | refine w_un ?_ | refine w_tup ?_ | refine w_lst ?_ | refine w_call ?_ | refine w_and ?_ | refine w_or ?_ | refine w_ife ?_ | refine w_chain ?_ | refine w_slice ?_ | refine w_oN ?_ | refine w_oS ?_ | refine w_comp ?_ | refine w_itSeq ?_ | refine w_itR ?_ | refine w_evnil ?_ | refine w_evcons ?_ | refine w_evc1 ?_ | refine w_evc0 ?_ | refine w_c ?_ | refine nx_nx ?_ | refine nx_ret ?_ | refine bl_i ?_ | refine in_i ?_ | refine sq_t ?_ | refine sq_l ?_ | refine ls_l ?_ | refine tp_t ?_ | refine w_not ?_ | refine w_addI ?_ | refine w_sub ?_ | refine w_xor ?_ | refine w_ltI ?_ | refine w_leI ?_ | refine w_gtI ?_ | refine w_geI ?_ | refine w_slT ?_ | refine w_slL ?_ | refine w_lenT ?_ | refine w_lenL ?_ | refine w_lenS ?_ | refine w_tupL ?_ | refine w_tupT ?_ | refine w_lstL ?_ | refine w_lstT ?_ | refine w_neg ?_ | refine w_isn ?_ | refine w_isnn ?_ | refine w_begun ?_ | refine w_ret ?_ | refine w_resE ?_) | (with_reducible refine w_var (by with_unfolding_all rfl) ?_) | (with_reducible refine w_peekV (by with_unfolding_all rfl) ?_) | (with_reducible refine w_peekO (by with_unfolding_all rfl) ?_) | (with_reducible refine w_app (by with_unfolding_all rfl) ?_) | (with_reducible refine w_frz (by with_unfolding_all rfl) ?_) | (with_reducible refine w_scr (by with_unfolding_all rfl) ?_) | (with_reducible refine w_tc (by with_unfolding_all rfl) ?_) | (with_reducible refine w_stc (by with_unfolding_all rfl) ?_) | (with_reducible refine w_tr (by with_unfolding_all rfl) ?_) | (with_reducible refine w_str (by with_unfolding_all rfl) ?_) | (with_reducible refine w_idxT (by with_unfolding_all rfl) ?_) | (with_reducible refine w_idxL (by with_unfolding_all rfl) ?_) | (with_reducible refine w_isi (by with_unfolding_all rfl) ?_) | ((with_reducible first | refine w_addT ?_ ?_ | refine w_addL ?_ ?_ | refine w_mulI ?_ ?_ | refine w_mulT ?_ ?_ | refine w_mulL ?_ ?_ | refine w_mod ?_ ?_ | refine w_div ?_ ?_ | refine w_pow ?_ ?_ | refine w_rng ?_ ?_); (first | decide | omega | (refine ⟨?_, ?_⟩ <;> omega) | (refine ⟨?_, ?_, ?_⟩ <;> omega) | (simp only [List.length_cons, List.length_nil, List.length_append, List.length_reverse, BL.cD_len, BL.iD_len, BL.mkx_len, BL.sizeL]; omega) | (refine ⟨List.cons_ne_nil _ _, ?_⟩; simp only [List.length_cons, List.length_nil]; omega))) | ((with_reducible first | refine w_eqD ?_ ?_ ?_ | refine w_neD ?_ ?_ ?_ | refine w_inT ?_ ?_ ?_ | refine w_inL ?_ ?_ ?_); (first | rfl | with_unfolding_all rfl); (first | rfl | with_unfolding_all rfl)) | ((with_reducible refine ift_of ?_ ?_); (with_unfolding_all rfl)) | ((with_reducible refine iff_of ?_ ?_); (with_unfolding_all rfl)) | ((with_reducible refine ift2_of ?_ ?_); (with_unfolding_all rfl)) | ((with_reducible refine iff2_of ?_ ?_); (with_unfolding_all rfl)) | ((with_reducible refine ift_of ?_ ?_); exact decide_eq_true (by omega)) | ((with_reducible refine iff_of ?_ ?_); exact decide_eq_false (by omega)) | ((with_reducible refine ift2_of ?_ ?_); exact decide_eq_true (by omega)) | ((with_reducible refine iff2_of ?_ ?_); exact decide_eq_false (by omega)))
    refine ⟨hl, w_cmpP (fun _ => true) (fun d => .bl (isg d)) (fun d hd => ⟨_, rfl, rfl, fun _ => ?_⟩) ?_⟩
    · refine eq_of_W fun t => ?_
      repeat (first | (with_reducible refine w_eq (h h1' d hd) ?_) | (with_reducible first | refine w_seq ?_ | refine w_asg ?_ | refine w_asgP ?_ | refine pr_i ?_ | refine w_eqI ?_ | refine w_neI ?_ | refine w_own ?_ | refine w_par ?_ | refine w_parO ?_ | refine w_expr ?_ | refine w_if ?_ | refine w_sret ?_ | refine w_nil ?_ | refine w_for ?_ | refine w_bin ?_ | refine w_un ?_ | refine w_tup ?_ | refine w_lst ?_ | refine w_call ?_ | refine w_and ?_ | refine w_or ?_ | refine w_ife ?_ | refine w_chain ?_ | refine w_slice ?_ | refine w_oN ?_ | refine w_oS ?_ | refine w_comp ?_ | refine w_itSeq ?_ | refine w_itR ?_ | refine w_evnil ?_ | refine w_evcons ?_ | refine w_evc1 ?_ | refine w_evc0 ?_ | refine w_c ?_ | refine nx_nx ?_ | refine nx_ret ?_ | refine bl_i ?_ | refine in_i ?_ | refine sq_t ?_ | refine sq_l ?_ | refine ls_l ?_ | refine tp_t ?_ | refine w_not ?_ | refine w_addI ?_ | refine w_sub ?_ | refine w_xor ?_ | refine w_ltI ?_ | refine w_leI ?_ | refine w_gtI ?_ | refine w_geI ?_ | refine w_slT ?_ | refine w_slL ?_ | refine w_lenT ?_ | refine w_lenL ?_ | refine w_lenS ?_ | refine w_tupL ?_ | refine w_tupT ?_ | refine w_lstL ?_ | refine w_lstT ?_ | refine w_neg ?_ | refine w_isn ?_ | refine w_isnn ?_ | refine w_begun ?_ | refine w_ret ?_ | refine w_resE ?_) | (with_reducible refine w_var (by with_unfolding_all rfl) ?_) | (with_reducible refine w_peekV (by with_unfolding_all rfl) ?_) | (with_reducible refine w_peekO (by with_unfolding_all rfl) ?_) | (with_reducible refine w_app (by with_unfolding_all rfl) ?_) | (with_reducible refine w_frz (by with_unfolding_all rfl) ?_) | (with_reducible refine w_scr (by with_unfolding_all rfl) ?_) | (with_reducible refine w_tc (by with_unfolding_all rfl) ?_) | (with_reducible refine w_stc (by with_unfolding_all rfl) ?_) | (with_reducible refine w_tr (by with_unfolding_all rfl) ?_) | (with_reducible refine w_str (by with_unfolding_all rfl) ?_) | (with_reducible refine w_idxT (by with_unfolding_all rfl) ?_) | (with_reducible refine w_idxL (by with_unfolding_all rfl) ?_) | (with_reducible refine w_isi (by with_unfolding_all rfl) ?_) | ((with_reducible first | refine w_addT ?_ ?_ | refine w_addL ?_ ?_ | refine w_mulI ?_ ?_ | refine w_mulT ?_ ?_ | refine w_mulL ?_ ?_ | refine w_mod ?_ ?_ | refine w_div ?_ ?_ | refine w_pow ?_ ?_ | refine w_rng ?_ ?_); (first | decide | omega | (refine ⟨?_, ?_⟩ <;> omega) | (refine ⟨?_, ?_, ?_⟩ <;> omega) | (simp only [List.length_cons, List.length_nil, List.length_append, List.length_reverse, BL.cD_len, BL.iD_len, BL.mkx_len, BL.sizeL]; omega) | (refine ⟨List.cons_ne_nil _ _, ?_⟩; simp only [List.length_cons, List.length_nil]; omega))) | ((with_reducible first | refine w_eqD ?_ ?_ ?_ | refine w_neD ?_ ?_ ?_ | refine w_inT ?_ ?_ ?_ | refine w_inL ?_ ?_ ?_); (first | rfl | with_unfolding_all rfl); (first | rfl | with_unfolding_all rfl)) | ((with_reducible refine ift_of ?_ ?_); (with_unfolding_all rfl)) | ((with_reducible refine iff_of ?_ ?_); (with_unfolding_all rfl)) | ((with_reducible refine ift2_of ?_ ?_); (with_unfolding_all rfl)) | ((with_reducible refine iff2_of ?_ ?_); (with_unfolding_all rfl)) | ((with_reducible refine ift_of ?_ ?_); exact decide_eq_true (by omega)) | ((with_reducible refine iff_of ?_ ?_); exact decide_eq_false (by omega)) | ((with_reducible refine ift2_of ?_ ?_); exact decide_eq_true (by omega)) | ((with_reducible refine iff2_of ?_ ?_); exact decide_eq_false (by omega)))
      exact ⟨rfl, rfl⟩
    · rw [filter_true]
      refine w_allL (bools_map isg ds) ?_
      repeat (first | (with_reducible first | refine w_seq ?_ | refine w_asg ?_ | refine w_asgP ?_ | refine pr_i ?_ | refine w_eqI ?_ | refine w_neI ?_ | refine w_own ?_ | refine w_par ?_ | refine w_parO ?_ | refine w_expr ?_ | refine w_if ?_ | refine w_sret ?_ | refine w_nil ?_ | refine w_for ?_ | refine w_bin ?_ | refine w_un ?_ | refine w_tup ?_ | refine w_lst ?_ | refine w_call ?_ | refine w_and ?_ | refine w_or ?_ | refine w_ife ?_ | refine w_chain ?_ | refine w_slice ?_ | refine w_oN ?_ | refine w_oS ?_ | refine w_comp ?_ | refine w_itSeq ?_ | refine w_itR ?_ | refine w_evnil ?_ | refine w_evcons ?_ | refine w_evc1 ?_ | refine w_evc0 ?_ | refine w_c ?_ | refine nx_nx ?_ | refine nx_ret ?_ | refine bl_i ?_ | refine in_i ?_ | refine sq_t ?_ | refine sq_l ?_ | refine ls_l ?_ | refine tp_t ?_ | refine w_not ?_ | refine w_addI ?_ | refine w_sub ?_ | refine w_xor ?_ | refine w_ltI ?_ | refine w_leI ?_ | refine w_gtI ?_ | refine w_geI ?_ | refine w_slT ?_ | refine w_slL ?_ | refine w_lenT ?_ | refine w_lenL ?_ | refine w_lenS ?_ | refine w_tupL ?_ | refine w_tupT ?_ | refine w_lstL ?_ | refine w_lstT ?_ | refine w_neg ?_ | refine w_isn ?_ | refine w_isnn ?_ | refine w_begun ?_ | refine w_ret ?_ | refine w_resE ?_) | (with_reducible refine w_var (by with_unfolding_all rfl) ?_) | (with_reducible refine w_peekV (by with_unfolding_all rfl) ?_) | (with_reducible refine w_peekO (by with_unfolding_all rfl) ?_) | (with_reducible refine w_app (by with_unfolding_all rfl) ?_) | (with_reducible refine w_frz (by with_unfolding_all rfl) ?_) | (with_reducible refine w_scr (by with_unfolding_all rfl) ?_) | (with_reducible refine w_tc (by with_unfolding_all rfl) ?_) | (with_reducible refine w_stc (by with_unfolding_all rfl) ?_) | (with_reducible refine w_tr (by with_unfolding_all rfl) ?_) | (with_reducible refine w_str (by with_unfolding_all rfl) ?_) | (with_reducible refine w_idxT (by with_unfolding_all rfl) ?_) | (with_reducible refine w_idxL (by with_unfolding_all rfl) ?_) | (with_reducible refine w_isi (by with_unfolding_all rfl) ?_) | ((with_reducible first | refine w_addT ?_ ?_ | refine w_addL ?_ ?_ | refine w_mulI ?_ ?_ | refine w_mulT ?_ ?_ | refine w_mulL ?_ ?_ | refine w_mod ?_ ?_ | refine w_div ?_ ?_ | refine w_pow ?_ ?_ | refine w_rng ?_ ?_); (first | decide | omega | (refine ⟨?_, ?_⟩ <;> omega) | (refine ⟨?_, ?_, ?_⟩ <;> omega) | (simp only [List.length_cons, List.length_nil, List.length_append, List.length_reverse, BL.cD_len, BL.iD_len, BL.mkx_len, BL.sizeL]; omega) | (refine ⟨List.cons_ne_nil _ _, ?_⟩; simp only [List.length_cons, List.length_nil]; omega))) | ((with_reducible first | refine w_eqD ?_ ?_ ?_ | refine w_neD ?_ ?_ ?_ | refine w_inT ?_ ?_ ?_ | refine w_inL ?_ ?_ ?_); (first | rfl | with_unfolding_all rfl); (first | rfl | with_unfolding_all rfl)) | ((with_reducible refine ift_of ?_ ?_); (with_unfolding_all rfl)) | ((with_reducible refine iff_of ?_ ?_); (with_unfolding_all rfl)) | ((with_reducible refine ift2_of ?_ ?_); (with_unfolding_all rfl)) | ((with_reducible refine iff2_of ?_ ?_); (with_unfolding_all rfl)) | ((with_reducible refine ift_of ?_ ?_); exact decide_eq_true (by omega)) | ((with_reducible refine iff_of ?_ ?_); exact decide_eq_false (by omega)) | ((with_reducible refine ift2_of ?_ ?_); exact decide_eq_true (by omega)) | ((with_reducible refine iff2_of ?_ ?_); exact decide_eq_false (by omega)))
      rw [h1, all_map]; exact ⟨rfl, rfl⟩
  · repeat (first | (with_reducible first | refine w_seq ?_ | refine w_asg ?_ | refine w_asgP ?_ | refine pr_i ?_ | refine w_eqI ?_ | refine w_neI ?_ | refine w_own ?_ | refine w_par ?_ | refine w_parO ?_ | refine w_expr ?_ | refine w_if ?_ | refine w_sret ?_ | refine w_nil ?_ | refine w_for ?_ | refine w_bin ?_ | refine w_un ?_ | refine w_tup ?_ | refine w_lst ?_ | refine w_call ?_ | refine w_and ?_ | refine w_or ?_ | refine w_ife ?_ | refine w_chain ?_ | refine w_slice ?_ | refine w_oN ?_ | refine w_oS ?_ | refine w_comp ?_ | refine w_itSeq ?_ | refine w_itR ?_ | refine w_evnil ?_ | refine w_evcons ?_ | refine w_evc1 ?_ | refine w_evc0 ?_ | refine w_c ?_ | refine nx_nx ?_ | refine nx_ret ?_ | refine bl_i ?_ | refine in_i ?_ | refine sq_t ?_ | refine sq_l ?_ | refine ls_l ?_ | refine tp_t ?_ | refine w_not ?_ | refine w_addI ?_ | refine w_sub ?_ | refine w_xor ?_ | refine w_ltI ?_ | refine w_leI ?_ | refine w_gtI ?_ | refine w_geI ?_ | refine w_slT ?_ | refine w_slL ?_ | refine w_lenT ?_ | refine w_lenL ?_ | refine w_lenS ?_ | refine w_tupL ?_ | refine w_tupT ?_ | refine w_lstL ?_ | refine w_lstT ?_ | refine w_neg ?_ | refine w_isn ?_ | refine w_isnn ?_ | refine w_begun ?_ | refine w_ret ?_ | refine w_resE ?_) | (with_reducible refine w_var (by with_unfolding_all rfl) ?_) | (with_reducible refine w_peekV (by with_unfolding_all rfl) ?_) | (with_reducible refine w_peekO (by with_unfolding_all rfl) ?_) | (with_reducible refine w_app (by with_unfolding_all rfl) ?_) | (with_reducible refine w_frz (by with_unfolding_all rfl) ?_) | (with_reducible refine w_scr (by with_unfolding_all rfl) ?_) | (with_reducible refine w_tc (by with_unfolding_all rfl) ?_) | (with_reducible refine w_stc (by with_unfolding_all rfl) ?_) | (with_reducible refine w_tr (by with_unfolding_all rfl) ?_) | (with_reducible refine w_str (by with_unfolding_all rfl) ?_) | (with_reducible refine w_idxT (by with_unfolding_all rfl) ?_) | (with_reducible refine w_idxL (by with_unfolding_all rfl) ?_) | (with_reducible refine w_isi (by with_unfolding_all rfl) ?_) | ((with_reducible first | refine w_addT ?_ ?_ | refine w_addL ?_ ?_ | refine w_mulI ?_ ?_ | refine w_mulT ?_ ?_ | refine w_mulL ?_ ?_ | refine w_mod ?_ ?_ | refine w_div ?_ ?_ | refine w_pow ?_ ?_ | refine w_rng ?_ ?_); (first | decide | omega | (refine ⟨?_, ?_⟩ <;> omega) | (refine ⟨?_, ?_, ?_⟩ <;> omega) | (simp only [List.length_cons, List.length_nil, List.length_append, List.length_reverse, BL.cD_len, BL.iD_len, BL.mkx_len, BL.sizeL]; omega) | (refine ⟨List.cons_ne_nil _ _, ?_⟩; simp only [List.length_cons, List.length_nil]; omega))) | ((with_reducible first | refine w_eqD ?_ ?_ ?_ | refine w_neD ?_ ?_ ?_ | refine w_inT ?_ ?_ ?_ | refine w_inL ?_ ?_ ?_); (first | rfl | with_unfolding_all rfl); (first | rfl | with_unfolding_all rfl)) | ((with_reducible refine ift_of ?_ ?_); (with_unfolding_all rfl)) | ((with_reducible refine iff_of ?_ ?_); (with_unfolding_all rfl)) | ((with_reducible refine ift2_of ?_ ?_); (with_unfolding_all rfl)) | ((with_reducible refine iff2_of ?_ ?_); (with_unfolding_all rfl)) | ((with_reducible refine ift_of ?_ ?_); exact decide_eq_true (by omega)) | ((with_reducible refine iff_of ?_ ?_); exact decide_eq_false (by omega)) | ((with_reducible refine ift2_of ?_ ?_); exact decide_eq_true (by omega)) | ((with_reducible refine iff2_of ?_ ?_); exact decide_eq_false (by omega)))
    rw [h1]; exact ⟨rfl, rfl⟩
theorem is_circuit_no {d : D} (h : isTy .tuple d = some false) : f_is_circuit [d] = ret (.bl false) := by
  refine eq_of_W fun t => w_fn ?_
  show W (b_is_circuit [.val d, .un] t) _
  unfold b_is_circuit
  repeat (first | (with_reducible refine w_isi h ?_) | (with_reducible first | refine w_seq ?_ | refine w_asg ?_ | refine w_asgP ?_ | refine pr_i ?_ | refine w_eqI ?_ | refine w_neI ?_ | refine w_own ?_ | refine w_par ?_ | refine w_parO ?_ | refine w_expr ?_ | refine w_if ?_ | refine w_sret ?_ | refine w_nil ?_ | refine w_for ?_ | refine w_bin ?_ | refine w_un ?_ | refine w_tup ?_ | refine w_lst ?_ | refine w_call ?_ | refine w_and ?_ | refine w_or ?_ | refine w_ife ?_ | refine w_chain ?_ | refine w_slice ?_ | refine w_oN ?_ | refine w_oS ?_ | refine w_comp ?_ | refine w_itSeq ?_ | refine w_itR ?_ | refine w_evnil ?_ | refine w_evcons ?_ | refine w_evc1 ?_ | refine w_evc0 ?_ | refine w_c ?_ | refine nx_nx ?_ | refine nx_ret ?_ | refine bl_i ?_ | refine in_i ?_ | refine sq_t ?_ | refine sq_l ?_ | refine ls_l ?_ | refine tp_t ?_ | refine w_not ?_ | refine w_addI ?_ | refine w_sub ?_ | refine w_xor ?_ | refine w_ltI ?_ | refine w_leI ?_ | refine w_gtI ?_ | refine w_geI ?_ | refine w_slT ?_ | refine w_slL ?_ | refine w_lenT ?_ | refine w_lenL ?_ | refine w_lenS ?_ | refine w_tupL ?_ | refine w_tupT ?_ | refine w_lstL ?_ | refine w_lstT ?_ | refine w_neg ?_ | refine w_isn ?_ | refine w_isnn ?_ | refine w_begun ?_ | refine w_ret ?_ | refine w_resE ?_) | (with_reducible refine w_var (by with_unfolding_all rfl) ?_) | (with_reducible refine w_peekV (by with_unfolding_all rfl) ?_) | (with_reducible refine w_peekO (by with_unfolding_all rfl) ?_) | (with_reducible refine w_app (by with_unfolding_all rfl) ?_) | (with_reducible refine w_frz (by with_unfolding_all rfl) ?_) | (with_reducible refine w_scr (by with_unfolding_all rfl) ?_) | (with_reducible refine w_tc (by with_unfolding_all rfl) ?_) | (with_reducible refine w_stc (by with_unfolding_all rfl) ?_) | (with_reducible refine w_tr (by with_unfolding_all rfl) ?_) | (with_reducible refine w_str (by with_unfolding_all rfl) ?_) | (with_reducible refine w_idxT (by with_unfolding_all rfl) ?_) | (with_reducible refine w_idxL (by with_unfolding_all rfl) ?_) | (with_reducible refine w_isi (by with_unfolding_all rfl) ?_) | ((with_reducible first | refine w_addT ?_ ?_ | refine w_addL ?_ ?_ | refine w_mulI ?_ ?_ | refine w_mulT ?_ ?_ | refine w_mulL ?_ ?_ | refine w_mod ?_ ?_ | refine w_div ?_ ?_ | refine w_pow ?_ ?_ | refine w_rng ?_ ?_); (first | decide | omega | (refine ⟨?_, ?_⟩ <;> omega) | (refine ⟨?_, ?_, ?_⟩ <;> omega) | (simp only [List.length_cons, List.length_nil, List.length_append, List.length_reverse, BL.cD_len, BL.iD_len, BL.mkx_len, BL.sizeL]; omega) | (refine ⟨List.cons_ne_nil _ _, ?_⟩; simp only [List.length_cons, List.length_nil]; omega))) | ((with_reducible first | refine w_eqD ?_ ?_ ?_ | refine w_neD ?_ ?_ ?_ | refine w_inT ?_ ?_ ?_ | refine w_inL ?_ ?_ ?_); (first | rfl | with_unfolding_all rfl); (first | rfl | with_unfolding_all rfl)) | ((with_reducible refine ift_of ?_ ?_); (with_unfolding_all rfl)) | ((with_reducible refine iff_of ?_ ?_); (with_unfolding_all rfl)) | ((with_reducible refine ift2_of ?_ ?_); (with_unfolding_all rfl)) | ((with_reducible refine iff2_of ?_ ?_); (with_unfolding_all rfl)) | ((with_reducible refine ift_of ?_ ?_); exact decide_eq_true (by omega)) | ((with_reducible refine iff_of ?_ ?_); exact decide_eq_false (by omega)) | ((with_reducible refine ift2_of ?_ ?_); exact decide_eq_true (by omega)) | ((with_reducible refine iff2_of ?_ ?_); exact decide_eq_false (by omega)))
  exact ⟨rfl, rfl⟩
/-- a circuit -/
def IsC (cs : List D) : Prop := cs.length ≤ 20 ∧ ∀ g ∈ cs, g ∈ gts
theorem sizeL : sizeLine = 16777216 := rfl
theorem is_circuit_yes {cs : List D} (h : IsC cs) : f_is_circuit [.tup cs] = ret (.bl true) := by
  rw [is_circuit_eq (fun _ => true) (by have := h.1; have := sizeL; omega) fun _ d hd => is_gate_eq d (h.2 d hd)]
  have h1 : decide ((cs.length : Int) ≤ 20) = true := decide_eq_true (by have := h.1; omega)
  rw [h1, List.all_eq_true.mpr fun _ _ => rfl]; rfl
theorem eqvI (i j : Int) : PyData.eqv (D.int i).py (D.int j).py = decide (i = j) := by
  show (i == j) = decide (i = j)
  rw [Bool.eq_iff_iff, beq_iff_eq, decide_eq_true_iff]
theorem ddp_nodup : ∀ {l : List Int}, l.Nodup → ddp l = l
  | [], _ => rfl
  | x :: r, h => by
    rw [List.nodup_cons] at h
    unfold ddp
    rw [if_neg (by rw [List.contains_iff_mem]; exact h.1), ddp_nodup h.2]
/-- an exchange -/
def IsX (ws : List Nat) : Prop := ws.Perm (List.range 8)
theorem IsX.len {ws : List Nat} (h : IsX ws) : ws.length = 8 := by have := h.length_eq; rw [List.length_range] at this; exact this
theorem mem_iD {d : D} {ws : List Nat} (h : d ∈ iD ws) : ∃ w ∈ ws, d = .int (w : Int) := by
  obtain ⟨w, hw, rfl⟩ := List.mem_map.mp h; exact ⟨w, hw, rfl⟩
end BL
set_option Elab.async false
set_option linter.all false
set_option maxRecDepth 100000
set_option maxHeartbeats 4000000
namespace BL
open PySem BG L2
/-- gate number i -/
def gk (i : Nat) : D := gts.getD i .non
def apT : List (List Nat) := [[0, 1, 2, 7, 4, 5, 6, 3], [0, 1, 2, 3, 4, 7, 6, 5], [0, 1, 2, 3, 4, 5, 7, 6], [0, 3, 2, 1, 4, 7, 6, 5], [0, 5, 2, 7, 4, 1, 6, 3], [0, 1, 3, 2, 4, 5, 7, 6], [0, 1, 6, 7, 4, 5, 2, 3], [0, 1, 2, 3, 5, 4, 7, 6], [0, 1, 2, 3, 6, 7, 4, 5], [1, 0, 3, 2, 5, 4, 7, 6], [2, 3, 0, 1, 6, 7, 4, 5], [4, 5, 6, 7, 0, 1, 2, 3], [0, 1, 2, 5, 4, 3, 6, 7], [0, 1, 2, 6, 4, 5, 3, 7], [0, 1, 2, 3, 4, 6, 5, 7], [0, 2, 1, 3, 4, 6, 5, 7], [0, 4, 2, 6, 1, 5, 3, 7], [0, 1, 4, 5, 2, 3, 6, 7]]
def ap (i w : Nat) : Nat := (apT.getD i []).getD w 0
theorem ap_lt : ∀ i, i < 18 → ∀ w, w < 8 → ap i w < 8 := by decide +kernel
theorem gk_mem {i : Nat} (h : i < 18) : gk i ∈ gts := by
  have hl : i < gts.length := by rw [gts_len]; exact h
  unfold gk
  rw [List.getD_eq_getElem?_getD, List.getElem?_eq_getElem hl]
  exact List.getElem_mem hl
theorem gk_of {g : D} (h : g ∈ gts) : ∃ i, i < 18 ∧ g = gk i := by
  obtain ⟨i, hi, e⟩ := List.mem_iff_getElem.mp h
  refine ⟨i, by rw [gts_len] at hi; exact hi, ?_⟩
  unfold gk
  rw [List.getD_eq_getElem?_getD, List.getElem?_eq_getElem hi, e]; rfl
theorem applied_tab : (List.range 18).map (fun i => (List.range 8).map fun (w : Nat) => f_applied [gk i, .int (w : Int)]) = (List.range 18).map (fun i => (List.range 8).map fun (w : Nat) => ret (.int (ap i w : Int))) := by with_unfolding_all rfl
theorem applied_eq {i w : Nat} (hi : i < 18) (hw : w < 8) : f_applied [gk i, .int (w : Int)] = ret (.int (ap i w : Int)) :=
  map_eq_all (map_eq_all applied_tab i (List.mem_range.mpr hi)) w (List.mem_range.mpr hw)
abbrev Gs (c : List Nat) : Prop := ∀ i ∈ c, i < 18
def cD (c : List Nat) : List D := c.map gk
theorem cD_len (c : List Nat) : (cD c).length = c.length := List.length_map _
theorem cD_app (a b : List Nat) : cD (a ++ b) = cD a ++ cD b := List.map_append
theorem cD_rev (a : List Nat) : cD a.reverse = (cD a).reverse := List.map_reverse
theorem cD_of : ∀ {cs : List D}, (∀ g ∈ cs, g ∈ gts) → ∃ c, Gs c ∧ cs = cD c
  | [], _ => ⟨[], fun i h => (nomatch h), rfl⟩
  | g :: cs, h => by
    obtain ⟨i, hi, e⟩ := gk_of (h g (List.mem_cons_self ..))
    obtain ⟨c, hc, e2⟩ := cD_of fun g hg => h g (List.mem_cons_of_mem _ hg)
    refine ⟨i :: c, fun j hj => ?_, by rw [e, e2]; rfl⟩
    rcases List.mem_cons.mp hj with h | h
    · rw [h]; exact hi
    · exact hc j h
theorem cD_mem {c : List Nat} (h : Gs c) : ∀ g ∈ cD c, g ∈ gts := fun g hg => by
  obtain ⟨i, hi, rfl⟩ := List.mem_map.mp hg
  exact gk_mem (h i hi)
theorem IsC.of {c : List Nat} (h : Gs c) (hl : c.length ≤ 20) : IsC (cD c) := ⟨by rw [cD_len]; exact hl, cD_mem h⟩
theorem Gs.app {a b : List Nat} (ha : Gs a) (hb : Gs b) : Gs (a ++ b) := fun i hi => (List.mem_append.mp hi).elim (ha i) (hb i)
theorem Gs.rev {a : List Nat} (ha : Gs a) : Gs a.reverse := fun i hi => ha i (List.mem_reverse.mp hi)
theorem Gs.take {a : List Nat} (ha : Gs a) (n : Nat) : Gs (a.take n) := fun i hi => ha i (List.mem_of_mem_take hi)
theorem Gs.drop {a : List Nat} (ha : Gs a) (n : Nat) : Gs (a.drop n) := fun i hi => ha i (List.mem_of_mem_drop hi)
/-- what a circuit makes of a word -/
def mkw (c : List Nat) (w : Nat) : Nat := c.foldl (fun w i => ap i w) w
/-- the exchange that a circuit makes -/
def mkx (c : List Nat) : List Nat := (List.range 8).map (mkw c)
theorem mkx_len (c : List Nat) : (mkx c).length = 8 := by unfold mkx; rw [List.length_map, List.length_range]
theorem check_circuit_eq {c : List Nat} (hc : Gs c) (hl : c.length ≤ 20) : f_check_circuit [.tup (cD c)] = ret .non := by
  refine eq_of_W fun t => w_fn ?_
  show W (b_check_circuit [.val (.tup (cD c))] t) _
  unfold b_check_circuit
  repeat (first | (with_reducible refine w_eq (is_circuit_yes (IsC.of hc hl)) ?_) | (with_reducible first | refine w_seq ?_ | refine w_asg ?_ | refine w_asgP ?_ | refine pr_i ?_ | refine w_eqI ?_ | refine w_neI ?_ | refine w_own ?_ | refine w_par ?_ | refine w_parO ?_ | refine w_expr ?_ | refine w_if ?_ | refine w_sret ?_ | refine w_nil ?_ | refine w_for ?_ | refine w_bin ?_ | refine w_un ?_ | refine w_tup ?_ | refine w_lst ?_ | refine w_call ?_ | refine w_and ?_ | refine w_or ?_ | refine w_ife ?_ | refine w_chain ?_ | refine w_slice ?_ | refine w_oN ?_ | refine w_oS ?_ | refine w_comp ?_ | refine w_itSeq ?_ | refine w_itR ?_ | refine w_evnil ?_ | refine w_evcons ?_ | refine w_evc1 ?_ | refine w_evc0 ?_ | refine w_c ?_ | refine nx_nx ?_ | refine nx_ret ?_ | refine bl_i ?_ | refine in_i ?_ | refine sq_t ?_ | refine sq_l ?_ | refine ls_l ?_ | refine tp_t ?_ | refine w_not ?_ | refine w_addI ?_ | refine w_sub ?_ | refine w_xor ?_ | refine w_ltI ?_ | refine w_leI ?_ | refine w_gtI ?_ | refine w_geI ?_ | refine w_slT ?_ | refine w_slL ?_ | refine w_lenT ?_ | refine w_lenL ?_ | refine w_lenS ?_ | refine w_tupL ?_ | refine w_tupT ?_ | refine w_lstL ?_ | refine w_lstT ?_ | refine w_neg ?_ | refine w_isn ?_ | refine w_isnn ?_ | refine w_begun ?_ | refine w_ret ?_ | refine w_resE ?_) | (with_reducible refine w_var (by with_unfolding_all rfl) ?_) | (with_reducible refine w_peekV (by with_unfolding_all rfl) ?_) | (with_reducible refine w_peekO (by with_unfolding_all rfl) ?_) | (with_reducible refine w_app (by with_unfolding_all rfl) ?_) | (with_reducible refine w_frz (by with_unfolding_all rfl) ?_) | (with_reducible refine w_scr (by with_unfolding_all rfl) ?_) | (with_reducible refine w_tc (by with_unfolding_all rfl) ?_) | (with_reducible refine w_stc (by with_unfolding_all rfl) ?_) | (with_reducible refine w_tr (by with_unfolding_all rfl) ?_) | (with_reducible refine w_str (by with_unfolding_all rfl) ?_) | (with_reducible refine w_idxT (by with_unfolding_all rfl) ?_) | (with_reducible refine w_idxL (by with_unfolding_all rfl) ?_) | (with_reducible refine w_isi (by with_unfolding_all rfl) ?_) | ((with_reducible first | refine w_addT ?_ ?_ | refine w_addL ?_ ?_ | refine w_mulI ?_ ?_ | refine w_mulT ?_ ?_ | refine w_mulL ?_ ?_ | refine w_mod ?_ ?_ | refine w_div ?_ ?_ | refine w_pow ?_ ?_ | refine w_rng ?_ ?_); (first | decide | omega | (refine ⟨?_, ?_⟩ <;> omega) | (refine ⟨?_, ?_, ?_⟩ <;> omega) | (simp only [List.length_cons, List.length_nil, List.length_append, List.length_reverse, BL.cD_len, BL.iD_len, BL.mkx_len, BL.sizeL]; omega) | (refine ⟨List.cons_ne_nil _ _, ?_⟩; simp only [List.length_cons, List.length_nil]; omega))) | ((with_reducible first | refine w_eqD ?_ ?_ ?_ | refine w_neD ?_ ?_ ?_ | refine w_inT ?_ ?_ ?_ | refine w_inL ?_ ?_ ?_); (first | rfl | with_unfolding_all rfl); (first | rfl | with_unfolding_all rfl)) | ((with_reducible refine ift_of ?_ ?_); (with_unfolding_all rfl)) | ((with_reducible refine iff_of ?_ ?_); (with_unfolding_all rfl)) | ((with_reducible refine ift2_of ?_ ?_); (with_unfolding_all rfl)) | ((with_reducible refine iff2_of ?_ ?_); (with_unfolding_all rfl)) | ((with_reducible refine ift_of ?_ ?_); exact decide_eq_true (by omega)) | ((with_reducible refine iff_of ?_ ?_); exact decide_eq_false (by omega)) | ((with_reducible refine ift2_of ?_ ?_); exact decide_eq_true (by omega)) | ((with_reducible refine iff2_of ?_ ?_); exact decide_eq_false (by omega)))
  exact ⟨rfl, rfl⟩
theorem w_rev {ds : List D} {t : Tn} {Q : D → Tn → Prop} (h : Q (.tup ds.reverse) t) : W (pRev (.tup ds) t) Q := h
end BL
set_option Elab.async false
set_option linter.all false
set_option maxRecDepth 100000
set_option maxHeartbeats 1000000
namespace BL
open PySem BG L2
theorem w_lbegun {Q : D → Tn → Prop} (h : Q .town (some (0, []))) : W (f_law_begun [] none) Q := h
abbrev ks5 : List D := [.str "both", .str "if", .str "not", .str "pick", .str "swap"]
theorem w_ne_no {p q : D} {t : Tn} {Q : D → Tn → Prop} (e : p = q) (h1 : okD p 60 = true) (h2 : nobl p = true) (h : Q (.bl false) t) : W (pNe p q t) Q := by
  subst e
  refine w_neD h1 h1 ?_
  rw [(eqv_iff h2 h2).mpr rfl]; exact h
theorem ok_cD {c : List Nat} (h : Gs c) : okD (.tup (cD c)) 60 = true := okA_of (n := 59) fun d hd => by
  obtain ⟨_, _, _, h1, _⟩ := gts_kind (cD_mem h d hd)
  exact okD_le (by decide) h1
theorem nobl_cD {c : List Nat} (h : Gs c) : nobl (.tup (cD c)) = true := noblA_of fun d hd => by
  obtain ⟨_, _, _, _, h2⟩ := gts_kind (cD_mem h d hd)
  exact h2
/-- the end of a law -/
theorem law_of {F : Fn} {ns : List Int} (h : W (F [.scr ns] none) fun d _ => d = .bl true) : ∃ t', F [.scr ns] none = some (.ok (.bl true) t') := by
  obtain ⟨a, t, e, rfl⟩ := h.ex
  exact ⟨t, e⟩
end BL
set_option Elab.async false
set_option linter.all false
set_option maxRecDepth 100000
set_option maxHeartbeats 1000000
namespace BL
open PySem BG L2
theorem rz_fn {n : Nat} {body : Stm} {ds : List D} {c : Nat} (h : body (slots0 n ds) = raise c) : fnOf n body ds = raise c := by
  unfold fnOf
  rw [h]; rfl
theorem rz_seq1 {a b : Stm} {S : Sl} {c : Nat} (h : a S = raise c) : sSeq a b S = raise c := by unfold sSeq; rw [h]; rfl
theorem rz_seq2 {a b : Stm} {S S' : Sl} {c : Nat} (h : a S = ret (.nx S')) (h2 : b S' = raise c) : sSeq a b S = raise c := by unfold sSeq; rw [h]; exact h2
theorem rz_expr {e : Ex} {S : Sl} {c : Nat} (h : e S = raise c) : sExpr e S = raise c := by unfold sExpr; rw [h]; rfl
theorem rt_expr {e : Ex} {S : Sl} {d : D} (h : e S = ret d) : sExpr e S = ret (.nx S) := by unfold sExpr; rw [h]; rfl
/-- if not ..: raise -/
theorem rz_chk {f : Ex} {b : Stm} {S : Sl} {c : Nat} (h : f S = ret (.bl false)) : sIf (eUn oNot f) (sRaise c) b S = raise c := by unfold sIf eUn; rw [h]; rfl
theorem rt_chk {f : Ex} {S : Sl} {c : Nat} (h : f S = ret (.bl true)) : sIf (eUn oNot f) (sRaise c) sNil S = ret (.nx S) := by unfold sIf eUn; rw [h]; rfl
theorem check_circuit_no {d : D} (h : f_is_circuit [d] = ret (.bl false)) : f_check_circuit [d] = raise 1 := rz_fn (rz_chk h)
theorem check_gate_no {d : D} (h : f_is_gate [d] = ret (.bl false)) : f_check_gate [d] = raise 0 := rz_fn (rz_chk h)
theorem check_gate_yes {i : Nat} (h : i < 18) : f_check_gate [gk i] = ret .non := by
  have := is_gate_eq _ (gk_mem h)
  show bnd (sIf (eUn oNot (eCall f_is_gate [eVar 0])) (sRaise 0) sNil [.val (gk i)]) _ = _
  rw [rt_chk this]; rfl
theorem law_apply_tab : (List.range 18).map (fun i => (List.range 8).map fun (w : Nat) => f_law_apply [gk i, .int (w : Int)]) = (List.range 18).map (fun i => (List.range 8).map fun (w : Nat) => ret (.int (ap i w : Int))) := by with_unfolding_all rfl
theorem law_apply_eq {i w : Nat} (hi : i < 18) (hw : w < 8) : f_law_apply [gk i, .int (w : Int)] = ret (.int (ap i w : Int)) :=
  map_eq_all (map_eq_all law_apply_tab i (List.mem_range.mpr hi)) w (List.mem_range.mpr hw)
theorem is_circuit_many {ds : List D} (h : 20 < ds.length) (hl : ds.length ≤ sizeLine) : f_is_circuit [.tup ds] = ret (.bl false) := by
  refine (is_circuit_eq (fun _ => true) hl fun h' => absurd h' (by omega)).trans ?_
  rw [decide_eq_false (by omega)]; rfl
end BL
set_option Elab.async false
set_option linter.all false
set_option maxRecDepth 100000
set_option maxHeartbeats 1000000
namespace BM
section
variable (cm : Nat → Nat → Bool)
/-- the letters at a and b are equal, and all between may change places with them -/
def canc (c : List Nat) (a b : Nat) : Bool := decide (c[b]? = c[a]?) && ((c.drop (a + 1)).take (b - (a + 1))).all fun x => cm (c.getD a 0) x
def pairsN (c : List Nat) : List (Nat × Nat) := (List.range c.length).flatMap fun a => ((List.range' (a + 1) (c.length - (a + 1))).filter (canc cm c a)).map fun b => (a, b)
def rm (c : List Nat) (a b : Nat) : List Nat := c.take a ++ ((c.drop (a + 1)).take (b - (a + 1)) ++ c.drop (b + 1))
theorem mem_pairs {c : List Nat} {p : Nat × Nat} : p ∈ pairsN cm c ↔ p.1 < p.2 ∧ p.2 < c.length ∧ canc cm c p.1 p.2 = true := by
  unfold pairsN
  simp only [List.mem_flatMap, List.mem_range, List.mem_map, List.mem_filter, List.mem_range'_1]
  constructor
  · rintro ⟨a, ha, b, ⟨⟨h1, h2⟩, h3⟩, rfl⟩
    exact ⟨by show a < b; omega, by show b < _; omega, h3⟩
  · intro ⟨h1, h2, h3⟩
    exact ⟨p.1, by omega, p.2, ⟨⟨by omega, by omega⟩, h3⟩, rfl⟩
theorem rm_len {c : List Nat} {a b : Nat} (hab : a < b) (hb : b < c.length) : (rm c a b).length + 2 = c.length := by
  unfold rm
  rw [List.length_append, List.length_append, List.length_take, List.length_take, List.length_drop, List.length_drop]; omega
theorem rm_mem {c : List Nat} {a b x : Nat} (h : x ∈ rm c a b) : x ∈ c := by
  unfold rm at h
  rcases List.mem_append.mp h with h | h
  · exact List.mem_of_mem_take h
  · rcases List.mem_append.mp h with h | h
    · exact List.mem_of_mem_drop (List.mem_of_mem_take h)
    · exact List.mem_of_mem_drop h
def shortN : Nat → List Nat → List Nat
  | 0, c => c
  | n + 1, c => match pairsN cm c with
    | [] => c
    | p :: _ => shortN n (rm c p.1 p.2)
def short (c : List Nat) : List Nat := shortN cm c.length c
theorem shortN_eq : ∀ (n m : Nat) (c : List Nat), c.length ≤ n → c.length ≤ m → shortN cm n c = shortN cm m c
  | 0, 0, c, _, _ => rfl
  | 0, m + 1, c, h, _ => by
    have : c = [] := List.length_eq_zero_iff.mp (by omega)
    subst this; rfl
  | n + 1, 0, c, _, h => by
    have : c = [] := List.length_eq_zero_iff.mp (by omega)
    subst this; rfl
  | n + 1, m + 1, c, h1, h2 => by
    unfold shortN
    cases e : pairsN cm c with
    | nil => rfl
    | cons p r =>
      obtain ⟨q1, q2, q3⟩ := (mem_pairs cm).mp (show p ∈ pairsN cm c by rw [e]; exact List.mem_cons_self ..)
      have := rm_len q1 q2
      exact shortN_eq n m _ (by omega) (by omega)
theorem short_nil {c : List Nat} (h : pairsN cm c = []) : short cm c = c := by
  unfold short
  cases e : c.length with
  | zero => rfl
  | succ n => unfold shortN; rw [h]
theorem short_cons {c : List Nat} {p : Nat × Nat} {r : List (Nat × Nat)} (h : pairsN cm c = p :: r) : short cm c = short cm (rm c p.1 p.2) := by
  obtain ⟨q1, q2, q3⟩ := (mem_pairs cm).mp (show p ∈ pairsN cm c by rw [h]; exact List.mem_cons_self ..)
  have := rm_len q1 q2
  unfold short
  cases e : c.length with
  | zero => omega
  | succ n =>
    rw [shortN, h]
    exact shortN_eq cm _ _ _ (by omega) (by omega)
/-- what each step keeps is kept in the end; in the end nothing cancels -/
theorem short_ind {P : List Nat → Prop} (hs : ∀ c a b, P c → a < b → b < c.length → canc cm c a b = true → P (rm c a b)) : ∀ (n : Nat) (c : List Nat), c.length ≤ n → P c → P (short cm c) ∧ pairsN cm (short cm c) = []
  | 0, c, h, hp => by
    have : c = [] := List.length_eq_zero_iff.mp (by omega)
    subst this; exact ⟨hp, rfl⟩
  | n + 1, c, h, hp => by
    cases e : pairsN cm c with
    | nil => rw [short_nil cm e]; exact ⟨hp, e⟩
    | cons p r =>
      obtain ⟨q1, q2, q3⟩ := (mem_pairs cm).mp (show p ∈ pairsN cm c by rw [e]; exact List.mem_cons_self ..)
      have := rm_len q1 q2
      rw [short_cons cm e]
      exact short_ind hs n _ (by omega) (hs c p.1 p.2 hp q1 q2 q3)
end
section
variable (cm : Nat → Nat → Bool)
/-- the pair is watched -/
def tk (a b : Nat) : Bool := !cm a b || decide (a = b)
abbrev Fm := Nat → Nat → List Nat
def hit (g a b : Nat) : Bool := tk cm a b && (decide (a = g) || decide (b = g))
/-- all watched pairs with g end with g -/
def rmv (g : Nat) (f : Fm) : Prop := ∀ a b, hit cm g a b = true → (f a b).getLast? = some g
def addF (g : Nat) (f : Fm) : Fm := fun a b => if hit cm g a b = true then f a b ++ [g] else f a b
def dropF (g : Nat) (f : Fm) : Fm := fun a b => if hit cm g a b = true then (f a b).dropLast else f a b
open Classical in
noncomputable def act (g : Nat) (f : Fm) : Fm := if rmv cm g f then dropF cm g f else addF cm g f
/-- no two letters cancel -/
def Red (w : List Nat) : Prop := ∀ u g m v, w = u ++ g :: (m ++ g :: v) → ∃ x ∈ m, cm g x = false
theorem Red.nil : Red cm [] := fun u g m v e => by
  have := congrArg List.length e
  simp at this
noncomputable def run (w : List Nat) (f : Fm) : Fm := w.foldl (fun f g => act cm g f) f
end
end BM
set_option Elab.async false
set_option linter.all false
set_option maxRecDepth 100000
set_option maxHeartbeats 1000000
namespace BL
open PySem BG L2
theorem w_while {c : Ex} {body : Stm} {Q : Fl → Tn → Prop} (I : Nat → Sl → Tn → Prop)
    (hs : ∀ k S t, I k S t → W (c S t) (Bl fun b t1 => (b = true → W (body S t1) (Nx (fun S2 t2 => ∃ k', k' < k ∧ I k' S2 t2) fun d t2 => Q (.ret d) t2)) ∧ (b = false → Q (.nx S) t1))) :
    ∀ {n k : Nat} {S : Sl} {t : Tn}, k < n → I k S t → W (sWhile n c body S t) Q
  | 0, _, _, _, h, _ => absurd h (Nat.not_lt_zero _)
  | n + 1, k, S, t, h, h0 => by
    show W (bnd (calm (c S)) _ t) Q
    refine w_bnd (w_calm ((hs k S t h0).mono fun d t1 q => ?_))
    cases d with
    | bl b =>
      obtain ⟨q1, q2⟩ := q
      cases b with
      | false => exact q2 rfl
      | true =>
        refine w_bnd (w_calm ((q1 rfl).mono fun fl t2 q => ?_))
        cases fl with
        | ret d => exact q
        | nx S2 =>
          obtain ⟨k', hk', h'⟩ := q
          exact w_while I hs (by omega) h'
    | _ => exact q.elim
theorem w_itR2 {f f2 : Ex} {S : Sl} {t : Tn} {Q : List D → Tn → Prop} (h : W (f S t) (In fun i t1 => W (f2 S t1) (In fun j t2 => (0 ≤ i ∧ i < 2 ^ 62 ∧ 0 ≤ j ∧ j < 2 ^ 62) ∧ Q (iD (List.range' i.toNat (j.toNat - i.toNat))) t2))) : W (itRange2 f f2 S t) Q := w_bnd (h.mono fun d t1 q => by
  cases d with
  | int i =>
    refine w_bnd (W.mono q fun d2 t2 q => ?_)
    cases d2 with
    | int j =>
      obtain ⟨⟨h1, h2, h3, h4⟩, q⟩ := q
      show W ((if -(2 ^ 62) ≤ i ∧ i < 2 ^ 62 ∧ -(2 ^ 62) ≤ j ∧ j < 2 ^ 62 then ret ((List.range (j - i).toNat).map fun (k : Nat) => D.int (i + (k : Int))) else stuck) t2) Q
      rw [if_pos ⟨by omega, h2, by omega, h4⟩]
      have e : ((List.range (j - i).toNat).map fun (k : Nat) => D.int (i + (k : Int))) = iD (List.range' i.toNat (j.toNat - i.toNat)) := by
        unfold iD
        rw [List.range'_eq_map_range, List.map_map, show (j - i).toNat = j.toNat - i.toNat by omega]
        refine List.map_congr_left fun k _ => ?_
        show D.int _ = D.int ((i.toNat + k : Nat) : Int)
        rw [show ((i.toNat + k : Nat) : Int) = i + (k : Int) by omega]
      rw [e]; exact q
    | _ => exact q.elim
  | _ => exact q.elim)
theorem w_itE {f : Ex} {S : Sl} {t : Tn} {Q : List D → Tn → Prop} (h : W (f S t) (Tp fun ds t1 => Q (enumD ds) t1)) : W (itEnum f S t) Q := w_bnd (h.mono fun d t1 q => by
  cases d with
  | tup ds => exact q
  | _ => exact q.elim)
def cmG (i j : Nat) : Bool := (List.range 8).all fun w => decide (ap j (ap i w) = ap i (ap j w))
def fdN (i j : Nat) : Option Nat := (List.range 8).find? fun w => !decide (ap j (ap i w) = ap i (ap j w))
def fdD (i j : Nat) : D := match fdN i j with
  | some w => .int (w : Int)
  | none => .non
theorem fdN_none {i j : Nat} : fdN i j = none ↔ cmG i j = true := by
  unfold fdN cmG
  rw [List.find?_eq_none, List.all_eq_true]
  simp
theorem fdD_isN (i j : Nat) : isN (fdD i j) = cmG i j := by
  unfold fdD
  cases h : fdN i j with
  | none => exact (fdN_none.mp h).symm
  | some w =>
    cases hc : cmG i j with
    | false => rfl
    | true => rw [fdN_none.mpr hc] at h; cases h
theorem ok_fdD (i j : Nat) : okD (fdD i j) 60 = true ∧ nobl (fdD i j) = true := by
  unfold fdD; split <;> exact ⟨rfl, rfl⟩
theorem diff_loop {F : Fn} (hF : ∀ {i w : Nat}, i < 18 → w < 8 → F [gk i, .int (w : Int)] = ret (.int (ap i w : Int))) {i j : Nat} (hi : i < 18) (hj : j < 18) {t : Tn} {Q : Fl → Tn → Prop} (hN : fdN i j = none → ∀ x2, Q (.nx [.val (gk i), .val (gk j), x2]) t) (hS : ∀ w, fdN i j = some w → Q (.ret (.int (w : Int))) t) :
    W (forL (gN 2) (sIf (eBin pNe (eCall F [(eVar 1), (eCall F [(eVar 0), (eVar 2)])]) (eCall F [(eVar 0), (eCall F [(eVar 1), (eVar 2)])])) (sRet (eVar 2)) sNil) (iD (List.range 8)) [.val (gk i), .val (gk j), .un] t) Q := by
  refine w_forI (fun k S t' => (∃ x2, S = [.val (gk i), .val (gk j), x2]) ∧ t' = t ∧ ∀ w, w < k → ap j (ap i w) = ap i (ap j w)) (k := 0) ⟨⟨_, rfl⟩, rfl, fun w h => by omega⟩ (fun k d hd S t' ⟨⟨x2, hS'⟩, ht, hk⟩ => ?_) fun S t' ⟨⟨x2, hS'⟩, ht, hk⟩ => ?_
  · subst hS' ht
    rw [Nat.zero_add] at hk ⊢
    have hk8 : k < 8 ∧ d = .int (k : Int) := by
      unfold iD at hd
      rw [List.getElem?_map] at hd
      by_cases h : k < 8
      · rw [List.getElem?_range h] at hd; cases hd; exact ⟨h, rfl⟩
      · rw [List.getElem?_eq_none (by rw [List.length_range]; omega)] at hd; cases hd
    obtain ⟨hk8, rfl⟩ := hk8
    refine ⟨_, rfl, ?_⟩
    have a1 := hF hi hk8
    have a2 := hF hj (ap_lt i hi k hk8)
    have a3 := hF hj hk8
    have a4 := hF hi (ap_lt j hj k hk8)
    repeat (first | (with_reducible refine w_eq a1 ?_) | (with_reducible refine w_eq a2 ?_) | (with_reducible refine w_eq a3 ?_) | (with_reducible refine w_eq a4 ?_) | (with_reducible first | refine w_seq ?_ | refine w_asg ?_ | refine w_asgP ?_ | refine pr_i ?_ | refine w_eqI ?_ | refine w_neI ?_ | refine w_own ?_ | refine w_par ?_ | refine w_parO ?_ | refine w_expr ?_ | refine w_if ?_ | refine w_sret ?_ | refine w_nil ?_ | refine w_for ?_ | refine w_bin ?_ | refine w_un ?_ | refine w_tup ?_ | refine w_lst ?_ | refine w_call ?_ | refine w_and ?_ | refine w_or ?_ | refine w_ife ?_ | refine w_chain ?_ | refine w_slice ?_ | refine w_oN ?_ | refine w_oS ?_ | refine w_comp ?_ | refine w_itSeq ?_ | refine w_itR ?_ | refine w_evnil ?_ | refine w_evcons ?_ | refine w_evc1 ?_ | refine w_evc0 ?_ | refine w_c ?_ | refine nx_nx ?_ | refine nx_ret ?_ | refine bl_i ?_ | refine in_i ?_ | refine sq_t ?_ | refine sq_l ?_ | refine ls_l ?_ | refine tp_t ?_ | refine w_not ?_ | refine w_addI ?_ | refine w_sub ?_ | refine w_xor ?_ | refine w_ltI ?_ | refine w_leI ?_ | refine w_gtI ?_ | refine w_geI ?_ | refine w_slT ?_ | refine w_slL ?_ | refine w_lenT ?_ | refine w_lenL ?_ | refine w_lenS ?_ | refine w_tupL ?_ | refine w_tupT ?_ | refine w_lstL ?_ | refine w_lstT ?_ | refine w_neg ?_ | refine w_isn ?_ | refine w_isnn ?_ | refine w_begun ?_ | refine w_ret ?_ | refine w_resE ?_) | (with_reducible refine w_var (by with_unfolding_all rfl) ?_) | (with_reducible refine w_peekV (by with_unfolding_all rfl) ?_) | (with_reducible refine w_peekO (by with_unfolding_all rfl) ?_) | (with_reducible refine w_app (by with_unfolding_all rfl) ?_) | (with_reducible refine w_frz (by with_unfolding_all rfl) ?_) | (with_reducible refine w_scr (by with_unfolding_all rfl) ?_) | (with_reducible refine w_tc (by with_unfolding_all rfl) ?_) | (with_reducible refine w_stc (by with_unfolding_all rfl) ?_) | (with_reducible refine w_tr (by with_unfolding_all rfl) ?_) | (with_reducible refine w_str (by with_unfolding_all rfl) ?_) | (with_reducible refine w_idxT (by with_unfolding_all rfl) ?_) | (with_reducible refine w_idxL (by with_unfolding_all rfl) ?_) | (with_reducible refine w_isi (by with_unfolding_all rfl) ?_) | ((with_reducible first | refine w_addT ?_ ?_ | refine w_addL ?_ ?_ | refine w_mulI ?_ ?_ | refine w_mulT ?_ ?_ | refine w_mulL ?_ ?_ | refine w_mod ?_ ?_ | refine w_div ?_ ?_ | refine w_pow ?_ ?_ | refine w_rng ?_ ?_); (first | decide | omega | (refine ⟨?_, ?_⟩ <;> omega) | (refine ⟨?_, ?_, ?_⟩ <;> omega) | (simp only [List.length_cons, List.length_nil, List.length_append, List.length_reverse, BL.cD_len, BL.iD_len, BL.mkx_len, BL.sizeL]; omega) | (refine ⟨List.cons_ne_nil _ _, ?_⟩; simp only [List.length_cons, List.length_nil]; omega))) | ((with_reducible first | refine w_eqD ?_ ?_ ?_ | refine w_neD ?_ ?_ ?_ | refine w_inT ?_ ?_ ?_ | refine w_inL ?_ ?_ ?_); (first | rfl | with_unfolding_all rfl); (first | rfl | with_unfolding_all rfl)) | ((with_reducible refine ift_of ?_ ?_); (with_unfolding_all rfl)) | ((with_reducible refine iff_of ?_ ?_); (with_unfolding_all rfl)) | ((with_reducible refine ift2_of ?_ ?_); (with_unfolding_all rfl)) | ((with_reducible refine iff2_of ?_ ?_); (with_unfolding_all rfl)) | ((with_reducible refine ift_of ?_ ?_); exact decide_eq_true (by omega)) | ((with_reducible refine iff_of ?_ ?_); exact decide_eq_false (by omega)) | ((with_reducible refine ift2_of ?_ ?_); exact decide_eq_true (by omega)) | ((with_reducible refine iff2_of ?_ ?_); exact decide_eq_false (by omega)))
    refine ⟨fun e => ?_, fun e => ?_⟩
    · have e := of_decide_eq_true e
      repeat (first | (with_reducible first | refine w_seq ?_ | refine w_asg ?_ | refine w_asgP ?_ | refine pr_i ?_ | refine w_eqI ?_ | refine w_neI ?_ | refine w_own ?_ | refine w_par ?_ | refine w_parO ?_ | refine w_expr ?_ | refine w_if ?_ | refine w_sret ?_ | refine w_nil ?_ | refine w_for ?_ | refine w_bin ?_ | refine w_un ?_ | refine w_tup ?_ | refine w_lst ?_ | refine w_call ?_ | refine w_and ?_ | refine w_or ?_ | refine w_ife ?_ | refine w_chain ?_ | refine w_slice ?_ | refine w_oN ?_ | refine w_oS ?_ | refine w_comp ?_ | refine w_itSeq ?_ | refine w_itR ?_ | refine w_evnil ?_ | refine w_evcons ?_ | refine w_evc1 ?_ | refine w_evc0 ?_ | refine w_c ?_ | refine nx_nx ?_ | refine nx_ret ?_ | refine bl_i ?_ | refine in_i ?_ | refine sq_t ?_ | refine sq_l ?_ | refine ls_l ?_ | refine tp_t ?_ | refine w_not ?_ | refine w_addI ?_ | refine w_sub ?_ | refine w_xor ?_ | refine w_ltI ?_ | refine w_leI ?_ | refine w_gtI ?_ | refine w_geI ?_ | refine w_slT ?_ | refine w_slL ?_ | refine w_lenT ?_ | refine w_lenL ?_ | refine w_lenS ?_ | refine w_tupL ?_ | refine w_tupT ?_ | refine w_lstL ?_ | refine w_lstT ?_ | refine w_neg ?_ | refine w_isn ?_ | refine w_isnn ?_ | refine w_begun ?_ | refine w_ret ?_ | refine w_resE ?_) | (with_reducible refine w_var (by with_unfolding_all rfl) ?_) | (with_reducible refine w_peekV (by with_unfolding_all rfl) ?_) | (with_reducible refine w_peekO (by with_unfolding_all rfl) ?_) | (with_reducible refine w_app (by with_unfolding_all rfl) ?_) | (with_reducible refine w_frz (by with_unfolding_all rfl) ?_) | (with_reducible refine w_scr (by with_unfolding_all rfl) ?_) | (with_reducible refine w_tc (by with_unfolding_all rfl) ?_) | (with_reducible refine w_stc (by with_unfolding_all rfl) ?_) | (with_reducible refine w_tr (by with_unfolding_all rfl) ?_) | (with_reducible refine w_str (by with_unfolding_all rfl) ?_) | (with_reducible refine w_idxT (by with_unfolding_all rfl) ?_) | (with_reducible refine w_idxL (by with_unfolding_all rfl) ?_) | (with_reducible refine w_isi (by with_unfolding_all rfl) ?_) | ((with_reducible first | refine w_addT ?_ ?_ | refine w_addL ?_ ?_ | refine w_mulI ?_ ?_ | refine w_mulT ?_ ?_ | refine w_mulL ?_ ?_ | refine w_mod ?_ ?_ | refine w_div ?_ ?_ | refine w_pow ?_ ?_ | refine w_rng ?_ ?_); (first | decide | omega | (refine ⟨?_, ?_⟩ <;> omega) | (refine ⟨?_, ?_, ?_⟩ <;> omega) | (simp only [List.length_cons, List.length_nil, List.length_append, List.length_reverse, BL.cD_len, BL.iD_len, BL.mkx_len, BL.sizeL]; omega) | (refine ⟨List.cons_ne_nil _ _, ?_⟩; simp only [List.length_cons, List.length_nil]; omega))) | ((with_reducible first | refine w_eqD ?_ ?_ ?_ | refine w_neD ?_ ?_ ?_ | refine w_inT ?_ ?_ ?_ | refine w_inL ?_ ?_ ?_); (first | rfl | with_unfolding_all rfl); (first | rfl | with_unfolding_all rfl)) | ((with_reducible refine ift_of ?_ ?_); (with_unfolding_all rfl)) | ((with_reducible refine iff_of ?_ ?_); (with_unfolding_all rfl)) | ((with_reducible refine ift2_of ?_ ?_); (with_unfolding_all rfl)) | ((with_reducible refine iff2_of ?_ ?_); (with_unfolding_all rfl)) | ((with_reducible refine ift_of ?_ ?_); exact decide_eq_true (by omega)) | ((with_reducible refine iff_of ?_ ?_); exact decide_eq_false (by omega)) | ((with_reducible refine ift2_of ?_ ?_); exact decide_eq_true (by omega)) | ((with_reducible refine iff2_of ?_ ?_); exact decide_eq_false (by omega)))
      refine hS k ?_
      unfold fdN
      rw [List.find?_eq_some_iff_append]
      refine ⟨by simp; omega, List.range k, (List.range' (k + 1) (7 - k)), ?_, fun w hw => ?_⟩
      · have : List.range 8 = List.range' 0 8 := List.range_eq_range'
        rw [this, show (8 : Nat) = k + (1 + (7 - k)) by omega, ← List.range'_append_1, ← List.range'_append_1, ← List.range_eq_range']
        simp
      · simp [hk w (List.mem_range.mp hw)]
    · have e := of_decide_eq_false e
      have e : ap j (ap i k) = ap i (ap j k) := by
        apply Classical.byContradiction
        intro z
        exact e (fun q => z (by omega))
      repeat (first | (with_reducible first | refine w_seq ?_ | refine w_asg ?_ | refine w_asgP ?_ | refine pr_i ?_ | refine w_eqI ?_ | refine w_neI ?_ | refine w_own ?_ | refine w_par ?_ | refine w_parO ?_ | refine w_expr ?_ | refine w_if ?_ | refine w_sret ?_ | refine w_nil ?_ | refine w_for ?_ | refine w_bin ?_ | refine w_un ?_ | refine w_tup ?_ | refine w_lst ?_ | refine w_call ?_ | refine w_and ?_ | refine w_or ?_ | refine w_ife ?_ | refine w_chain ?_ | refine w_slice ?_ | refine w_oN ?_ | refine w_oS ?_ | refine w_comp ?_ | refine w_itSeq ?_ | refine w_itR ?_ | refine w_evnil ?_ | refine w_evcons ?_ | refine w_evc1 ?_ | refine w_evc0 ?_ | refine w_c ?_ | refine nx_nx ?_ | refine nx_ret ?_ | refine bl_i ?_ | refine in_i ?_ | refine sq_t ?_ | refine sq_l ?_ | refine ls_l ?_ | refine tp_t ?_ | refine w_not ?_ | refine w_addI ?_ | refine w_sub ?_ | refine w_xor ?_ | refine w_ltI ?_ | refine w_leI ?_ | refine w_gtI ?_ | refine w_geI ?_ | refine w_slT ?_ | refine w_slL ?_ | refine w_lenT ?_ | refine w_lenL ?_ | refine w_lenS ?_ | refine w_tupL ?_ | refine w_tupT ?_ | refine w_lstL ?_ | refine w_lstT ?_ | refine w_neg ?_ | refine w_isn ?_ | refine w_isnn ?_ | refine w_begun ?_ | refine w_ret ?_ | refine w_resE ?_) | (with_reducible refine w_var (by with_unfolding_all rfl) ?_) | (with_reducible refine w_peekV (by with_unfolding_all rfl) ?_) | (with_reducible refine w_peekO (by with_unfolding_all rfl) ?_) | (with_reducible refine w_app (by with_unfolding_all rfl) ?_) | (with_reducible refine w_frz (by with_unfolding_all rfl) ?_) | (with_reducible refine w_scr (by with_unfolding_all rfl) ?_) | (with_reducible refine w_tc (by with_unfolding_all rfl) ?_) | (with_reducible refine w_stc (by with_unfolding_all rfl) ?_) | (with_reducible refine w_tr (by with_unfolding_all rfl) ?_) | (with_reducible refine w_str (by with_unfolding_all rfl) ?_) | (with_reducible refine w_idxT (by with_unfolding_all rfl) ?_) | (with_reducible refine w_idxL (by with_unfolding_all rfl) ?_) | (with_reducible refine w_isi (by with_unfolding_all rfl) ?_) | ((with_reducible first | refine w_addT ?_ ?_ | refine w_addL ?_ ?_ | refine w_mulI ?_ ?_ | refine w_mulT ?_ ?_ | refine w_mulL ?_ ?_ | refine w_mod ?_ ?_ | refine w_div ?_ ?_ | refine w_pow ?_ ?_ | refine w_rng ?_ ?_); (first | decide | omega | (refine ⟨?_, ?_⟩ <;> omega) | (refine ⟨?_, ?_, ?_⟩ <;> omega) | (simp only [List.length_cons, List.length_nil, List.length_append, List.length_reverse, BL.cD_len, BL.iD_len, BL.mkx_len, BL.sizeL]; omega) | (refine ⟨List.cons_ne_nil _ _, ?_⟩; simp only [List.length_cons, List.length_nil]; omega))) | ((with_reducible first | refine w_eqD ?_ ?_ ?_ | refine w_neD ?_ ?_ ?_ | refine w_inT ?_ ?_ ?_ | refine w_inL ?_ ?_ ?_); (first | rfl | with_unfolding_all rfl); (first | rfl | with_unfolding_all rfl)) | ((with_reducible refine ift_of ?_ ?_); (with_unfolding_all rfl)) | ((with_reducible refine iff_of ?_ ?_); (with_unfolding_all rfl)) | ((with_reducible refine ift2_of ?_ ?_); (with_unfolding_all rfl)) | ((with_reducible refine iff2_of ?_ ?_); (with_unfolding_all rfl)) | ((with_reducible refine ift_of ?_ ?_); exact decide_eq_true (by omega)) | ((with_reducible refine iff_of ?_ ?_); exact decide_eq_false (by omega)) | ((with_reducible refine ift2_of ?_ ?_); exact decide_eq_true (by omega)) | ((with_reducible refine iff2_of ?_ ?_); exact decide_eq_false (by omega)))
      refine ⟨⟨_, rfl⟩, rfl, fun w hw => ?_⟩
      by_cases h : w = k
      · rw [h]; exact e
      · exact hk w (by omega)
  · subst hS' ht
    have e8 : 0 + (iD (List.range 8)).length = 8 := by rw [iD_len, List.length_range]
    rw [e8] at hk
    refine hN ?_ x2
    rw [fdN_none]
    unfold cmG
    rw [List.all_eq_true]
    intro w hw
    exact decide_eq_true (hk w (List.mem_range.mp hw))
theorem first_difference_eq {i j : Nat} (hi : i < 18) (hj : j < 18) : f_first_difference [gk i, gk j] = ret (fdD i j) := by
  refine eq_of_W fun t => w_fn ?_
  show W (b_first_difference [.val (gk i), .val (gk j), .un] t) _
  unfold b_first_difference c_SAME
  repeat (first | (with_reducible first | refine w_seq ?_ | refine w_asg ?_ | refine w_asgP ?_ | refine pr_i ?_ | refine w_eqI ?_ | refine w_neI ?_ | refine w_own ?_ | refine w_par ?_ | refine w_parO ?_ | refine w_expr ?_ | refine w_if ?_ | refine w_sret ?_ | refine w_nil ?_ | refine w_for ?_ | refine w_bin ?_ | refine w_un ?_ | refine w_tup ?_ | refine w_lst ?_ | refine w_call ?_ | refine w_and ?_ | refine w_or ?_ | refine w_ife ?_ | refine w_chain ?_ | refine w_slice ?_ | refine w_oN ?_ | refine w_oS ?_ | refine w_comp ?_ | refine w_itSeq ?_ | refine w_itR ?_ | refine w_evnil ?_ | refine w_evcons ?_ | refine w_evc1 ?_ | refine w_evc0 ?_ | refine w_c ?_ | refine nx_nx ?_ | refine nx_ret ?_ | refine bl_i ?_ | refine in_i ?_ | refine sq_t ?_ | refine sq_l ?_ | refine ls_l ?_ | refine tp_t ?_ | refine w_not ?_ | refine w_addI ?_ | refine w_sub ?_ | refine w_xor ?_ | refine w_ltI ?_ | refine w_leI ?_ | refine w_gtI ?_ | refine w_geI ?_ | refine w_slT ?_ | refine w_slL ?_ | refine w_lenT ?_ | refine w_lenL ?_ | refine w_lenS ?_ | refine w_tupL ?_ | refine w_tupT ?_ | refine w_lstL ?_ | refine w_lstT ?_ | refine w_neg ?_ | refine w_isn ?_ | refine w_isnn ?_ | refine w_begun ?_ | refine w_ret ?_ | refine w_resE ?_) | (with_reducible refine w_var (by with_unfolding_all rfl) ?_) | (with_reducible refine w_peekV (by with_unfolding_all rfl) ?_) | (with_reducible refine w_peekO (by with_unfolding_all rfl) ?_) | (with_reducible refine w_app (by with_unfolding_all rfl) ?_) | (with_reducible refine w_frz (by with_unfolding_all rfl) ?_) | (with_reducible refine w_scr (by with_unfolding_all rfl) ?_) | (with_reducible refine w_tc (by with_unfolding_all rfl) ?_) | (with_reducible refine w_stc (by with_unfolding_all rfl) ?_) | (with_reducible refine w_tr (by with_unfolding_all rfl) ?_) | (with_reducible refine w_str (by with_unfolding_all rfl) ?_) | (with_reducible refine w_idxT (by with_unfolding_all rfl) ?_) | (with_reducible refine w_idxL (by with_unfolding_all rfl) ?_) | (with_reducible refine w_isi (by with_unfolding_all rfl) ?_) | ((with_reducible first | refine w_addT ?_ ?_ | refine w_addL ?_ ?_ | refine w_mulI ?_ ?_ | refine w_mulT ?_ ?_ | refine w_mulL ?_ ?_ | refine w_mod ?_ ?_ | refine w_div ?_ ?_ | refine w_pow ?_ ?_ | refine w_rng ?_ ?_); (first | decide | omega | (refine ⟨?_, ?_⟩ <;> omega) | (refine ⟨?_, ?_, ?_⟩ <;> omega) | (simp only [List.length_cons, List.length_nil, List.length_append, List.length_reverse, BL.cD_len, BL.iD_len, BL.mkx_len, BL.sizeL]; omega) | (refine ⟨List.cons_ne_nil _ _, ?_⟩; simp only [List.length_cons, List.length_nil]; omega))) | ((with_reducible first | refine w_eqD ?_ ?_ ?_ | refine w_neD ?_ ?_ ?_ | refine w_inT ?_ ?_ ?_ | refine w_inL ?_ ?_ ?_); (first | rfl | with_unfolding_all rfl); (first | rfl | with_unfolding_all rfl)) | ((with_reducible refine ift_of ?_ ?_); (with_unfolding_all rfl)) | ((with_reducible refine iff_of ?_ ?_); (with_unfolding_all rfl)) | ((with_reducible refine ift2_of ?_ ?_); (with_unfolding_all rfl)) | ((with_reducible refine iff2_of ?_ ?_); (with_unfolding_all rfl)) | ((with_reducible refine ift_of ?_ ?_); exact decide_eq_true (by omega)) | ((with_reducible refine iff_of ?_ ?_); exact decide_eq_false (by omega)) | ((with_reducible refine ift2_of ?_ ?_); exact decide_eq_true (by omega)) | ((with_reducible refine iff2_of ?_ ?_); exact decide_eq_false (by omega)))
  refine diff_loop applied_eq hi hj (fun h x2 => ?_) fun w h => ?_
  · repeat (first | (with_reducible first | refine w_seq ?_ | refine w_asg ?_ | refine w_asgP ?_ | refine pr_i ?_ | refine w_eqI ?_ | refine w_neI ?_ | refine w_own ?_ | refine w_par ?_ | refine w_parO ?_ | refine w_expr ?_ | refine w_if ?_ | refine w_sret ?_ | refine w_nil ?_ | refine w_for ?_ | refine w_bin ?_ | refine w_un ?_ | refine w_tup ?_ | refine w_lst ?_ | refine w_call ?_ | refine w_and ?_ | refine w_or ?_ | refine w_ife ?_ | refine w_chain ?_ | refine w_slice ?_ | refine w_oN ?_ | refine w_oS ?_ | refine w_comp ?_ | refine w_itSeq ?_ | refine w_itR ?_ | refine w_evnil ?_ | refine w_evcons ?_ | refine w_evc1 ?_ | refine w_evc0 ?_ | refine w_c ?_ | refine nx_nx ?_ | refine nx_ret ?_ | refine bl_i ?_ | refine in_i ?_ | refine sq_t ?_ | refine sq_l ?_ | refine ls_l ?_ | refine tp_t ?_ | refine w_not ?_ | refine w_addI ?_ | refine w_sub ?_ | refine w_xor ?_ | refine w_ltI ?_ | refine w_leI ?_ | refine w_gtI ?_ | refine w_geI ?_ | refine w_slT ?_ | refine w_slL ?_ | refine w_lenT ?_ | refine w_lenL ?_ | refine w_lenS ?_ | refine w_tupL ?_ | refine w_tupT ?_ | refine w_lstL ?_ | refine w_lstT ?_ | refine w_neg ?_ | refine w_isn ?_ | refine w_isnn ?_ | refine w_begun ?_ | refine w_ret ?_ | refine w_resE ?_) | (with_reducible refine w_var (by with_unfolding_all rfl) ?_) | (with_reducible refine w_peekV (by with_unfolding_all rfl) ?_) | (with_reducible refine w_peekO (by with_unfolding_all rfl) ?_) | (with_reducible refine w_app (by with_unfolding_all rfl) ?_) | (with_reducible refine w_frz (by with_unfolding_all rfl) ?_) | (with_reducible refine w_scr (by with_unfolding_all rfl) ?_) | (with_reducible refine w_tc (by with_unfolding_all rfl) ?_) | (with_reducible refine w_stc (by with_unfolding_all rfl) ?_) | (with_reducible refine w_tr (by with_unfolding_all rfl) ?_) | (with_reducible refine w_str (by with_unfolding_all rfl) ?_) | (with_reducible refine w_idxT (by with_unfolding_all rfl) ?_) | (with_reducible refine w_idxL (by with_unfolding_all rfl) ?_) | (with_reducible refine w_isi (by with_unfolding_all rfl) ?_) | ((with_reducible first | refine w_addT ?_ ?_ | refine w_addL ?_ ?_ | refine w_mulI ?_ ?_ | refine w_mulT ?_ ?_ | refine w_mulL ?_ ?_ | refine w_mod ?_ ?_ | refine w_div ?_ ?_ | refine w_pow ?_ ?_ | refine w_rng ?_ ?_); (first | decide | omega | (refine ⟨?_, ?_⟩ <;> omega) | (refine ⟨?_, ?_, ?_⟩ <;> omega) | (simp only [List.length_cons, List.length_nil, List.length_append, List.length_reverse, BL.cD_len, BL.iD_len, BL.mkx_len, BL.sizeL]; omega) | (refine ⟨List.cons_ne_nil _ _, ?_⟩; simp only [List.length_cons, List.length_nil]; omega))) | ((with_reducible first | refine w_eqD ?_ ?_ ?_ | refine w_neD ?_ ?_ ?_ | refine w_inT ?_ ?_ ?_ | refine w_inL ?_ ?_ ?_); (first | rfl | with_unfolding_all rfl); (first | rfl | with_unfolding_all rfl)) | ((with_reducible refine ift_of ?_ ?_); (with_unfolding_all rfl)) | ((with_reducible refine iff_of ?_ ?_); (with_unfolding_all rfl)) | ((with_reducible refine ift2_of ?_ ?_); (with_unfolding_all rfl)) | ((with_reducible refine iff2_of ?_ ?_); (with_unfolding_all rfl)) | ((with_reducible refine ift_of ?_ ?_); exact decide_eq_true (by omega)) | ((with_reducible refine iff_of ?_ ?_); exact decide_eq_false (by omega)) | ((with_reducible refine ift2_of ?_ ?_); exact decide_eq_true (by omega)) | ((with_reducible refine iff2_of ?_ ?_); exact decide_eq_false (by omega)))
    unfold fdD; rw [h]; exact ⟨rfl, rfl⟩
  · unfold fdD; rw [h]; exact ⟨rfl, rfl⟩
theorem difference_eq {i j : Nat} (hi : i < 18) (hj : j < 18) : f_difference [gk i, gk j] = ret (fdD i j) := by
  refine eq_of_W fun t => w_fn ?_
  show W (b_difference [.val (gk i), .val (gk j)] t) _
  unfold b_difference
  repeat (first | (with_reducible refine w_eq (check_gate_yes hi) ?_) | (with_reducible refine w_eq (check_gate_yes hj) ?_) | (with_reducible refine w_eq (first_difference_eq hi hj) ?_) | (with_reducible first | refine w_seq ?_ | refine w_asg ?_ | refine w_asgP ?_ | refine pr_i ?_ | refine w_eqI ?_ | refine w_neI ?_ | refine w_own ?_ | refine w_par ?_ | refine w_parO ?_ | refine w_expr ?_ | refine w_if ?_ | refine w_sret ?_ | refine w_nil ?_ | refine w_for ?_ | refine w_bin ?_ | refine w_un ?_ | refine w_tup ?_ | refine w_lst ?_ | refine w_call ?_ | refine w_and ?_ | refine w_or ?_ | refine w_ife ?_ | refine w_chain ?_ | refine w_slice ?_ | refine w_oN ?_ | refine w_oS ?_ | refine w_comp ?_ | refine w_itSeq ?_ | refine w_itR ?_ | refine w_evnil ?_ | refine w_evcons ?_ | refine w_evc1 ?_ | refine w_evc0 ?_ | refine w_c ?_ | refine nx_nx ?_ | refine nx_ret ?_ | refine bl_i ?_ | refine in_i ?_ | refine sq_t ?_ | refine sq_l ?_ | refine ls_l ?_ | refine tp_t ?_ | refine w_not ?_ | refine w_addI ?_ | refine w_sub ?_ | refine w_xor ?_ | refine w_ltI ?_ | refine w_leI ?_ | refine w_gtI ?_ | refine w_geI ?_ | refine w_slT ?_ | refine w_slL ?_ | refine w_lenT ?_ | refine w_lenL ?_ | refine w_lenS ?_ | refine w_tupL ?_ | refine w_tupT ?_ | refine w_lstL ?_ | refine w_lstT ?_ | refine w_neg ?_ | refine w_isn ?_ | refine w_isnn ?_ | refine w_begun ?_ | refine w_ret ?_ | refine w_resE ?_) | (with_reducible refine w_var (by with_unfolding_all rfl) ?_) | (with_reducible refine w_peekV (by with_unfolding_all rfl) ?_) | (with_reducible refine w_peekO (by with_unfolding_all rfl) ?_) | (with_reducible refine w_app (by with_unfolding_all rfl) ?_) | (with_reducible refine w_frz (by with_unfolding_all rfl) ?_) | (with_reducible refine w_scr (by with_unfolding_all rfl) ?_) | (with_reducible refine w_tc (by with_unfolding_all rfl) ?_) | (with_reducible refine w_stc (by with_unfolding_all rfl) ?_) | (with_reducible refine w_tr (by with_unfolding_all rfl) ?_) | (with_reducible refine w_str (by with_unfolding_all rfl) ?_) | (with_reducible refine w_idxT (by with_unfolding_all rfl) ?_) | (with_reducible refine w_idxL (by with_unfolding_all rfl) ?_) | (with_reducible refine w_isi (by with_unfolding_all rfl) ?_) | ((with_reducible first | refine w_addT ?_ ?_ | refine w_addL ?_ ?_ | refine w_mulI ?_ ?_ | refine w_mulT ?_ ?_ | refine w_mulL ?_ ?_ | refine w_mod ?_ ?_ | refine w_div ?_ ?_ | refine w_pow ?_ ?_ | refine w_rng ?_ ?_); (first | decide | omega | (refine ⟨?_, ?_⟩ <;> omega) | (refine ⟨?_, ?_, ?_⟩ <;> omega) | (simp only [List.length_cons, List.length_nil, List.length_append, List.length_reverse, BL.cD_len, BL.iD_len, BL.mkx_len, BL.sizeL]; omega) | (refine ⟨List.cons_ne_nil _ _, ?_⟩; simp only [List.length_cons, List.length_nil]; omega))) | ((with_reducible first | refine w_eqD ?_ ?_ ?_ | refine w_neD ?_ ?_ ?_ | refine w_inT ?_ ?_ ?_ | refine w_inL ?_ ?_ ?_); (first | rfl | with_unfolding_all rfl); (first | rfl | with_unfolding_all rfl)) | ((with_reducible refine ift_of ?_ ?_); (with_unfolding_all rfl)) | ((with_reducible refine iff_of ?_ ?_); (with_unfolding_all rfl)) | ((with_reducible refine ift2_of ?_ ?_); (with_unfolding_all rfl)) | ((with_reducible refine iff2_of ?_ ?_); (with_unfolding_all rfl)) | ((with_reducible refine ift_of ?_ ?_); exact decide_eq_true (by omega)) | ((with_reducible refine iff_of ?_ ?_); exact decide_eq_false (by omega)) | ((with_reducible refine ift2_of ?_ ?_); exact decide_eq_true (by omega)) | ((with_reducible refine iff2_of ?_ ?_); exact decide_eq_false (by omega)))
  exact ⟨rfl, rfl⟩
theorem may_change_eq {i j : Nat} (hi : i < 18) (hj : j < 18) : f_may_change [gk i, gk j] = ret (.bl (cmG i j)) := by
  refine eq_of_W fun t => w_fn ?_
  show W (b_may_change [.val (gk i), .val (gk j)] t) _
  unfold b_may_change
  repeat (first | (with_reducible refine w_eq (check_gate_yes hi) ?_) | (with_reducible refine w_eq (check_gate_yes hj) ?_) | (with_reducible refine w_eq (first_difference_eq hi hj) ?_) | (with_reducible first | refine w_seq ?_ | refine w_asg ?_ | refine w_asgP ?_ | refine pr_i ?_ | refine w_eqI ?_ | refine w_neI ?_ | refine w_own ?_ | refine w_par ?_ | refine w_parO ?_ | refine w_expr ?_ | refine w_if ?_ | refine w_sret ?_ | refine w_nil ?_ | refine w_for ?_ | refine w_bin ?_ | refine w_un ?_ | refine w_tup ?_ | refine w_lst ?_ | refine w_call ?_ | refine w_and ?_ | refine w_or ?_ | refine w_ife ?_ | refine w_chain ?_ | refine w_slice ?_ | refine w_oN ?_ | refine w_oS ?_ | refine w_comp ?_ | refine w_itSeq ?_ | refine w_itR ?_ | refine w_evnil ?_ | refine w_evcons ?_ | refine w_evc1 ?_ | refine w_evc0 ?_ | refine w_c ?_ | refine nx_nx ?_ | refine nx_ret ?_ | refine bl_i ?_ | refine in_i ?_ | refine sq_t ?_ | refine sq_l ?_ | refine ls_l ?_ | refine tp_t ?_ | refine w_not ?_ | refine w_addI ?_ | refine w_sub ?_ | refine w_xor ?_ | refine w_ltI ?_ | refine w_leI ?_ | refine w_gtI ?_ | refine w_geI ?_ | refine w_slT ?_ | refine w_slL ?_ | refine w_lenT ?_ | refine w_lenL ?_ | refine w_lenS ?_ | refine w_tupL ?_ | refine w_tupT ?_ | refine w_lstL ?_ | refine w_lstT ?_ | refine w_neg ?_ | refine w_isn ?_ | refine w_isnn ?_ | refine w_begun ?_ | refine w_ret ?_ | refine w_resE ?_) | (with_reducible refine w_var (by with_unfolding_all rfl) ?_) | (with_reducible refine w_peekV (by with_unfolding_all rfl) ?_) | (with_reducible refine w_peekO (by with_unfolding_all rfl) ?_) | (with_reducible refine w_app (by with_unfolding_all rfl) ?_) | (with_reducible refine w_frz (by with_unfolding_all rfl) ?_) | (with_reducible refine w_scr (by with_unfolding_all rfl) ?_) | (with_reducible refine w_tc (by with_unfolding_all rfl) ?_) | (with_reducible refine w_stc (by with_unfolding_all rfl) ?_) | (with_reducible refine w_tr (by with_unfolding_all rfl) ?_) | (with_reducible refine w_str (by with_unfolding_all rfl) ?_) | (with_reducible refine w_idxT (by with_unfolding_all rfl) ?_) | (with_reducible refine w_idxL (by with_unfolding_all rfl) ?_) | (with_reducible refine w_isi (by with_unfolding_all rfl) ?_) | ((with_reducible first | refine w_addT ?_ ?_ | refine w_addL ?_ ?_ | refine w_mulI ?_ ?_ | refine w_mulT ?_ ?_ | refine w_mulL ?_ ?_ | refine w_mod ?_ ?_ | refine w_div ?_ ?_ | refine w_pow ?_ ?_ | refine w_rng ?_ ?_); (first | decide | omega | (refine ⟨?_, ?_⟩ <;> omega) | (refine ⟨?_, ?_, ?_⟩ <;> omega) | (simp only [List.length_cons, List.length_nil, List.length_append, List.length_reverse, BL.cD_len, BL.iD_len, BL.mkx_len, BL.sizeL]; omega) | (refine ⟨List.cons_ne_nil _ _, ?_⟩; simp only [List.length_cons, List.length_nil]; omega))) | ((with_reducible first | refine w_eqD ?_ ?_ ?_ | refine w_neD ?_ ?_ ?_ | refine w_inT ?_ ?_ ?_ | refine w_inL ?_ ?_ ?_); (first | rfl | with_unfolding_all rfl); (first | rfl | with_unfolding_all rfl)) | ((with_reducible refine ift_of ?_ ?_); (with_unfolding_all rfl)) | ((with_reducible refine iff_of ?_ ?_); (with_unfolding_all rfl)) | ((with_reducible refine ift2_of ?_ ?_); (with_unfolding_all rfl)) | ((with_reducible refine iff2_of ?_ ?_); (with_unfolding_all rfl)) | ((with_reducible refine ift_of ?_ ?_); exact decide_eq_true (by omega)) | ((with_reducible refine iff_of ?_ ?_); exact decide_eq_false (by omega)) | ((with_reducible refine ift2_of ?_ ?_); exact decide_eq_true (by omega)) | ((with_reducible refine iff2_of ?_ ?_); exact decide_eq_false (by omega)))
  rw [fdD_isN]; exact ⟨rfl, rfl⟩
abbrev pairsG (c : List Nat) : List (Nat × Nat) := BM.pairsN cmG c
abbrev shortG (c : List Nat) : List Nat := BM.short cmG c
def pairD (ps : List (Nat × Nat)) : List D := ps.map fun p => D.tup [.int (p.1 : Int), .int (p.2 : Int)]
theorem cD_get {c : List Nat} {k : Nat} {d : D} (h : (cD c)[k]? = some d) : ∃ i, c[k]? = some i ∧ d = gk i ∧ k < c.length := by
  unfold cD at h
  rw [List.getElem?_map] at h
  cases e : c[k]? with
  | none => rw [e] at h; cases h
  | some i => rw [e] at h; cases h; exact ⟨i, rfl, rfl, (List.getElem?_eq_some_iff.mp e).1⟩
theorem cD_idx {c : List Nat} {k i : Nat} (h : c[k]? = some i) : atI (cD c) (k : Int) = some (gk i) := atI_nat (by unfold cD; rw [List.getElem?_map, h]; rfl)
theorem gk_inj : ∀ i, i < 18 → ∀ j, j < 18 → (PyData.eqv (gk i).py (gk j).py = true ↔ i = j) := by
  have h : (List.range 18).map (fun i => (List.range 18).map fun j => PyData.eqv (gk i).py (gk j).py) = (List.range 18).map (fun i => (List.range 18).map fun j => decide (i = j)) := by decide +kernel
  intro i hi j hj
  have := map_eq_all (map_eq_all h i (List.mem_range.mpr hi)) j (List.mem_range.mpr hj)
  rw [this, decide_eq_true_eq]
theorem gk_ok {i : Nat} (h : i < 18) : okD (gk i) 60 = true := by
  obtain ⟨k, ls, e, h1, h2⟩ := gts_kind (gk_mem h)
  exact okD_le (by decide) h1
theorem w_eqG {i j : Nat} {t : Tn} {Q : D → Tn → Prop} (hi : i < 18) (hj : j < 18) (h : Q (.bl (decide (i = j))) t) : W (pEq (gk i) (gk j) t) Q := by
  refine w_eqD (gk_ok hi) (gk_ok hj) ?_
  rw [show PyData.eqv (gk i).py (gk j).py = decide (i = j) from by rw [Bool.eq_iff_iff, decide_eq_true_eq]; exact gk_inj i hi j hj]; exact h
theorem cutD_mid {c : List Nat} {a b : Nat} (ha : a ≤ c.length) (hb : b ≤ c.length) : cutD (cD c) (some (a : Int)) (some (b : Int)) = cD ((c.drop a).take (b - a)) := by
  unfold cutD
  rw [sIx_le (k := b) (by rw [cD_len]; exact hb), sIx_le (k := a) (by rw [cD_len]; exact ha)]
  unfold cD
  rw [List.map_take, List.map_drop]
theorem w_between {i : Nat} (hi : i < 18) {m : List Nat} (hm : Gs m) {S : Sl} {t : Tn} {Q : D → Tn → Prop} (h3 : S[3]? = some (.val (gk i))) (h5 : S[5]? = some (.val (.tup (cD m)))) (hl : m.length ≤ 1000) (hn : 6 < S.length)
    (h : Q (.bl (m.all fun x => cmG i x)) t) : W (eUn bAll (eComp [6] (itSeq (eVar 5)) (gN 6) (eC (.bl true)) (eBin pIs (eCall f_first_difference [(eVar 3), (eVar 6)]) (eC .non))) S t) Q := by
  refine w_un (w_comp (w_itSeq (w_var h5 (sq_t ⟨by rw [cD_len, sizeL]; omega, ?_⟩))))
  refine w_cmpM (fun d => .bl (m.any fun x => decide (PyData.eqv d.py (gk x).py = true) && cmG i x)) (fun d hd => ?_) ?_
  · obtain ⟨x, hx, rfl⟩ := List.mem_map.mp hd
    have hx18 := hm x hx
    refine ⟨_, rfl, eq_of_W fun t => ?_⟩
    have g3 : ((wipeS S [6]).set 6 (.val (gk x)))[3]? = some (.val (gk i)) := by
      unfold wipeS wipeS; rw [List.getElem?_set_ne (by decide), List.getElem?_set_ne (by decide)]; exact h3
    have g6 : ((wipeS S [6]).set 6 (.val (gk x)))[6]? = some (.val (gk x)) := by
      unfold wipeS wipeS; rw [List.getElem?_set_self (by rw [List.length_set]; exact hn)]
    refine w_bin (w_call (w_evcons (w_var g3 (w_evcons (w_var g6 (w_evnil (w_eq (first_difference_eq hi hx18) (w_c (w_isn ?_)))))))))
    refine ⟨?_, rfl⟩
    rw [fdD_isN]
    congr 1
    rw [Bool.eq_iff_iff, List.any_eq_true]
    constructor
    · intro hc
      exact ⟨x, hx, by rw [Bool.and_eq_true, decide_eq_true_eq]; exact ⟨(gk_inj x hx18 x hx18).mpr rfl, hc⟩⟩
    · intro ⟨y, hy, hc⟩
      rw [Bool.and_eq_true, decide_eq_true_eq] at hc
      rw [(gk_inj x hx18 y (hm y hy)).mp hc.1]; exact hc.2
  · refine w_allL (bs := m.map fun x => cmG i x) ?_ ?_
    · have e : (cD m).map (fun d => D.bl (m.any fun x => decide (PyData.eqv d.py (gk x).py = true) && cmG i x)) = m.map fun x => D.bl (cmG i x) := by
        unfold cD
        rw [List.map_map]
        refine List.map_congr_left fun x hx => ?_
        show D.bl _ = D.bl _
        congr 1
        rw [Bool.eq_iff_iff, List.any_eq_true]
        constructor
        · intro ⟨y, hy, hc⟩
          rw [Bool.and_eq_true, decide_eq_true_eq] at hc
          rw [(gk_inj x (hm x hx) y (hm y hy)).mp hc.1]; exact hc.2
        · intro hc
          exact ⟨x, hx, by rw [Bool.and_eq_true, decide_eq_true_eq]; exact ⟨(gk_inj x (hm x hx) x (hm x hx)).mpr rfl, hc⟩⟩
      rw [e, bools_map]
    · rw [all_map]; exact h
theorem pairs_of_eq {c : List Nat} (hc : Gs c) (hl : c.length ≤ 1000) : f_pairs_of [.tup (cD c)] = ret (.lst (pairD (pairsG c))) := by
  have hsz := sizeL
  have l1 := cD_len c
  refine eq_of_W fun t => w_fn ?_
  show W (b_pairs_of [.val (.tup (cD c)), .un, .un, .un, .un, .un, .un] t) _
  unfold b_pairs_of
  repeat (first | (with_reducible refine w_itE ?_) | (with_reducible first | refine w_seq ?_ | refine w_asg ?_ | refine w_asgP ?_ | refine pr_i ?_ | refine w_eqI ?_ | refine w_neI ?_ | refine w_own ?_ | refine w_par ?_ | refine w_parO ?_ | refine w_expr ?_ | refine w_if ?_ | refine w_sret ?_ | refine w_nil ?_ | refine w_for ?_ | refine w_bin ?_ | refine w_un ?_ | refine w_tup ?_ | refine w_lst ?_ | refine w_call ?_ | refine w_and ?_ | refine w_or ?_ | refine w_ife ?_ | refine w_chain ?_ | refine w_slice ?_ | refine w_oN ?_ | refine w_oS ?_ | refine w_comp ?_ | refine w_itSeq ?_ | refine w_itR ?_ | refine w_evnil ?_ | refine w_evcons ?_ | refine w_evc1 ?_ | refine w_evc0 ?_ | refine w_c ?_ | refine nx_nx ?_ | refine nx_ret ?_ | refine bl_i ?_ | refine in_i ?_ | refine sq_t ?_ | refine sq_l ?_ | refine ls_l ?_ | refine tp_t ?_ | refine w_not ?_ | refine w_addI ?_ | refine w_sub ?_ | refine w_xor ?_ | refine w_ltI ?_ | refine w_leI ?_ | refine w_gtI ?_ | refine w_geI ?_ | refine w_slT ?_ | refine w_slL ?_ | refine w_lenT ?_ | refine w_lenL ?_ | refine w_lenS ?_ | refine w_tupL ?_ | refine w_tupT ?_ | refine w_lstL ?_ | refine w_lstT ?_ | refine w_neg ?_ | refine w_isn ?_ | refine w_isnn ?_ | refine w_begun ?_ | refine w_ret ?_ | refine w_resE ?_) | (with_reducible refine w_var (by with_unfolding_all rfl) ?_) | (with_reducible refine w_peekV (by with_unfolding_all rfl) ?_) | (with_reducible refine w_peekO (by with_unfolding_all rfl) ?_) | (with_reducible refine w_app (by with_unfolding_all rfl) ?_) | (with_reducible refine w_frz (by with_unfolding_all rfl) ?_) | (with_reducible refine w_scr (by with_unfolding_all rfl) ?_) | (with_reducible refine w_tc (by with_unfolding_all rfl) ?_) | (with_reducible refine w_stc (by with_unfolding_all rfl) ?_) | (with_reducible refine w_tr (by with_unfolding_all rfl) ?_) | (with_reducible refine w_str (by with_unfolding_all rfl) ?_) | (with_reducible refine w_idxT (by with_unfolding_all rfl) ?_) | (with_reducible refine w_idxL (by with_unfolding_all rfl) ?_) | (with_reducible refine w_isi (by with_unfolding_all rfl) ?_) | ((with_reducible first | refine w_addT ?_ ?_ | refine w_addL ?_ ?_ | refine w_mulI ?_ ?_ | refine w_mulT ?_ ?_ | refine w_mulL ?_ ?_ | refine w_mod ?_ ?_ | refine w_div ?_ ?_ | refine w_pow ?_ ?_ | refine w_rng ?_ ?_); (first | decide | omega | (refine ⟨?_, ?_⟩ <;> omega) | (refine ⟨?_, ?_, ?_⟩ <;> omega) | (simp only [List.length_cons, List.length_nil, List.length_append, List.length_reverse, BL.cD_len, BL.iD_len, BL.mkx_len, BL.sizeL]; omega) | (refine ⟨List.cons_ne_nil _ _, ?_⟩; simp only [List.length_cons, List.length_nil]; omega))) | ((with_reducible first | refine w_eqD ?_ ?_ ?_ | refine w_neD ?_ ?_ ?_ | refine w_inT ?_ ?_ ?_ | refine w_inL ?_ ?_ ?_); (first | rfl | with_unfolding_all rfl); (first | rfl | with_unfolding_all rfl)) | ((with_reducible refine ift_of ?_ ?_); (with_unfolding_all rfl)) | ((with_reducible refine iff_of ?_ ?_); (with_unfolding_all rfl)) | ((with_reducible refine ift2_of ?_ ?_); (with_unfolding_all rfl)) | ((with_reducible refine iff2_of ?_ ?_); (with_unfolding_all rfl)) | ((with_reducible refine ift_of ?_ ?_); exact decide_eq_true (by omega)) | ((with_reducible refine iff_of ?_ ?_); exact decide_eq_false (by omega)) | ((with_reducible refine ift2_of ?_ ?_); exact decide_eq_true (by omega)) | ((with_reducible refine iff2_of ?_ ?_); exact decide_eq_false (by omega)))
  refine w_forI (fun k S t' => (∃ x2 x3 x4 x5 x6, S = [.val (.tup (cD c)), .own (pairD ((List.range k).flatMap fun a => ((List.range' (a + 1) (c.length - (a + 1))).filter (BM.canc cmG c a)).map fun b => (a, b))), x2, x3, x4, x5, x6]) ∧ t' = t) (k := 0) ⟨⟨_, _, _, _, _, rfl⟩, rfl⟩ (fun a d hd S t' ⟨⟨x2, x3, x4, x5, x6, hS⟩, ht⟩ => ?_) fun S t' ⟨⟨x2, x3, x4, x5, x6, hS⟩, ht⟩ => ?_
  · subst hS ht
    rw [Nat.zero_add]
    obtain ⟨x, hx, rfl⟩ := enumD_get hd
    obtain ⟨i, hi, rfl, ha⟩ := cD_get hx
    have hi18 := hc i (List.mem_of_getElem? hi)
    refine ⟨_, rfl, ?_⟩
    repeat (first | (with_reducible refine w_itR2 ?_) | (with_reducible first | refine w_seq ?_ | refine w_asg ?_ | refine w_asgP ?_ | refine pr_i ?_ | refine w_eqI ?_ | refine w_neI ?_ | refine w_own ?_ | refine w_par ?_ | refine w_parO ?_ | refine w_expr ?_ | refine w_if ?_ | refine w_sret ?_ | refine w_nil ?_ | refine w_for ?_ | refine w_bin ?_ | refine w_un ?_ | refine w_tup ?_ | refine w_lst ?_ | refine w_call ?_ | refine w_and ?_ | refine w_or ?_ | refine w_ife ?_ | refine w_chain ?_ | refine w_slice ?_ | refine w_oN ?_ | refine w_oS ?_ | refine w_comp ?_ | refine w_itSeq ?_ | refine w_itR ?_ | refine w_evnil ?_ | refine w_evcons ?_ | refine w_evc1 ?_ | refine w_evc0 ?_ | refine w_c ?_ | refine nx_nx ?_ | refine nx_ret ?_ | refine bl_i ?_ | refine in_i ?_ | refine sq_t ?_ | refine sq_l ?_ | refine ls_l ?_ | refine tp_t ?_ | refine w_not ?_ | refine w_addI ?_ | refine w_sub ?_ | refine w_xor ?_ | refine w_ltI ?_ | refine w_leI ?_ | refine w_gtI ?_ | refine w_geI ?_ | refine w_slT ?_ | refine w_slL ?_ | refine w_lenT ?_ | refine w_lenL ?_ | refine w_lenS ?_ | refine w_tupL ?_ | refine w_tupT ?_ | refine w_lstL ?_ | refine w_lstT ?_ | refine w_neg ?_ | refine w_isn ?_ | refine w_isnn ?_ | refine w_begun ?_ | refine w_ret ?_ | refine w_resE ?_) | (with_reducible refine w_var (by with_unfolding_all rfl) ?_) | (with_reducible refine w_peekV (by with_unfolding_all rfl) ?_) | (with_reducible refine w_peekO (by with_unfolding_all rfl) ?_) | (with_reducible refine w_app (by with_unfolding_all rfl) ?_) | (with_reducible refine w_frz (by with_unfolding_all rfl) ?_) | (with_reducible refine w_scr (by with_unfolding_all rfl) ?_) | (with_reducible refine w_tc (by with_unfolding_all rfl) ?_) | (with_reducible refine w_stc (by with_unfolding_all rfl) ?_) | (with_reducible refine w_tr (by with_unfolding_all rfl) ?_) | (with_reducible refine w_str (by with_unfolding_all rfl) ?_) | (with_reducible refine w_idxT (by with_unfolding_all rfl) ?_) | (with_reducible refine w_idxL (by with_unfolding_all rfl) ?_) | (with_reducible refine w_isi (by with_unfolding_all rfl) ?_) | ((with_reducible first | refine w_addT ?_ ?_ | refine w_addL ?_ ?_ | refine w_mulI ?_ ?_ | refine w_mulT ?_ ?_ | refine w_mulL ?_ ?_ | refine w_mod ?_ ?_ | refine w_div ?_ ?_ | refine w_pow ?_ ?_ | refine w_rng ?_ ?_); (first | decide | omega | (refine ⟨?_, ?_⟩ <;> omega) | (refine ⟨?_, ?_, ?_⟩ <;> omega) | (simp only [List.length_cons, List.length_nil, List.length_append, List.length_reverse, BL.cD_len, BL.iD_len, BL.mkx_len, BL.sizeL]; omega) | (refine ⟨List.cons_ne_nil _ _, ?_⟩; simp only [List.length_cons, List.length_nil]; omega))) | ((with_reducible first | refine w_eqD ?_ ?_ ?_ | refine w_neD ?_ ?_ ?_ | refine w_inT ?_ ?_ ?_ | refine w_inL ?_ ?_ ?_); (first | rfl | with_unfolding_all rfl); (first | rfl | with_unfolding_all rfl)) | ((with_reducible refine ift_of ?_ ?_); (with_unfolding_all rfl)) | ((with_reducible refine iff_of ?_ ?_); (with_unfolding_all rfl)) | ((with_reducible refine ift2_of ?_ ?_); (with_unfolding_all rfl)) | ((with_reducible refine iff2_of ?_ ?_); (with_unfolding_all rfl)) | ((with_reducible refine ift_of ?_ ?_); exact decide_eq_true (by omega)) | ((with_reducible refine iff_of ?_ ?_); exact decide_eq_false (by omega)) | ((with_reducible refine ift2_of ?_ ?_); exact decide_eq_true (by omega)) | ((with_reducible refine iff2_of ?_ ?_); exact decide_eq_false (by omega)))
    refine ⟨by omega, ?_⟩
    rw [show ((a : Int) + 1).toNat = a + 1 by omega, show (((cD c).length : Nat) : Int).toNat = c.length by omega]
    generalize hacc : (List.range a).flatMap (fun a => ((List.range' (a + 1) (c.length - (a + 1))).filter (BM.canc cmG c a)).map fun b => (a, b)) = acc
    refine w_forI (fun k S t2 => (∃ x4 x5 x6, S = [.val (.tup (cD c)), .own (pairD (acc ++ ((List.range' (a + 1) k).filter (BM.canc cmG c a)).map fun b => (a, b))), .val (.int (a : Int)), .val (gk i), x4, x5, x6]) ∧ t2 = t') (k := 0) ⟨⟨x4, x5, x6, by simp⟩, rfl⟩ (fun k d hd S t2 ⟨⟨x4, x5, x6, hS⟩, ht⟩ => ?_) fun S t2 ⟨⟨x4, x5, x6, hS⟩, ht⟩ => ?_
    · subst hS ht
      rw [Nat.zero_add]
      have hk : k < c.length - (a + 1) ∧ d = .int ((a + 1 + k : Nat) : Int) := by
        unfold iD at hd
        rw [List.getElem?_map] at hd
        by_cases h : k < c.length - (a + 1)
        · rw [List.getElem?_range' h] at hd; cases hd; exact ⟨h, by rw [Nat.one_mul]⟩
        · rw [List.getElem?_eq_none (by rw [List.length_range']; omega)] at hd; cases hd
      obtain ⟨hk1, rfl⟩ := hk
      refine ⟨_, rfl, ?_⟩
      have hb : a + 1 + k < c.length := by omega
      have hj : c[a + 1 + k]? = some c[a + 1 + k] := List.getElem?_eq_getElem hb
      have hj18 := hc _ (List.getElem_mem hb)
      have ecut : cutD (cD c) (some ((a : Int) + 1)) (some ((a + 1 + k : Nat) : Int)) = cD ((c.drop (a + 1)).take k) := by
        have := cutD_mid (c := c) (a := a + 1) (b := a + 1 + k) (by omega) (by omega)
        rw [show a + 1 + k - (a + 1) = k by omega] at this
        exact this
      have hG : Gs ((c.drop (a + 1)).take k) := (hc.drop _).take _
      have ecanc : BM.canc cmG c a (a + 1 + k) = (decide (c[a + 1 + k] = i) && ((c.drop (a + 1)).take k).all fun x => cmG i x) := by
        unfold BM.canc
        rw [hj, hi, show a + 1 + k - (a + 1) = k by omega, List.getD_eq_getElem?_getD, hi]
        congr 1
        simp
      have hlen : (pairD (acc ++ ((List.range' (a + 1) k).filter (BM.canc cmG c a)).map fun b => (a, b))).length ≤ 1001000 + acc.length := by
        unfold pairD
        rw [List.length_map, List.length_append, List.length_map]
        have := List.length_filter_le (BM.canc cmG c a) (List.range' (a + 1) k)
        rw [List.length_range'] at this
        omega
      have hacl : acc.length ≤ a * 1000 := by
        rw [← hacc, List.length_flatMap]
        have : ∀ n, (((List.range n).map fun a => (((List.range' (a + 1) (c.length - (a + 1))).filter (BM.canc cmG c a)).map fun b => (a, b)).length).sum) ≤ n * 1000 := by
          intro n
          induction n with
          | zero => simp
          | succ n ih =>
            rw [List.range_succ, List.map_append, List.sum_append]
            have h1 := List.length_filter_le (BM.canc cmG c n) (List.range' (n + 1) (c.length - (n + 1)))
            rw [List.length_range'] at h1
            simp only [List.map_cons, List.map_nil, List.sum_cons, List.sum_nil, List.length_map] at ih ⊢
            omega
        have q := this a
        simpa using q
      repeat (first | (with_reducible first | refine w_seq ?_ | refine w_asg ?_ | refine w_asgP ?_ | refine pr_i ?_ | refine w_eqI ?_ | refine w_neI ?_ | refine w_own ?_ | refine w_par ?_ | refine w_parO ?_ | refine w_expr ?_ | refine w_if ?_ | refine w_sret ?_ | refine w_nil ?_ | refine w_for ?_ | refine w_bin ?_ | refine w_un ?_ | refine w_tup ?_ | refine w_lst ?_ | refine w_call ?_ | refine w_and ?_ | refine w_or ?_ | refine w_ife ?_ | refine w_chain ?_ | refine w_slice ?_ | refine w_oN ?_ | refine w_oS ?_ | refine w_comp ?_ | refine w_itSeq ?_ | refine w_itR ?_ | refine w_evnil ?_ | refine w_evcons ?_ | refine w_evc1 ?_ | refine w_evc0 ?_ | refine w_c ?_ | refine nx_nx ?_ | refine nx_ret ?_ | refine bl_i ?_ | refine in_i ?_ | refine sq_t ?_ | refine sq_l ?_ | refine ls_l ?_ | refine tp_t ?_ | refine w_not ?_ | refine w_addI ?_ | refine w_sub ?_ | refine w_xor ?_ | refine w_ltI ?_ | refine w_leI ?_ | refine w_gtI ?_ | refine w_geI ?_ | refine w_slT ?_ | refine w_slL ?_ | refine w_lenT ?_ | refine w_lenL ?_ | refine w_lenS ?_ | refine w_tupL ?_ | refine w_tupT ?_ | refine w_lstL ?_ | refine w_lstT ?_ | refine w_neg ?_ | refine w_isn ?_ | refine w_isnn ?_ | refine w_begun ?_ | refine w_ret ?_ | refine w_resE ?_) | (with_reducible refine w_var (by with_unfolding_all rfl) ?_) | (with_reducible refine w_peekV (by with_unfolding_all rfl) ?_) | (with_reducible refine w_peekO (by with_unfolding_all rfl) ?_) | (with_reducible refine w_app (by with_unfolding_all rfl) ?_) | (with_reducible refine w_frz (by with_unfolding_all rfl) ?_) | (with_reducible refine w_scr (by with_unfolding_all rfl) ?_) | (with_reducible refine w_tc (by with_unfolding_all rfl) ?_) | (with_reducible refine w_stc (by with_unfolding_all rfl) ?_) | (with_reducible refine w_tr (by with_unfolding_all rfl) ?_) | (with_reducible refine w_str (by with_unfolding_all rfl) ?_) | (with_reducible refine w_idxT (by with_unfolding_all rfl) ?_) | (with_reducible refine w_idxL (by with_unfolding_all rfl) ?_) | (with_reducible refine w_isi (by with_unfolding_all rfl) ?_) | ((with_reducible first | refine w_addT ?_ ?_ | refine w_addL ?_ ?_ | refine w_mulI ?_ ?_ | refine w_mulT ?_ ?_ | refine w_mulL ?_ ?_ | refine w_mod ?_ ?_ | refine w_div ?_ ?_ | refine w_pow ?_ ?_ | refine w_rng ?_ ?_); (first | decide | omega | (refine ⟨?_, ?_⟩ <;> omega) | (refine ⟨?_, ?_, ?_⟩ <;> omega) | (simp only [List.length_cons, List.length_nil, List.length_append, List.length_reverse, BL.cD_len, BL.iD_len, BL.mkx_len, BL.sizeL]; omega) | (refine ⟨List.cons_ne_nil _ _, ?_⟩; simp only [List.length_cons, List.length_nil]; omega))) | ((with_reducible first | refine w_eqD ?_ ?_ ?_ | refine w_neD ?_ ?_ ?_ | refine w_inT ?_ ?_ ?_ | refine w_inL ?_ ?_ ?_); (first | rfl | with_unfolding_all rfl); (first | rfl | with_unfolding_all rfl)) | ((with_reducible refine ift_of ?_ ?_); (with_unfolding_all rfl)) | ((with_reducible refine iff_of ?_ ?_); (with_unfolding_all rfl)) | ((with_reducible refine ift2_of ?_ ?_); (with_unfolding_all rfl)) | ((with_reducible refine iff2_of ?_ ?_); (with_unfolding_all rfl)) | ((with_reducible refine ift_of ?_ ?_); exact decide_eq_true (by omega)) | ((with_reducible refine iff_of ?_ ?_); exact decide_eq_false (by omega)) | ((with_reducible refine ift2_of ?_ ?_); exact decide_eq_true (by omega)) | ((with_reducible refine iff2_of ?_ ?_); exact decide_eq_false (by omega)))
      rw [ecut]
      repeat (first | (with_reducible refine w_idxT (cD_idx hj) ?_) | (with_reducible refine w_eqG hj18 hi18 ?_) | (with_reducible first | refine w_seq ?_ | refine w_asg ?_ | refine w_asgP ?_ | refine pr_i ?_ | refine w_eqI ?_ | refine w_neI ?_ | refine w_own ?_ | refine w_par ?_ | refine w_parO ?_ | refine w_expr ?_ | refine w_if ?_ | refine w_sret ?_ | refine w_nil ?_ | refine w_for ?_ | refine w_bin ?_ | refine w_un ?_ | refine w_tup ?_ | refine w_lst ?_ | refine w_call ?_ | refine w_and ?_ | refine w_or ?_ | refine w_ife ?_ | refine w_chain ?_ | refine w_slice ?_ | refine w_oN ?_ | refine w_oS ?_ | refine w_comp ?_ | refine w_itSeq ?_ | refine w_itR ?_ | refine w_evnil ?_ | refine w_evcons ?_ | refine w_evc1 ?_ | refine w_evc0 ?_ | refine w_c ?_ | refine nx_nx ?_ | refine nx_ret ?_ | refine bl_i ?_ | refine in_i ?_ | refine sq_t ?_ | refine sq_l ?_ | refine ls_l ?_ | refine tp_t ?_ | refine w_not ?_ | refine w_addI ?_ | refine w_sub ?_ | refine w_xor ?_ | refine w_ltI ?_ | refine w_leI ?_ | refine w_gtI ?_ | refine w_geI ?_ | refine w_slT ?_ | refine w_slL ?_ | refine w_lenT ?_ | refine w_lenL ?_ | refine w_lenS ?_ | refine w_tupL ?_ | refine w_tupT ?_ | refine w_lstL ?_ | refine w_lstT ?_ | refine w_neg ?_ | refine w_isn ?_ | refine w_isnn ?_ | refine w_begun ?_ | refine w_ret ?_ | refine w_resE ?_) | (with_reducible refine w_var (by with_unfolding_all rfl) ?_) | (with_reducible refine w_peekV (by with_unfolding_all rfl) ?_) | (with_reducible refine w_peekO (by with_unfolding_all rfl) ?_) | (with_reducible refine w_app (by with_unfolding_all rfl) ?_) | (with_reducible refine w_frz (by with_unfolding_all rfl) ?_) | (with_reducible refine w_scr (by with_unfolding_all rfl) ?_) | (with_reducible refine w_tc (by with_unfolding_all rfl) ?_) | (with_reducible refine w_stc (by with_unfolding_all rfl) ?_) | (with_reducible refine w_tr (by with_unfolding_all rfl) ?_) | (with_reducible refine w_str (by with_unfolding_all rfl) ?_) | (with_reducible refine w_idxT (by with_unfolding_all rfl) ?_) | (with_reducible refine w_idxL (by with_unfolding_all rfl) ?_) | (with_reducible refine w_isi (by with_unfolding_all rfl) ?_) | ((with_reducible first | refine w_addT ?_ ?_ | refine w_addL ?_ ?_ | refine w_mulI ?_ ?_ | refine w_mulT ?_ ?_ | refine w_mulL ?_ ?_ | refine w_mod ?_ ?_ | refine w_div ?_ ?_ | refine w_pow ?_ ?_ | refine w_rng ?_ ?_); (first | decide | omega | (refine ⟨?_, ?_⟩ <;> omega) | (refine ⟨?_, ?_, ?_⟩ <;> omega) | (simp only [List.length_cons, List.length_nil, List.length_append, List.length_reverse, BL.cD_len, BL.iD_len, BL.mkx_len, BL.sizeL]; omega) | (refine ⟨List.cons_ne_nil _ _, ?_⟩; simp only [List.length_cons, List.length_nil]; omega))) | ((with_reducible first | refine w_eqD ?_ ?_ ?_ | refine w_neD ?_ ?_ ?_ | refine w_inT ?_ ?_ ?_ | refine w_inL ?_ ?_ ?_); (first | rfl | with_unfolding_all rfl); (first | rfl | with_unfolding_all rfl)) | ((with_reducible refine ift_of ?_ ?_); (with_unfolding_all rfl)) | ((with_reducible refine iff_of ?_ ?_); (with_unfolding_all rfl)) | ((with_reducible refine ift2_of ?_ ?_); (with_unfolding_all rfl)) | ((with_reducible refine iff2_of ?_ ?_); (with_unfolding_all rfl)) | ((with_reducible refine ift_of ?_ ?_); exact decide_eq_true (by omega)) | ((with_reducible refine iff_of ?_ ?_); exact decide_eq_false (by omega)) | ((with_reducible refine ift2_of ?_ ?_); exact decide_eq_true (by omega)) | ((with_reducible refine iff2_of ?_ ?_); exact decide_eq_false (by omega)))
      refine ⟨fun e => ?_, fun e => ?_⟩
      · have e := of_decide_eq_true e
        refine w_between hi18 hG rfl rfl (by rw [List.length_take, List.length_drop]; omega) (by simp) ?_
        repeat (first | (with_reducible first | refine w_seq ?_ | refine w_asg ?_ | refine w_asgP ?_ | refine pr_i ?_ | refine w_eqI ?_ | refine w_neI ?_ | refine w_own ?_ | refine w_par ?_ | refine w_parO ?_ | refine w_expr ?_ | refine w_if ?_ | refine w_sret ?_ | refine w_nil ?_ | refine w_for ?_ | refine w_bin ?_ | refine w_un ?_ | refine w_tup ?_ | refine w_lst ?_ | refine w_call ?_ | refine w_and ?_ | refine w_or ?_ | refine w_ife ?_ | refine w_chain ?_ | refine w_slice ?_ | refine w_oN ?_ | refine w_oS ?_ | refine w_comp ?_ | refine w_itSeq ?_ | refine w_itR ?_ | refine w_evnil ?_ | refine w_evcons ?_ | refine w_evc1 ?_ | refine w_evc0 ?_ | refine w_c ?_ | refine nx_nx ?_ | refine nx_ret ?_ | refine bl_i ?_ | refine in_i ?_ | refine sq_t ?_ | refine sq_l ?_ | refine ls_l ?_ | refine tp_t ?_ | refine w_not ?_ | refine w_addI ?_ | refine w_sub ?_ | refine w_xor ?_ | refine w_ltI ?_ | refine w_leI ?_ | refine w_gtI ?_ | refine w_geI ?_ | refine w_slT ?_ | refine w_slL ?_ | refine w_lenT ?_ | refine w_lenL ?_ | refine w_lenS ?_ | refine w_tupL ?_ | refine w_tupT ?_ | refine w_lstL ?_ | refine w_lstT ?_ | refine w_neg ?_ | refine w_isn ?_ | refine w_isnn ?_ | refine w_begun ?_ | refine w_ret ?_ | refine w_resE ?_) | (with_reducible refine w_var (by with_unfolding_all rfl) ?_) | (with_reducible refine w_peekV (by with_unfolding_all rfl) ?_) | (with_reducible refine w_peekO (by with_unfolding_all rfl) ?_) | (with_reducible refine w_app (by with_unfolding_all rfl) ?_) | (with_reducible refine w_frz (by with_unfolding_all rfl) ?_) | (with_reducible refine w_scr (by with_unfolding_all rfl) ?_) | (with_reducible refine w_tc (by with_unfolding_all rfl) ?_) | (with_reducible refine w_stc (by with_unfolding_all rfl) ?_) | (with_reducible refine w_tr (by with_unfolding_all rfl) ?_) | (with_reducible refine w_str (by with_unfolding_all rfl) ?_) | (with_reducible refine w_idxT (by with_unfolding_all rfl) ?_) | (with_reducible refine w_idxL (by with_unfolding_all rfl) ?_) | (with_reducible refine w_isi (by with_unfolding_all rfl) ?_) | ((with_reducible first | refine w_addT ?_ ?_ | refine w_addL ?_ ?_ | refine w_mulI ?_ ?_ | refine w_mulT ?_ ?_ | refine w_mulL ?_ ?_ | refine w_mod ?_ ?_ | refine w_div ?_ ?_ | refine w_pow ?_ ?_ | refine w_rng ?_ ?_); (first | decide | omega | (refine ⟨?_, ?_⟩ <;> omega) | (refine ⟨?_, ?_, ?_⟩ <;> omega) | (simp only [List.length_cons, List.length_nil, List.length_append, List.length_reverse, BL.cD_len, BL.iD_len, BL.mkx_len, BL.sizeL]; omega) | (refine ⟨List.cons_ne_nil _ _, ?_⟩; simp only [List.length_cons, List.length_nil]; omega))) | ((with_reducible first | refine w_eqD ?_ ?_ ?_ | refine w_neD ?_ ?_ ?_ | refine w_inT ?_ ?_ ?_ | refine w_inL ?_ ?_ ?_); (first | rfl | with_unfolding_all rfl); (first | rfl | with_unfolding_all rfl)) | ((with_reducible refine ift_of ?_ ?_); (with_unfolding_all rfl)) | ((with_reducible refine iff_of ?_ ?_); (with_unfolding_all rfl)) | ((with_reducible refine ift2_of ?_ ?_); (with_unfolding_all rfl)) | ((with_reducible refine iff2_of ?_ ?_); (with_unfolding_all rfl)) | ((with_reducible refine ift_of ?_ ?_); exact decide_eq_true (by omega)) | ((with_reducible refine iff_of ?_ ?_); exact decide_eq_false (by omega)) | ((with_reducible refine ift2_of ?_ ?_); exact decide_eq_true (by omega)) | ((with_reducible refine iff2_of ?_ ?_); exact decide_eq_false (by omega)))
        refine ⟨fun e2 => ?_, fun e2 => ?_⟩
        · repeat (first | (with_reducible first | refine w_seq ?_ | refine w_asg ?_ | refine w_asgP ?_ | refine pr_i ?_ | refine w_eqI ?_ | refine w_neI ?_ | refine w_own ?_ | refine w_par ?_ | refine w_parO ?_ | refine w_expr ?_ | refine w_if ?_ | refine w_sret ?_ | refine w_nil ?_ | refine w_for ?_ | refine w_bin ?_ | refine w_un ?_ | refine w_tup ?_ | refine w_lst ?_ | refine w_call ?_ | refine w_and ?_ | refine w_or ?_ | refine w_ife ?_ | refine w_chain ?_ | refine w_slice ?_ | refine w_oN ?_ | refine w_oS ?_ | refine w_comp ?_ | refine w_itSeq ?_ | refine w_itR ?_ | refine w_evnil ?_ | refine w_evcons ?_ | refine w_evc1 ?_ | refine w_evc0 ?_ | refine w_c ?_ | refine nx_nx ?_ | refine nx_ret ?_ | refine bl_i ?_ | refine in_i ?_ | refine sq_t ?_ | refine sq_l ?_ | refine ls_l ?_ | refine tp_t ?_ | refine w_not ?_ | refine w_addI ?_ | refine w_sub ?_ | refine w_xor ?_ | refine w_ltI ?_ | refine w_leI ?_ | refine w_gtI ?_ | refine w_geI ?_ | refine w_slT ?_ | refine w_slL ?_ | refine w_lenT ?_ | refine w_lenL ?_ | refine w_lenS ?_ | refine w_tupL ?_ | refine w_tupT ?_ | refine w_lstL ?_ | refine w_lstT ?_ | refine w_neg ?_ | refine w_isn ?_ | refine w_isnn ?_ | refine w_begun ?_ | refine w_ret ?_ | refine w_resE ?_) | (with_reducible refine w_var (by with_unfolding_all rfl) ?_) | (with_reducible refine w_peekV (by with_unfolding_all rfl) ?_) | (with_reducible refine w_peekO (by with_unfolding_all rfl) ?_) | (with_reducible refine w_app (by with_unfolding_all rfl) ?_) | (with_reducible refine w_frz (by with_unfolding_all rfl) ?_) | (with_reducible refine w_scr (by with_unfolding_all rfl) ?_) | (with_reducible refine w_tc (by with_unfolding_all rfl) ?_) | (with_reducible refine w_stc (by with_unfolding_all rfl) ?_) | (with_reducible refine w_tr (by with_unfolding_all rfl) ?_) | (with_reducible refine w_str (by with_unfolding_all rfl) ?_) | (with_reducible refine w_idxT (by with_unfolding_all rfl) ?_) | (with_reducible refine w_idxL (by with_unfolding_all rfl) ?_) | (with_reducible refine w_isi (by with_unfolding_all rfl) ?_) | ((with_reducible first | refine w_addT ?_ ?_ | refine w_addL ?_ ?_ | refine w_mulI ?_ ?_ | refine w_mulT ?_ ?_ | refine w_mulL ?_ ?_ | refine w_mod ?_ ?_ | refine w_div ?_ ?_ | refine w_pow ?_ ?_ | refine w_rng ?_ ?_); (first | decide | omega | (refine ⟨?_, ?_⟩ <;> omega) | (refine ⟨?_, ?_, ?_⟩ <;> omega) | (simp only [List.length_cons, List.length_nil, List.length_append, List.length_reverse, BL.cD_len, BL.iD_len, BL.mkx_len, BL.sizeL]; omega) | (refine ⟨List.cons_ne_nil _ _, ?_⟩; simp only [List.length_cons, List.length_nil]; omega))) | ((with_reducible first | refine w_eqD ?_ ?_ ?_ | refine w_neD ?_ ?_ ?_ | refine w_inT ?_ ?_ ?_ | refine w_inL ?_ ?_ ?_); (first | rfl | with_unfolding_all rfl); (first | rfl | with_unfolding_all rfl)) | ((with_reducible refine ift_of ?_ ?_); (with_unfolding_all rfl)) | ((with_reducible refine iff_of ?_ ?_); (with_unfolding_all rfl)) | ((with_reducible refine ift2_of ?_ ?_); (with_unfolding_all rfl)) | ((with_reducible refine iff2_of ?_ ?_); (with_unfolding_all rfl)) | ((with_reducible refine ift_of ?_ ?_); exact decide_eq_true (by omega)) | ((with_reducible refine iff_of ?_ ?_); exact decide_eq_false (by omega)) | ((with_reducible refine ift2_of ?_ ?_); exact decide_eq_true (by omega)) | ((with_reducible refine iff2_of ?_ ?_); exact decide_eq_false (by omega)))
          refine ⟨by omega, ⟨.val (.int ((a + 1 + k : Nat) : Int)), .val (.tup (cD ((c.drop (a + 1)).take k))), x6, ?_⟩, rfl⟩
          have ec : BM.canc cmG c a (a + 1 + k) = true := by rw [ecanc, e2, decide_eq_true e]; rfl
          rw [List.range'_concat, List.filter_append, List.map_append, Nat.one_mul, List.filter_cons, if_pos ec]
          unfold pairD
          rw [← List.append_assoc, List.map_append (l₁ := acc ++ _)]
          rfl
        · repeat (first | (with_reducible first | refine w_seq ?_ | refine w_asg ?_ | refine w_asgP ?_ | refine pr_i ?_ | refine w_eqI ?_ | refine w_neI ?_ | refine w_own ?_ | refine w_par ?_ | refine w_parO ?_ | refine w_expr ?_ | refine w_if ?_ | refine w_sret ?_ | refine w_nil ?_ | refine w_for ?_ | refine w_bin ?_ | refine w_un ?_ | refine w_tup ?_ | refine w_lst ?_ | refine w_call ?_ | refine w_and ?_ | refine w_or ?_ | refine w_ife ?_ | refine w_chain ?_ | refine w_slice ?_ | refine w_oN ?_ | refine w_oS ?_ | refine w_comp ?_ | refine w_itSeq ?_ | refine w_itR ?_ | refine w_evnil ?_ | refine w_evcons ?_ | refine w_evc1 ?_ | refine w_evc0 ?_ | refine w_c ?_ | refine nx_nx ?_ | refine nx_ret ?_ | refine bl_i ?_ | refine in_i ?_ | refine sq_t ?_ | refine sq_l ?_ | refine ls_l ?_ | refine tp_t ?_ | refine w_not ?_ | refine w_addI ?_ | refine w_sub ?_ | refine w_xor ?_ | refine w_ltI ?_ | refine w_leI ?_ | refine w_gtI ?_ | refine w_geI ?_ | refine w_slT ?_ | refine w_slL ?_ | refine w_lenT ?_ | refine w_lenL ?_ | refine w_lenS ?_ | refine w_tupL ?_ | refine w_tupT ?_ | refine w_lstL ?_ | refine w_lstT ?_ | refine w_neg ?_ | refine w_isn ?_ | refine w_isnn ?_ | refine w_begun ?_ | refine w_ret ?_ | refine w_resE ?_) | (with_reducible refine w_var (by with_unfolding_all rfl) ?_) | (with_reducible refine w_peekV (by with_unfolding_all rfl) ?_) | (with_reducible refine w_peekO (by with_unfolding_all rfl) ?_) | (with_reducible refine w_app (by with_unfolding_all rfl) ?_) | (with_reducible refine w_frz (by with_unfolding_all rfl) ?_) | (with_reducible refine w_scr (by with_unfolding_all rfl) ?_) | (with_reducible refine w_tc (by with_unfolding_all rfl) ?_) | (with_reducible refine w_stc (by with_unfolding_all rfl) ?_) | (with_reducible refine w_tr (by with_unfolding_all rfl) ?_) | (with_reducible refine w_str (by with_unfolding_all rfl) ?_) | (with_reducible refine w_idxT (by with_unfolding_all rfl) ?_) | (with_reducible refine w_idxL (by with_unfolding_all rfl) ?_) | (with_reducible refine w_isi (by with_unfolding_all rfl) ?_) | ((with_reducible first | refine w_addT ?_ ?_ | refine w_addL ?_ ?_ | refine w_mulI ?_ ?_ | refine w_mulT ?_ ?_ | refine w_mulL ?_ ?_ | refine w_mod ?_ ?_ | refine w_div ?_ ?_ | refine w_pow ?_ ?_ | refine w_rng ?_ ?_); (first | decide | omega | (refine ⟨?_, ?_⟩ <;> omega) | (refine ⟨?_, ?_, ?_⟩ <;> omega) | (simp only [List.length_cons, List.length_nil, List.length_append, List.length_reverse, BL.cD_len, BL.iD_len, BL.mkx_len, BL.sizeL]; omega) | (refine ⟨List.cons_ne_nil _ _, ?_⟩; simp only [List.length_cons, List.length_nil]; omega))) | ((with_reducible first | refine w_eqD ?_ ?_ ?_ | refine w_neD ?_ ?_ ?_ | refine w_inT ?_ ?_ ?_ | refine w_inL ?_ ?_ ?_); (first | rfl | with_unfolding_all rfl); (first | rfl | with_unfolding_all rfl)) | ((with_reducible refine ift_of ?_ ?_); (with_unfolding_all rfl)) | ((with_reducible refine iff_of ?_ ?_); (with_unfolding_all rfl)) | ((with_reducible refine ift2_of ?_ ?_); (with_unfolding_all rfl)) | ((with_reducible refine iff2_of ?_ ?_); (with_unfolding_all rfl)) | ((with_reducible refine ift_of ?_ ?_); exact decide_eq_true (by omega)) | ((with_reducible refine iff_of ?_ ?_); exact decide_eq_false (by omega)) | ((with_reducible refine ift2_of ?_ ?_); exact decide_eq_true (by omega)) | ((with_reducible refine iff2_of ?_ ?_); exact decide_eq_false (by omega)))
          refine ⟨⟨.val (.int ((a + 1 + k : Nat) : Int)), .val (.tup (cD ((c.drop (a + 1)).take k))), x6, ?_⟩, rfl⟩
          have ec : BM.canc cmG c a (a + 1 + k) = false := by rw [ecanc, e2, Bool.and_false]
          rw [List.range'_concat, List.filter_append, List.map_append, Nat.one_mul, List.filter_cons, if_neg (by rw [ec]; decide)]
          simp
      · have e := of_decide_eq_false e
        repeat (first | (with_reducible first | refine w_seq ?_ | refine w_asg ?_ | refine w_asgP ?_ | refine pr_i ?_ | refine w_eqI ?_ | refine w_neI ?_ | refine w_own ?_ | refine w_par ?_ | refine w_parO ?_ | refine w_expr ?_ | refine w_if ?_ | refine w_sret ?_ | refine w_nil ?_ | refine w_for ?_ | refine w_bin ?_ | refine w_un ?_ | refine w_tup ?_ | refine w_lst ?_ | refine w_call ?_ | refine w_and ?_ | refine w_or ?_ | refine w_ife ?_ | refine w_chain ?_ | refine w_slice ?_ | refine w_oN ?_ | refine w_oS ?_ | refine w_comp ?_ | refine w_itSeq ?_ | refine w_itR ?_ | refine w_evnil ?_ | refine w_evcons ?_ | refine w_evc1 ?_ | refine w_evc0 ?_ | refine w_c ?_ | refine nx_nx ?_ | refine nx_ret ?_ | refine bl_i ?_ | refine in_i ?_ | refine sq_t ?_ | refine sq_l ?_ | refine ls_l ?_ | refine tp_t ?_ | refine w_not ?_ | refine w_addI ?_ | refine w_sub ?_ | refine w_xor ?_ | refine w_ltI ?_ | refine w_leI ?_ | refine w_gtI ?_ | refine w_geI ?_ | refine w_slT ?_ | refine w_slL ?_ | refine w_lenT ?_ | refine w_lenL ?_ | refine w_lenS ?_ | refine w_tupL ?_ | refine w_tupT ?_ | refine w_lstL ?_ | refine w_lstT ?_ | refine w_neg ?_ | refine w_isn ?_ | refine w_isnn ?_ | refine w_begun ?_ | refine w_ret ?_ | refine w_resE ?_) | (with_reducible refine w_var (by with_unfolding_all rfl) ?_) | (with_reducible refine w_peekV (by with_unfolding_all rfl) ?_) | (with_reducible refine w_peekO (by with_unfolding_all rfl) ?_) | (with_reducible refine w_app (by with_unfolding_all rfl) ?_) | (with_reducible refine w_frz (by with_unfolding_all rfl) ?_) | (with_reducible refine w_scr (by with_unfolding_all rfl) ?_) | (with_reducible refine w_tc (by with_unfolding_all rfl) ?_) | (with_reducible refine w_stc (by with_unfolding_all rfl) ?_) | (with_reducible refine w_tr (by with_unfolding_all rfl) ?_) | (with_reducible refine w_str (by with_unfolding_all rfl) ?_) | (with_reducible refine w_idxT (by with_unfolding_all rfl) ?_) | (with_reducible refine w_idxL (by with_unfolding_all rfl) ?_) | (with_reducible refine w_isi (by with_unfolding_all rfl) ?_) | ((with_reducible first | refine w_addT ?_ ?_ | refine w_addL ?_ ?_ | refine w_mulI ?_ ?_ | refine w_mulT ?_ ?_ | refine w_mulL ?_ ?_ | refine w_mod ?_ ?_ | refine w_div ?_ ?_ | refine w_pow ?_ ?_ | refine w_rng ?_ ?_); (first | decide | omega | (refine ⟨?_, ?_⟩ <;> omega) | (refine ⟨?_, ?_, ?_⟩ <;> omega) | (simp only [List.length_cons, List.length_nil, List.length_append, List.length_reverse, BL.cD_len, BL.iD_len, BL.mkx_len, BL.sizeL]; omega) | (refine ⟨List.cons_ne_nil _ _, ?_⟩; simp only [List.length_cons, List.length_nil]; omega))) | ((with_reducible first | refine w_eqD ?_ ?_ ?_ | refine w_neD ?_ ?_ ?_ | refine w_inT ?_ ?_ ?_ | refine w_inL ?_ ?_ ?_); (first | rfl | with_unfolding_all rfl); (first | rfl | with_unfolding_all rfl)) | ((with_reducible refine ift_of ?_ ?_); (with_unfolding_all rfl)) | ((with_reducible refine iff_of ?_ ?_); (with_unfolding_all rfl)) | ((with_reducible refine ift2_of ?_ ?_); (with_unfolding_all rfl)) | ((with_reducible refine iff2_of ?_ ?_); (with_unfolding_all rfl)) | ((with_reducible refine ift_of ?_ ?_); exact decide_eq_true (by omega)) | ((with_reducible refine iff_of ?_ ?_); exact decide_eq_false (by omega)) | ((with_reducible refine ift2_of ?_ ?_); exact decide_eq_true (by omega)) | ((with_reducible refine iff2_of ?_ ?_); exact decide_eq_false (by omega)))
        refine ⟨⟨.val (.int ((a + 1 + k : Nat) : Int)), .val (.tup (cD ((c.drop (a + 1)).take k))), x6, ?_⟩, rfl⟩
        have ec : BM.canc cmG c a (a + 1 + k) = false := by rw [ecanc, decide_eq_false e, Bool.false_and]
        rw [List.range'_concat, List.filter_append, List.map_append, Nat.one_mul, List.filter_cons, if_neg (by rw [ec]; decide)]
        simp
    · subst hS ht
      refine nx_nx ⟨⟨.val (.int (a : Int)), .val (gk i), x4, x5, x6, ?_⟩, rfl⟩
      rw [iD_len, List.length_range', Nat.zero_add, List.range_succ, List.flatMap_append, hacc]
      simp
  · subst hS ht
    rw [enumD_len, cD_len, Nat.zero_add]
    repeat (first | (with_reducible first | refine w_seq ?_ | refine w_asg ?_ | refine w_asgP ?_ | refine pr_i ?_ | refine w_eqI ?_ | refine w_neI ?_ | refine w_own ?_ | refine w_par ?_ | refine w_parO ?_ | refine w_expr ?_ | refine w_if ?_ | refine w_sret ?_ | refine w_nil ?_ | refine w_for ?_ | refine w_bin ?_ | refine w_un ?_ | refine w_tup ?_ | refine w_lst ?_ | refine w_call ?_ | refine w_and ?_ | refine w_or ?_ | refine w_ife ?_ | refine w_chain ?_ | refine w_slice ?_ | refine w_oN ?_ | refine w_oS ?_ | refine w_comp ?_ | refine w_itSeq ?_ | refine w_itR ?_ | refine w_evnil ?_ | refine w_evcons ?_ | refine w_evc1 ?_ | refine w_evc0 ?_ | refine w_c ?_ | refine nx_nx ?_ | refine nx_ret ?_ | refine bl_i ?_ | refine in_i ?_ | refine sq_t ?_ | refine sq_l ?_ | refine ls_l ?_ | refine tp_t ?_ | refine w_not ?_ | refine w_addI ?_ | refine w_sub ?_ | refine w_xor ?_ | refine w_ltI ?_ | refine w_leI ?_ | refine w_gtI ?_ | refine w_geI ?_ | refine w_slT ?_ | refine w_slL ?_ | refine w_lenT ?_ | refine w_lenL ?_ | refine w_lenS ?_ | refine w_tupL ?_ | refine w_tupT ?_ | refine w_lstL ?_ | refine w_lstT ?_ | refine w_neg ?_ | refine w_isn ?_ | refine w_isnn ?_ | refine w_begun ?_ | refine w_ret ?_ | refine w_resE ?_) | (with_reducible refine w_var (by with_unfolding_all rfl) ?_) | (with_reducible refine w_peekV (by with_unfolding_all rfl) ?_) | (with_reducible refine w_peekO (by with_unfolding_all rfl) ?_) | (with_reducible refine w_app (by with_unfolding_all rfl) ?_) | (with_reducible refine w_frz (by with_unfolding_all rfl) ?_) | (with_reducible refine w_scr (by with_unfolding_all rfl) ?_) | (with_reducible refine w_tc (by with_unfolding_all rfl) ?_) | (with_reducible refine w_stc (by with_unfolding_all rfl) ?_) | (with_reducible refine w_tr (by with_unfolding_all rfl) ?_) | (with_reducible refine w_str (by with_unfolding_all rfl) ?_) | (with_reducible refine w_idxT (by with_unfolding_all rfl) ?_) | (with_reducible refine w_idxL (by with_unfolding_all rfl) ?_) | (with_reducible refine w_isi (by with_unfolding_all rfl) ?_) | ((with_reducible first | refine w_addT ?_ ?_ | refine w_addL ?_ ?_ | refine w_mulI ?_ ?_ | refine w_mulT ?_ ?_ | refine w_mulL ?_ ?_ | refine w_mod ?_ ?_ | refine w_div ?_ ?_ | refine w_pow ?_ ?_ | refine w_rng ?_ ?_); (first | decide | omega | (refine ⟨?_, ?_⟩ <;> omega) | (refine ⟨?_, ?_, ?_⟩ <;> omega) | (simp only [List.length_cons, List.length_nil, List.length_append, List.length_reverse, BL.cD_len, BL.iD_len, BL.mkx_len, BL.sizeL]; omega) | (refine ⟨List.cons_ne_nil _ _, ?_⟩; simp only [List.length_cons, List.length_nil]; omega))) | ((with_reducible first | refine w_eqD ?_ ?_ ?_ | refine w_neD ?_ ?_ ?_ | refine w_inT ?_ ?_ ?_ | refine w_inL ?_ ?_ ?_); (first | rfl | with_unfolding_all rfl); (first | rfl | with_unfolding_all rfl)) | ((with_reducible refine ift_of ?_ ?_); (with_unfolding_all rfl)) | ((with_reducible refine iff_of ?_ ?_); (with_unfolding_all rfl)) | ((with_reducible refine ift2_of ?_ ?_); (with_unfolding_all rfl)) | ((with_reducible refine iff2_of ?_ ?_); (with_unfolding_all rfl)) | ((with_reducible refine ift_of ?_ ?_); exact decide_eq_true (by omega)) | ((with_reducible refine iff_of ?_ ?_); exact decide_eq_false (by omega)) | ((with_reducible refine ift2_of ?_ ?_); exact decide_eq_true (by omega)) | ((with_reducible refine iff2_of ?_ ?_); exact decide_eq_false (by omega)))
    exact ⟨rfl, rfl⟩
theorem pairD_ne {ps : List (Nat × Nat)} : noblA (pairD ps) = true ∧ okA (pairD ps) 59 = true := ⟨noblA_of fun d hd => by obtain ⟨p, _, rfl⟩ := List.mem_map.mp hd; rfl, okA_of fun d hd => by obtain ⟨p, _, rfl⟩ := List.mem_map.mp hd; rfl⟩
theorem w_neE {ps : List (Nat × Nat)} {t : Tn} {Q : D → Tn → Prop} (h : Q (.bl (!ps.isEmpty)) t) : W (pNe (.lst (pairD ps)) (.lst []) t) Q := by
  refine w_neD pairD_ne.2 rfl ?_
  cases ps with
  | nil => exact h
  | cons p r => exact h
theorem w_neET {ps : List (Nat × Nat)} {t : Tn} {Q : D → Tn → Prop} (h : Q (.bl (!ps.isEmpty)) t) : W (pNe (.tup (pairD ps)) (.tup []) t) Q := by
  refine w_neD pairD_ne.2 rfl ?_
  cases ps with
  | nil => exact h
  | cons p r => exact h
theorem short_Gs {c : List Nat} (hc : Gs c) : Gs (shortG c) ∧ (shortG c).length ≤ c.length ∧ pairsG (shortG c) = [] := by
  obtain ⟨⟨h1, h2⟩, h3⟩ := BM.short_ind cmG (P := fun w => Gs w ∧ w.length ≤ c.length) (fun w a b ⟨h1, h2⟩ hab hb _ => ⟨fun i hi => h1 i (BM.rm_mem hi), by have := BM.rm_len hab hb; omega⟩) _ c (Nat.le_refl _) ⟨hc, Nat.le_refl _⟩
  exact ⟨h1, h2, h3⟩
theorem shortened_eq {c : List Nat} (hc : Gs c) (hl : c.length ≤ 20) : f_shortened [.tup (cD c)] = ret (.tup (cD (shortG c))) := by
  have hsz := sizeL
  refine eq_of_W fun t => w_fn ?_
  show W (b_shortened [.val (.tup (cD c)), .un, .un, .un] t) _
  unfold b_shortened
  repeat (first | (with_reducible refine w_eq (check_circuit_eq hc hl) ?_) | (with_reducible refine w_eq (pairs_of_eq hc (by omega)) ?_) | (with_reducible first | refine w_seq ?_ | refine w_asg ?_ | refine w_asgP ?_ | refine pr_i ?_ | refine w_eqI ?_ | refine w_neI ?_ | refine w_own ?_ | refine w_par ?_ | refine w_parO ?_ | refine w_expr ?_ | refine w_if ?_ | refine w_sret ?_ | refine w_nil ?_ | refine w_for ?_ | refine w_bin ?_ | refine w_un ?_ | refine w_tup ?_ | refine w_lst ?_ | refine w_call ?_ | refine w_and ?_ | refine w_or ?_ | refine w_ife ?_ | refine w_chain ?_ | refine w_slice ?_ | refine w_oN ?_ | refine w_oS ?_ | refine w_comp ?_ | refine w_itSeq ?_ | refine w_itR ?_ | refine w_evnil ?_ | refine w_evcons ?_ | refine w_evc1 ?_ | refine w_evc0 ?_ | refine w_c ?_ | refine nx_nx ?_ | refine nx_ret ?_ | refine bl_i ?_ | refine in_i ?_ | refine sq_t ?_ | refine sq_l ?_ | refine ls_l ?_ | refine tp_t ?_ | refine w_not ?_ | refine w_addI ?_ | refine w_sub ?_ | refine w_xor ?_ | refine w_ltI ?_ | refine w_leI ?_ | refine w_gtI ?_ | refine w_geI ?_ | refine w_slT ?_ | refine w_slL ?_ | refine w_lenT ?_ | refine w_lenL ?_ | refine w_lenS ?_ | refine w_tupL ?_ | refine w_tupT ?_ | refine w_lstL ?_ | refine w_lstT ?_ | refine w_neg ?_ | refine w_isn ?_ | refine w_isnn ?_ | refine w_begun ?_ | refine w_ret ?_ | refine w_resE ?_) | (with_reducible refine w_var (by with_unfolding_all rfl) ?_) | (with_reducible refine w_peekV (by with_unfolding_all rfl) ?_) | (with_reducible refine w_peekO (by with_unfolding_all rfl) ?_) | (with_reducible refine w_app (by with_unfolding_all rfl) ?_) | (with_reducible refine w_frz (by with_unfolding_all rfl) ?_) | (with_reducible refine w_scr (by with_unfolding_all rfl) ?_) | (with_reducible refine w_tc (by with_unfolding_all rfl) ?_) | (with_reducible refine w_stc (by with_unfolding_all rfl) ?_) | (with_reducible refine w_tr (by with_unfolding_all rfl) ?_) | (with_reducible refine w_str (by with_unfolding_all rfl) ?_) | (with_reducible refine w_idxT (by with_unfolding_all rfl) ?_) | (with_reducible refine w_idxL (by with_unfolding_all rfl) ?_) | (with_reducible refine w_isi (by with_unfolding_all rfl) ?_) | ((with_reducible first | refine w_addT ?_ ?_ | refine w_addL ?_ ?_ | refine w_mulI ?_ ?_ | refine w_mulT ?_ ?_ | refine w_mulL ?_ ?_ | refine w_mod ?_ ?_ | refine w_div ?_ ?_ | refine w_pow ?_ ?_ | refine w_rng ?_ ?_); (first | decide | omega | (refine ⟨?_, ?_⟩ <;> omega) | (refine ⟨?_, ?_, ?_⟩ <;> omega) | (simp only [List.length_cons, List.length_nil, List.length_append, List.length_reverse, BL.cD_len, BL.iD_len, BL.mkx_len, BL.sizeL]; omega) | (refine ⟨List.cons_ne_nil _ _, ?_⟩; simp only [List.length_cons, List.length_nil]; omega))) | ((with_reducible first | refine w_eqD ?_ ?_ ?_ | refine w_neD ?_ ?_ ?_ | refine w_inT ?_ ?_ ?_ | refine w_inL ?_ ?_ ?_); (first | rfl | with_unfolding_all rfl); (first | rfl | with_unfolding_all rfl)) | ((with_reducible refine ift_of ?_ ?_); (with_unfolding_all rfl)) | ((with_reducible refine iff_of ?_ ?_); (with_unfolding_all rfl)) | ((with_reducible refine ift2_of ?_ ?_); (with_unfolding_all rfl)) | ((with_reducible refine iff2_of ?_ ?_); (with_unfolding_all rfl)) | ((with_reducible refine ift_of ?_ ?_); exact decide_eq_true (by omega)) | ((with_reducible refine iff_of ?_ ?_); exact decide_eq_false (by omega)) | ((with_reducible refine ift2_of ?_ ?_); exact decide_eq_true (by omega)) | ((with_reducible refine iff2_of ?_ ?_); exact decide_eq_false (by omega)))
  refine w_while (fun k S t' => (∃ c' x2 x3, S = [.val (.tup (cD c')), .val (.lst (pairD (pairsG c'))), x2, x3] ∧ Gs c' ∧ c'.length = k ∧ k ≤ 20 ∧ shortG c' = shortG c) ∧ t' = t) (fun k S t' ⟨⟨c', x2, x3, hS, h1, h2, h3, h4⟩, ht⟩ => ?_) (show c.length < 1000000 by omega) ⟨⟨c, _, _, rfl, hc, rfl, hl, rfl⟩, rfl⟩
  subst hS ht
  repeat (first | (with_reducible refine w_neE ?_) | (with_reducible first | refine w_seq ?_ | refine w_asg ?_ | refine w_asgP ?_ | refine pr_i ?_ | refine w_eqI ?_ | refine w_neI ?_ | refine w_own ?_ | refine w_par ?_ | refine w_parO ?_ | refine w_expr ?_ | refine w_if ?_ | refine w_sret ?_ | refine w_nil ?_ | refine w_for ?_ | refine w_bin ?_ | refine w_un ?_ | refine w_tup ?_ | refine w_lst ?_ | refine w_call ?_ | refine w_and ?_ | refine w_or ?_ | refine w_ife ?_ | refine w_chain ?_ | refine w_slice ?_ | refine w_oN ?_ | refine w_oS ?_ | refine w_comp ?_ | refine w_itSeq ?_ | refine w_itR ?_ | refine w_evnil ?_ | refine w_evcons ?_ | refine w_evc1 ?_ | refine w_evc0 ?_ | refine w_c ?_ | refine nx_nx ?_ | refine nx_ret ?_ | refine bl_i ?_ | refine in_i ?_ | refine sq_t ?_ | refine sq_l ?_ | refine ls_l ?_ | refine tp_t ?_ | refine w_not ?_ | refine w_addI ?_ | refine w_sub ?_ | refine w_xor ?_ | refine w_ltI ?_ | refine w_leI ?_ | refine w_gtI ?_ | refine w_geI ?_ | refine w_slT ?_ | refine w_slL ?_ | refine w_lenT ?_ | refine w_lenL ?_ | refine w_lenS ?_ | refine w_tupL ?_ | refine w_tupT ?_ | refine w_lstL ?_ | refine w_lstT ?_ | refine w_neg ?_ | refine w_isn ?_ | refine w_isnn ?_ | refine w_begun ?_ | refine w_ret ?_ | refine w_resE ?_) | (with_reducible refine w_var (by with_unfolding_all rfl) ?_) | (with_reducible refine w_peekV (by with_unfolding_all rfl) ?_) | (with_reducible refine w_peekO (by with_unfolding_all rfl) ?_) | (with_reducible refine w_app (by with_unfolding_all rfl) ?_) | (with_reducible refine w_frz (by with_unfolding_all rfl) ?_) | (with_reducible refine w_scr (by with_unfolding_all rfl) ?_) | (with_reducible refine w_tc (by with_unfolding_all rfl) ?_) | (with_reducible refine w_stc (by with_unfolding_all rfl) ?_) | (with_reducible refine w_tr (by with_unfolding_all rfl) ?_) | (with_reducible refine w_str (by with_unfolding_all rfl) ?_) | (with_reducible refine w_idxT (by with_unfolding_all rfl) ?_) | (with_reducible refine w_idxL (by with_unfolding_all rfl) ?_) | (with_reducible refine w_isi (by with_unfolding_all rfl) ?_) | ((with_reducible first | refine w_addT ?_ ?_ | refine w_addL ?_ ?_ | refine w_mulI ?_ ?_ | refine w_mulT ?_ ?_ | refine w_mulL ?_ ?_ | refine w_mod ?_ ?_ | refine w_div ?_ ?_ | refine w_pow ?_ ?_ | refine w_rng ?_ ?_); (first | decide | omega | (refine ⟨?_, ?_⟩ <;> omega) | (refine ⟨?_, ?_, ?_⟩ <;> omega) | (simp only [List.length_cons, List.length_nil, List.length_append, List.length_reverse, BL.cD_len, BL.iD_len, BL.mkx_len, BL.sizeL]; omega) | (refine ⟨List.cons_ne_nil _ _, ?_⟩; simp only [List.length_cons, List.length_nil]; omega))) | ((with_reducible first | refine w_eqD ?_ ?_ ?_ | refine w_neD ?_ ?_ ?_ | refine w_inT ?_ ?_ ?_ | refine w_inL ?_ ?_ ?_); (first | rfl | with_unfolding_all rfl); (first | rfl | with_unfolding_all rfl)) | ((with_reducible refine ift_of ?_ ?_); (with_unfolding_all rfl)) | ((with_reducible refine iff_of ?_ ?_); (with_unfolding_all rfl)) | ((with_reducible refine ift2_of ?_ ?_); (with_unfolding_all rfl)) | ((with_reducible refine iff2_of ?_ ?_); (with_unfolding_all rfl)) | ((with_reducible refine ift_of ?_ ?_); exact decide_eq_true (by omega)) | ((with_reducible refine iff_of ?_ ?_); exact decide_eq_false (by omega)) | ((with_reducible refine ift2_of ?_ ?_); exact decide_eq_true (by omega)) | ((with_reducible refine iff2_of ?_ ?_); exact decide_eq_false (by omega)))
  cases e : pairsG c' with
  | nil =>
    refine ⟨fun z => (by cases z), fun _ => ?_⟩
    repeat (first | (with_reducible first | refine w_seq ?_ | refine w_asg ?_ | refine w_asgP ?_ | refine pr_i ?_ | refine w_eqI ?_ | refine w_neI ?_ | refine w_own ?_ | refine w_par ?_ | refine w_parO ?_ | refine w_expr ?_ | refine w_if ?_ | refine w_sret ?_ | refine w_nil ?_ | refine w_for ?_ | refine w_bin ?_ | refine w_un ?_ | refine w_tup ?_ | refine w_lst ?_ | refine w_call ?_ | refine w_and ?_ | refine w_or ?_ | refine w_ife ?_ | refine w_chain ?_ | refine w_slice ?_ | refine w_oN ?_ | refine w_oS ?_ | refine w_comp ?_ | refine w_itSeq ?_ | refine w_itR ?_ | refine w_evnil ?_ | refine w_evcons ?_ | refine w_evc1 ?_ | refine w_evc0 ?_ | refine w_c ?_ | refine nx_nx ?_ | refine nx_ret ?_ | refine bl_i ?_ | refine in_i ?_ | refine sq_t ?_ | refine sq_l ?_ | refine ls_l ?_ | refine tp_t ?_ | refine w_not ?_ | refine w_addI ?_ | refine w_sub ?_ | refine w_xor ?_ | refine w_ltI ?_ | refine w_leI ?_ | refine w_gtI ?_ | refine w_geI ?_ | refine w_slT ?_ | refine w_slL ?_ | refine w_lenT ?_ | refine w_lenL ?_ | refine w_lenS ?_ | refine w_tupL ?_ | refine w_tupT ?_ | refine w_lstL ?_ | refine w_lstT ?_ | refine w_neg ?_ | refine w_isn ?_ | refine w_isnn ?_ | refine w_begun ?_ | refine w_ret ?_ | refine w_resE ?_) | (with_reducible refine w_var (by with_unfolding_all rfl) ?_) | (with_reducible refine w_peekV (by with_unfolding_all rfl) ?_) | (with_reducible refine w_peekO (by with_unfolding_all rfl) ?_) | (with_reducible refine w_app (by with_unfolding_all rfl) ?_) | (with_reducible refine w_frz (by with_unfolding_all rfl) ?_) | (with_reducible refine w_scr (by with_unfolding_all rfl) ?_) | (with_reducible refine w_tc (by with_unfolding_all rfl) ?_) | (with_reducible refine w_stc (by with_unfolding_all rfl) ?_) | (with_reducible refine w_tr (by with_unfolding_all rfl) ?_) | (with_reducible refine w_str (by with_unfolding_all rfl) ?_) | (with_reducible refine w_idxT (by with_unfolding_all rfl) ?_) | (with_reducible refine w_idxL (by with_unfolding_all rfl) ?_) | (with_reducible refine w_isi (by with_unfolding_all rfl) ?_) | ((with_reducible first | refine w_addT ?_ ?_ | refine w_addL ?_ ?_ | refine w_mulI ?_ ?_ | refine w_mulT ?_ ?_ | refine w_mulL ?_ ?_ | refine w_mod ?_ ?_ | refine w_div ?_ ?_ | refine w_pow ?_ ?_ | refine w_rng ?_ ?_); (first | decide | omega | (refine ⟨?_, ?_⟩ <;> omega) | (refine ⟨?_, ?_, ?_⟩ <;> omega) | (simp only [List.length_cons, List.length_nil, List.length_append, List.length_reverse, BL.cD_len, BL.iD_len, BL.mkx_len, BL.sizeL]; omega) | (refine ⟨List.cons_ne_nil _ _, ?_⟩; simp only [List.length_cons, List.length_nil]; omega))) | ((with_reducible first | refine w_eqD ?_ ?_ ?_ | refine w_neD ?_ ?_ ?_ | refine w_inT ?_ ?_ ?_ | refine w_inL ?_ ?_ ?_); (first | rfl | with_unfolding_all rfl); (first | rfl | with_unfolding_all rfl)) | ((with_reducible refine ift_of ?_ ?_); (with_unfolding_all rfl)) | ((with_reducible refine iff_of ?_ ?_); (with_unfolding_all rfl)) | ((with_reducible refine ift2_of ?_ ?_); (with_unfolding_all rfl)) | ((with_reducible refine iff2_of ?_ ?_); (with_unfolding_all rfl)) | ((with_reducible refine ift_of ?_ ?_); exact decide_eq_true (by omega)) | ((with_reducible refine iff_of ?_ ?_); exact decide_eq_false (by omega)) | ((with_reducible refine ift2_of ?_ ?_); exact decide_eq_true (by omega)) | ((with_reducible refine iff2_of ?_ ?_); exact decide_eq_false (by omega)))
    refine ⟨?_, rfl⟩
    rw [← h4, show shortG c' = c' from BM.short_nil cmG e]
  | cons p r =>
    refine ⟨fun _ => ?_, fun z => (by cases z)⟩
    obtain ⟨q1, q2, q3⟩ := (BM.mem_pairs cmG).mp (show p ∈ pairsG c' by rw [e]; exact List.mem_cons_self ..)
    have hrm := BM.rm_len q1 q2
    have g' : Gs (BM.rm c' p.1 p.2) := fun i hi => h1 i (BM.rm_mem hi)
    have l1 := cD_len c'
    have c1 : cutD (cD c') none (some (p.1 : Int)) = cD (c'.take p.1) := by rw [cutD_take (by omega)]; unfold cD; rw [List.map_take]
    have c2 : cutD (cD c') (some ((p.1 : Int) + 1)) (some (p.2 : Int)) = cD ((c'.drop (p.1 + 1)).take (p.2 - (p.1 + 1))) := cutD_mid (a := p.1 + 1) (b := p.2) (by omega) (by omega)
    have c3 : cutD (cD c') (some ((p.2 : Int) + 1)) none = cD (c'.drop (p.2 + 1)) := by
      have := cutD_drop (ds := cD c') (k := p.2 + 1) (by omega)
      refine Eq.trans this ?_
      unfold cD; rw [List.map_drop]
    have ecat : cD (c'.take p.1) ++ cD ((c'.drop (p.1 + 1)).take (p.2 - (p.1 + 1))) ++ cD (c'.drop (p.2 + 1)) = cD (BM.rm c' p.1 p.2) := by
      unfold BM.rm
      rw [cD_app, cD_app, List.append_assoc]
    have d1 := cD_len (c'.take p.1)
    have d2 := cD_len ((c'.drop (p.1 + 1)).take (p.2 - (p.1 + 1)))
    have d3 := cD_len (c'.drop (p.2 + 1))
    rw [List.length_take] at d1 d2
    rw [List.length_drop] at d2 d3
    have i0 : atI (pairD (p :: r)) 0 = some (.tup [.int (p.1 : Int), .int (p.2 : Int)]) := atI_zero
    repeat (first | (with_reducible refine w_idxL i0 ?_) | (with_reducible first | refine w_seq ?_ | refine w_asg ?_ | refine w_asgP ?_ | refine pr_i ?_ | refine w_eqI ?_ | refine w_neI ?_ | refine w_own ?_ | refine w_par ?_ | refine w_parO ?_ | refine w_expr ?_ | refine w_if ?_ | refine w_sret ?_ | refine w_nil ?_ | refine w_for ?_ | refine w_bin ?_ | refine w_un ?_ | refine w_tup ?_ | refine w_lst ?_ | refine w_call ?_ | refine w_and ?_ | refine w_or ?_ | refine w_ife ?_ | refine w_chain ?_ | refine w_slice ?_ | refine w_oN ?_ | refine w_oS ?_ | refine w_comp ?_ | refine w_itSeq ?_ | refine w_itR ?_ | refine w_evnil ?_ | refine w_evcons ?_ | refine w_evc1 ?_ | refine w_evc0 ?_ | refine w_c ?_ | refine nx_nx ?_ | refine nx_ret ?_ | refine bl_i ?_ | refine in_i ?_ | refine sq_t ?_ | refine sq_l ?_ | refine ls_l ?_ | refine tp_t ?_ | refine w_not ?_ | refine w_addI ?_ | refine w_sub ?_ | refine w_xor ?_ | refine w_ltI ?_ | refine w_leI ?_ | refine w_gtI ?_ | refine w_geI ?_ | refine w_slT ?_ | refine w_slL ?_ | refine w_lenT ?_ | refine w_lenL ?_ | refine w_lenS ?_ | refine w_tupL ?_ | refine w_tupT ?_ | refine w_lstL ?_ | refine w_lstT ?_ | refine w_neg ?_ | refine w_isn ?_ | refine w_isnn ?_ | refine w_begun ?_ | refine w_ret ?_ | refine w_resE ?_) | (with_reducible refine w_var (by with_unfolding_all rfl) ?_) | (with_reducible refine w_peekV (by with_unfolding_all rfl) ?_) | (with_reducible refine w_peekO (by with_unfolding_all rfl) ?_) | (with_reducible refine w_app (by with_unfolding_all rfl) ?_) | (with_reducible refine w_frz (by with_unfolding_all rfl) ?_) | (with_reducible refine w_scr (by with_unfolding_all rfl) ?_) | (with_reducible refine w_tc (by with_unfolding_all rfl) ?_) | (with_reducible refine w_stc (by with_unfolding_all rfl) ?_) | (with_reducible refine w_tr (by with_unfolding_all rfl) ?_) | (with_reducible refine w_str (by with_unfolding_all rfl) ?_) | (with_reducible refine w_idxT (by with_unfolding_all rfl) ?_) | (with_reducible refine w_idxL (by with_unfolding_all rfl) ?_) | (with_reducible refine w_isi (by with_unfolding_all rfl) ?_) | ((with_reducible first | refine w_addT ?_ ?_ | refine w_addL ?_ ?_ | refine w_mulI ?_ ?_ | refine w_mulT ?_ ?_ | refine w_mulL ?_ ?_ | refine w_mod ?_ ?_ | refine w_div ?_ ?_ | refine w_pow ?_ ?_ | refine w_rng ?_ ?_); (first | decide | omega | (refine ⟨?_, ?_⟩ <;> omega) | (refine ⟨?_, ?_, ?_⟩ <;> omega) | (simp only [List.length_cons, List.length_nil, List.length_append, List.length_reverse, BL.cD_len, BL.iD_len, BL.mkx_len, BL.sizeL]; omega) | (refine ⟨List.cons_ne_nil _ _, ?_⟩; simp only [List.length_cons, List.length_nil]; omega))) | ((with_reducible first | refine w_eqD ?_ ?_ ?_ | refine w_neD ?_ ?_ ?_ | refine w_inT ?_ ?_ ?_ | refine w_inL ?_ ?_ ?_); (first | rfl | with_unfolding_all rfl); (first | rfl | with_unfolding_all rfl)) | ((with_reducible refine ift_of ?_ ?_); (with_unfolding_all rfl)) | ((with_reducible refine iff_of ?_ ?_); (with_unfolding_all rfl)) | ((with_reducible refine ift2_of ?_ ?_); (with_unfolding_all rfl)) | ((with_reducible refine iff2_of ?_ ?_); (with_unfolding_all rfl)) | ((with_reducible refine ift_of ?_ ?_); exact decide_eq_true (by omega)) | ((with_reducible refine iff_of ?_ ?_); exact decide_eq_false (by omega)) | ((with_reducible refine ift2_of ?_ ?_); exact decide_eq_true (by omega)) | ((with_reducible refine iff2_of ?_ ?_); exact decide_eq_false (by omega)))
    rw [c1, c2]
    refine w_addT (by omega) ?_
    repeat (first | (with_reducible first | refine w_seq ?_ | refine w_asg ?_ | refine w_asgP ?_ | refine pr_i ?_ | refine w_eqI ?_ | refine w_neI ?_ | refine w_own ?_ | refine w_par ?_ | refine w_parO ?_ | refine w_expr ?_ | refine w_if ?_ | refine w_sret ?_ | refine w_nil ?_ | refine w_for ?_ | refine w_bin ?_ | refine w_un ?_ | refine w_tup ?_ | refine w_lst ?_ | refine w_call ?_ | refine w_and ?_ | refine w_or ?_ | refine w_ife ?_ | refine w_chain ?_ | refine w_slice ?_ | refine w_oN ?_ | refine w_oS ?_ | refine w_comp ?_ | refine w_itSeq ?_ | refine w_itR ?_ | refine w_evnil ?_ | refine w_evcons ?_ | refine w_evc1 ?_ | refine w_evc0 ?_ | refine w_c ?_ | refine nx_nx ?_ | refine nx_ret ?_ | refine bl_i ?_ | refine in_i ?_ | refine sq_t ?_ | refine sq_l ?_ | refine ls_l ?_ | refine tp_t ?_ | refine w_not ?_ | refine w_addI ?_ | refine w_sub ?_ | refine w_xor ?_ | refine w_ltI ?_ | refine w_leI ?_ | refine w_gtI ?_ | refine w_geI ?_ | refine w_slT ?_ | refine w_slL ?_ | refine w_lenT ?_ | refine w_lenL ?_ | refine w_lenS ?_ | refine w_tupL ?_ | refine w_tupT ?_ | refine w_lstL ?_ | refine w_lstT ?_ | refine w_neg ?_ | refine w_isn ?_ | refine w_isnn ?_ | refine w_begun ?_ | refine w_ret ?_ | refine w_resE ?_) | (with_reducible refine w_var (by with_unfolding_all rfl) ?_) | (with_reducible refine w_peekV (by with_unfolding_all rfl) ?_) | (with_reducible refine w_peekO (by with_unfolding_all rfl) ?_) | (with_reducible refine w_app (by with_unfolding_all rfl) ?_) | (with_reducible refine w_frz (by with_unfolding_all rfl) ?_) | (with_reducible refine w_scr (by with_unfolding_all rfl) ?_) | (with_reducible refine w_tc (by with_unfolding_all rfl) ?_) | (with_reducible refine w_stc (by with_unfolding_all rfl) ?_) | (with_reducible refine w_tr (by with_unfolding_all rfl) ?_) | (with_reducible refine w_str (by with_unfolding_all rfl) ?_) | (with_reducible refine w_idxT (by with_unfolding_all rfl) ?_) | (with_reducible refine w_idxL (by with_unfolding_all rfl) ?_) | (with_reducible refine w_isi (by with_unfolding_all rfl) ?_) | ((with_reducible first | refine w_addT ?_ ?_ | refine w_addL ?_ ?_ | refine w_mulI ?_ ?_ | refine w_mulT ?_ ?_ | refine w_mulL ?_ ?_ | refine w_mod ?_ ?_ | refine w_div ?_ ?_ | refine w_pow ?_ ?_ | refine w_rng ?_ ?_); (first | decide | omega | (refine ⟨?_, ?_⟩ <;> omega) | (refine ⟨?_, ?_, ?_⟩ <;> omega) | (simp only [List.length_cons, List.length_nil, List.length_append, List.length_reverse, BL.cD_len, BL.iD_len, BL.mkx_len, BL.sizeL]; omega) | (refine ⟨List.cons_ne_nil _ _, ?_⟩; simp only [List.length_cons, List.length_nil]; omega))) | ((with_reducible first | refine w_eqD ?_ ?_ ?_ | refine w_neD ?_ ?_ ?_ | refine w_inT ?_ ?_ ?_ | refine w_inL ?_ ?_ ?_); (first | rfl | with_unfolding_all rfl); (first | rfl | with_unfolding_all rfl)) | ((with_reducible refine ift_of ?_ ?_); (with_unfolding_all rfl)) | ((with_reducible refine iff_of ?_ ?_); (with_unfolding_all rfl)) | ((with_reducible refine ift2_of ?_ ?_); (with_unfolding_all rfl)) | ((with_reducible refine iff2_of ?_ ?_); (with_unfolding_all rfl)) | ((with_reducible refine ift_of ?_ ?_); exact decide_eq_true (by omega)) | ((with_reducible refine iff_of ?_ ?_); exact decide_eq_false (by omega)) | ((with_reducible refine ift2_of ?_ ?_); exact decide_eq_true (by omega)) | ((with_reducible refine iff2_of ?_ ?_); exact decide_eq_false (by omega)))
    rw [c3]
    refine w_addT (by rw [List.length_append]; omega) ?_
    rw [ecat]
    repeat (first | (with_reducible refine w_eq (pairs_of_eq g' (by omega)) ?_) | (with_reducible first | refine w_seq ?_ | refine w_asg ?_ | refine w_asgP ?_ | refine pr_i ?_ | refine w_eqI ?_ | refine w_neI ?_ | refine w_own ?_ | refine w_par ?_ | refine w_parO ?_ | refine w_expr ?_ | refine w_if ?_ | refine w_sret ?_ | refine w_nil ?_ | refine w_for ?_ | refine w_bin ?_ | refine w_un ?_ | refine w_tup ?_ | refine w_lst ?_ | refine w_call ?_ | refine w_and ?_ | refine w_or ?_ | refine w_ife ?_ | refine w_chain ?_ | refine w_slice ?_ | refine w_oN ?_ | refine w_oS ?_ | refine w_comp ?_ | refine w_itSeq ?_ | refine w_itR ?_ | refine w_evnil ?_ | refine w_evcons ?_ | refine w_evc1 ?_ | refine w_evc0 ?_ | refine w_c ?_ | refine nx_nx ?_ | refine nx_ret ?_ | refine bl_i ?_ | refine in_i ?_ | refine sq_t ?_ | refine sq_l ?_ | refine ls_l ?_ | refine tp_t ?_ | refine w_not ?_ | refine w_addI ?_ | refine w_sub ?_ | refine w_xor ?_ | refine w_ltI ?_ | refine w_leI ?_ | refine w_gtI ?_ | refine w_geI ?_ | refine w_slT ?_ | refine w_slL ?_ | refine w_lenT ?_ | refine w_lenL ?_ | refine w_lenS ?_ | refine w_tupL ?_ | refine w_tupT ?_ | refine w_lstL ?_ | refine w_lstT ?_ | refine w_neg ?_ | refine w_isn ?_ | refine w_isnn ?_ | refine w_begun ?_ | refine w_ret ?_ | refine w_resE ?_) | (with_reducible refine w_var (by with_unfolding_all rfl) ?_) | (with_reducible refine w_peekV (by with_unfolding_all rfl) ?_) | (with_reducible refine w_peekO (by with_unfolding_all rfl) ?_) | (with_reducible refine w_app (by with_unfolding_all rfl) ?_) | (with_reducible refine w_frz (by with_unfolding_all rfl) ?_) | (with_reducible refine w_scr (by with_unfolding_all rfl) ?_) | (with_reducible refine w_tc (by with_unfolding_all rfl) ?_) | (with_reducible refine w_stc (by with_unfolding_all rfl) ?_) | (with_reducible refine w_tr (by with_unfolding_all rfl) ?_) | (with_reducible refine w_str (by with_unfolding_all rfl) ?_) | (with_reducible refine w_idxT (by with_unfolding_all rfl) ?_) | (with_reducible refine w_idxL (by with_unfolding_all rfl) ?_) | (with_reducible refine w_isi (by with_unfolding_all rfl) ?_) | ((with_reducible first | refine w_addT ?_ ?_ | refine w_addL ?_ ?_ | refine w_mulI ?_ ?_ | refine w_mulT ?_ ?_ | refine w_mulL ?_ ?_ | refine w_mod ?_ ?_ | refine w_div ?_ ?_ | refine w_pow ?_ ?_ | refine w_rng ?_ ?_); (first | decide | omega | (refine ⟨?_, ?_⟩ <;> omega) | (refine ⟨?_, ?_, ?_⟩ <;> omega) | (simp only [List.length_cons, List.length_nil, List.length_append, List.length_reverse, BL.cD_len, BL.iD_len, BL.mkx_len, BL.sizeL]; omega) | (refine ⟨List.cons_ne_nil _ _, ?_⟩; simp only [List.length_cons, List.length_nil]; omega))) | ((with_reducible first | refine w_eqD ?_ ?_ ?_ | refine w_neD ?_ ?_ ?_ | refine w_inT ?_ ?_ ?_ | refine w_inL ?_ ?_ ?_); (first | rfl | with_unfolding_all rfl); (first | rfl | with_unfolding_all rfl)) | ((with_reducible refine ift_of ?_ ?_); (with_unfolding_all rfl)) | ((with_reducible refine iff_of ?_ ?_); (with_unfolding_all rfl)) | ((with_reducible refine ift2_of ?_ ?_); (with_unfolding_all rfl)) | ((with_reducible refine iff2_of ?_ ?_); (with_unfolding_all rfl)) | ((with_reducible refine ift_of ?_ ?_); exact decide_eq_true (by omega)) | ((with_reducible refine iff_of ?_ ?_); exact decide_eq_false (by omega)) | ((with_reducible refine ift2_of ?_ ?_); exact decide_eq_true (by omega)) | ((with_reducible refine iff2_of ?_ ?_); exact decide_eq_false (by omega)))
    exact ⟨_, show (BM.rm c' p.1 p.2).length < k by omega, ⟨_, _, _, rfl, g', rfl, by omega, by rw [← h4]; exact (BM.short_cons cmG e).symm⟩, rfl⟩
theorem cancelling_eq {c : List Nat} (hc : Gs c) (hl : c.length ≤ 20) : f_cancelling [.tup (cD c)] = ret (.tup (pairD (pairsG c))) := by
  refine eq_of_W fun t => w_fn ?_
  show W (b_cancelling [.val (.tup (cD c))] t) _
  unfold b_cancelling
  repeat (first | (with_reducible refine w_eq (check_circuit_eq hc hl) ?_) | (with_reducible refine w_eq (pairs_of_eq hc (by omega)) ?_) | (with_reducible first | refine w_seq ?_ | refine w_asg ?_ | refine w_asgP ?_ | refine pr_i ?_ | refine w_eqI ?_ | refine w_neI ?_ | refine w_own ?_ | refine w_par ?_ | refine w_parO ?_ | refine w_expr ?_ | refine w_if ?_ | refine w_sret ?_ | refine w_nil ?_ | refine w_for ?_ | refine w_bin ?_ | refine w_un ?_ | refine w_tup ?_ | refine w_lst ?_ | refine w_call ?_ | refine w_and ?_ | refine w_or ?_ | refine w_ife ?_ | refine w_chain ?_ | refine w_slice ?_ | refine w_oN ?_ | refine w_oS ?_ | refine w_comp ?_ | refine w_itSeq ?_ | refine w_itR ?_ | refine w_evnil ?_ | refine w_evcons ?_ | refine w_evc1 ?_ | refine w_evc0 ?_ | refine w_c ?_ | refine nx_nx ?_ | refine nx_ret ?_ | refine bl_i ?_ | refine in_i ?_ | refine sq_t ?_ | refine sq_l ?_ | refine ls_l ?_ | refine tp_t ?_ | refine w_not ?_ | refine w_addI ?_ | refine w_sub ?_ | refine w_xor ?_ | refine w_ltI ?_ | refine w_leI ?_ | refine w_gtI ?_ | refine w_geI ?_ | refine w_slT ?_ | refine w_slL ?_ | refine w_lenT ?_ | refine w_lenL ?_ | refine w_lenS ?_ | refine w_tupL ?_ | refine w_tupT ?_ | refine w_lstL ?_ | refine w_lstT ?_ | refine w_neg ?_ | refine w_isn ?_ | refine w_isnn ?_ | refine w_begun ?_ | refine w_ret ?_ | refine w_resE ?_) | (with_reducible refine w_var (by with_unfolding_all rfl) ?_) | (with_reducible refine w_peekV (by with_unfolding_all rfl) ?_) | (with_reducible refine w_peekO (by with_unfolding_all rfl) ?_) | (with_reducible refine w_app (by with_unfolding_all rfl) ?_) | (with_reducible refine w_frz (by with_unfolding_all rfl) ?_) | (with_reducible refine w_scr (by with_unfolding_all rfl) ?_) | (with_reducible refine w_tc (by with_unfolding_all rfl) ?_) | (with_reducible refine w_stc (by with_unfolding_all rfl) ?_) | (with_reducible refine w_tr (by with_unfolding_all rfl) ?_) | (with_reducible refine w_str (by with_unfolding_all rfl) ?_) | (with_reducible refine w_idxT (by with_unfolding_all rfl) ?_) | (with_reducible refine w_idxL (by with_unfolding_all rfl) ?_) | (with_reducible refine w_isi (by with_unfolding_all rfl) ?_) | ((with_reducible first | refine w_addT ?_ ?_ | refine w_addL ?_ ?_ | refine w_mulI ?_ ?_ | refine w_mulT ?_ ?_ | refine w_mulL ?_ ?_ | refine w_mod ?_ ?_ | refine w_div ?_ ?_ | refine w_pow ?_ ?_ | refine w_rng ?_ ?_); (first | decide | omega | (refine ⟨?_, ?_⟩ <;> omega) | (refine ⟨?_, ?_, ?_⟩ <;> omega) | (simp only [List.length_cons, List.length_nil, List.length_append, List.length_reverse, BL.cD_len, BL.iD_len, BL.mkx_len, BL.sizeL]; omega) | (refine ⟨List.cons_ne_nil _ _, ?_⟩; simp only [List.length_cons, List.length_nil]; omega))) | ((with_reducible first | refine w_eqD ?_ ?_ ?_ | refine w_neD ?_ ?_ ?_ | refine w_inT ?_ ?_ ?_ | refine w_inL ?_ ?_ ?_); (first | rfl | with_unfolding_all rfl); (first | rfl | with_unfolding_all rfl)) | ((with_reducible refine ift_of ?_ ?_); (with_unfolding_all rfl)) | ((with_reducible refine iff_of ?_ ?_); (with_unfolding_all rfl)) | ((with_reducible refine ift2_of ?_ ?_); (with_unfolding_all rfl)) | ((with_reducible refine iff2_of ?_ ?_); (with_unfolding_all rfl)) | ((with_reducible refine ift_of ?_ ?_); exact decide_eq_true (by omega)) | ((with_reducible refine iff_of ?_ ?_); exact decide_eq_false (by omega)) | ((with_reducible refine ift2_of ?_ ?_); exact decide_eq_true (by omega)) | ((with_reducible refine iff2_of ?_ ?_); exact decide_eq_false (by omega)))
  exact ⟨rfl, rfl⟩
def outP (a b : Nat) : D → Bool
  | .tup [.int k, _] => !(decide (k = (a : Int)) || decide (k = (b : Int)))
  | _ => false
def outE : D → D
  | .tup [_, g] => g
  | _ => .non
def enumF (ds : List D) (n : Nat) : List D := (ds.zipIdx n).map fun p => D.tup [.int (p.2 : Int), p.1]
theorem enumF_app (x y : List D) (n : Nat) : enumF (x ++ y) n = enumF x n ++ enumF y (n + x.length) := by
  unfold enumF; rw [List.zipIdx_append, List.map_append]
theorem enumF_cons (x : D) (y : List D) (n : Nat) : enumF (x :: y) n = .tup [.int (n : Int), x] :: enumF y (n + 1) := by
  unfold enumF; rw [List.zipIdx_cons, List.map_cons]
theorem enum_keep (a b : Nat) : ∀ (ds : List D) (n : Nat), (∀ k, n ≤ k → k < n + ds.length → k ≠ a ∧ k ≠ b) → ((enumF ds n).filter (outP a b)).map outE = ds
  | [], n, _ => rfl
  | x :: ds, n, h => by
    obtain ⟨h1, h2⟩ := h n (Nat.le_refl _) (by rw [List.length_cons]; omega)
    have e : outP a b (.tup [.int (n : Int), x]) = true := by
      show (!(decide ((n : Int) = (a : Int)) || decide ((n : Int) = (b : Int)))) = true
      rw [decide_eq_false (by omega), decide_eq_false (by omega)]; rfl
    rw [enumF_cons, List.filter_cons, if_pos e, List.map_cons, enum_keep a b ds (n + 1) fun k k1 k2 => h k (by omega) (by rw [List.length_cons]; omega)]
    rfl
theorem enum_drop (a b : Nat) (x : D) (ds : List D) (n : Nat) (h : n = a ∨ n = b) : ((enumF (x :: ds) n).filter (outP a b)).map outE = ((enumF ds (n + 1)).filter (outP a b)).map outE := by
  have e : outP a b (.tup [.int (n : Int), x]) = false := by
    show (!(decide ((n : Int) = (a : Int)) || decide ((n : Int) = (b : Int)))) = false
    rcases h with rfl | rfl <;> simp
  rw [enumF_cons, List.filter_cons, if_neg (by rw [e]; decide)]
theorem enum_out {ds : List D} {a b : Nat} (hab : a < b) (hb : b < ds.length) : ((enumD ds).filter (outP a b)).map outE = ds.take a ++ ((ds.drop (a + 1)).take (b - (a + 1)) ++ ds.drop (b + 1)) := by
  have ha : a < ds.length := by omega
  have e1 : ds = ds.take a ++ ds[a] :: ds.drop (a + 1) := by rw [List.getElem_cons_drop, List.take_append_drop]
  have e2 : ds.drop (a + 1) = (ds.drop (a + 1)).take (b - (a + 1)) ++ ds[b] :: ds.drop (b + 1) := by
    have e4 : ds.drop b = ds[b] :: ds.drop (b + 1) := (List.getElem_cons_drop ..).symm
    have e3 : (ds.drop (a + 1)).drop (b - (a + 1)) = ds.drop b := by rw [List.drop_drop]; congr 1; omega
    rw [← e4, ← e3, List.take_append_drop]
  have l1 : (ds.take a).length = a := by rw [List.length_take]; omega
  have l2 : ((ds.drop (a + 1)).take (b - (a + 1))).length = b - (a + 1) := by rw [List.length_take, List.length_drop]; omega
  have : enumD ds = enumF ds 0 := rfl
  rw [this]
  conv => lhs; rw [e1, e2]
  rw [enumF_app, List.filter_append, List.map_append, enum_keep a b _ _ fun k k1 k2 => by rw [l1] at k2; omega, l1, Nat.zero_add, enum_drop a b _ _ _ (.inl rfl), enumF_app, List.filter_append, List.map_append,
    enum_keep a b _ _ fun k k1 k2 => by rw [l2] at k2; omega, l2, show a + 1 + (b - (a + 1)) = b by omega, enum_drop a b _ _ _ (.inr rfl), enum_keep a b _ _ fun k k1 k2 => by omega]
theorem cD_rm {c : List Nat} {a b : Nat} : (cD c).take a ++ (((cD c).drop (a + 1)).take (b - (a + 1)) ++ (cD c).drop (b + 1)) = cD (BM.rm c a b) := by
  unfold BM.rm cD
  rw [List.map_append, List.map_append, List.map_take, List.map_take, List.map_drop, List.map_drop]
theorem mem_enumD {ds : List D} {d : D} (h : d ∈ enumD ds) : ∃ (k : Nat) (x : D), d = .tup [.int (k : Int), x] ∧ ds[k]? = some x := by
  obtain ⟨k, hk⟩ := List.mem_iff_getElem?.mp h
  obtain ⟨x, hx, e⟩ := enumD_get hk
  exact ⟨k, x, e, hx⟩
/-- [gate for at, gate in enumerate(c) if at not in (a, b)] -/
theorem w_out {c : List Nat} {a b : Nat} (hc : Gs c) (hab : a < b) (hb : b < c.length) {cond : Ex} {i j : Nat} {S : Sl} {t : Tn} {Q : List D → Tn → Prop} (hi : i < S.length) (hj : j < S.length) (hij : i ≠ j)
    (hcond : ∀ (k : Nat) (x : D), k < c.length → cond ((S.set i (.val (.int (k : Int)))).set j (.val x)) = ret (.bl (!(decide ((k : Int) = (a : Int)) || decide ((k : Int) = (b : Int))))))
    (h : Q (cD (BM.rm c a b)) t) : W (cmpL (gP i j) cond (eVar j) S (enumD (cD c)) t) Q := by
  refine w_cmpP (outP a b) outE (fun d hd => ?_) ?_
  · obtain ⟨k, x, rfl, hx⟩ := mem_enumD hd
    obtain ⟨g, hg, rfl, hk⟩ := cD_get hx
    refine ⟨_, rfl, hcond k _ hk, fun _ => ?_⟩
    unfold eVar
    rw [List.getElem?_set_self (by rw [List.length_set]; exact hj)]
    rfl
  · rw [enum_out hab (by rw [cD_len]; exact hb), cD_rm]; exact h
end BL
set_option Elab.async false
set_option linter.all false
set_option maxRecDepth 100000
set_option maxHeartbeats 1000000
namespace K14
open PySem BG BL L2
theorem law_differ_eq {i j : Nat} (hi : i < 18) (hj : j < 18) : f_law_differ [gk i, gk j] = ret (fdD i j) := by
  refine eq_of_W fun t => w_fn ?_
  show W (b_law_differ [.val (gk i), .val (gk j), .un] t) _
  unfold b_law_differ
  repeat (first | (with_reducible first | refine w_seq ?_ | refine w_asg ?_ | refine w_asgP ?_ | refine pr_i ?_ | refine w_eqI ?_ | refine w_neI ?_ | refine w_own ?_ | refine w_par ?_ | refine w_parO ?_ | refine w_expr ?_ | refine w_if ?_ | refine w_sret ?_ | refine w_nil ?_ | refine w_for ?_ | refine w_bin ?_ | refine w_un ?_ | refine w_tup ?_ | refine w_lst ?_ | refine w_call ?_ | refine w_and ?_ | refine w_or ?_ | refine w_ife ?_ | refine w_chain ?_ | refine w_slice ?_ | refine w_oN ?_ | refine w_oS ?_ | refine w_comp ?_ | refine w_itSeq ?_ | refine w_itR ?_ | refine w_evnil ?_ | refine w_evcons ?_ | refine w_evc1 ?_ | refine w_evc0 ?_ | refine w_c ?_ | refine nx_nx ?_ | refine nx_ret ?_ | refine bl_i ?_ | refine in_i ?_ | refine sq_t ?_ | refine sq_l ?_ | refine ls_l ?_ | refine tp_t ?_ | refine w_not ?_ | refine w_addI ?_ | refine w_sub ?_ | refine w_xor ?_ | refine w_ltI ?_ | refine w_leI ?_ | refine w_gtI ?_ | refine w_geI ?_ | refine w_slT ?_ | refine w_slL ?_ | refine w_lenT ?_ | refine w_lenL ?_ | refine w_lenS ?_ | refine w_tupL ?_ | refine w_tupT ?_ | refine w_lstL ?_ | refine w_lstT ?_ | refine w_neg ?_ | refine w_isn ?_ | refine w_isnn ?_ | refine w_begun ?_ | refine w_ret ?_ | refine w_resE ?_) | (with_reducible refine w_var (by with_unfolding_all rfl) ?_) | (with_reducible refine w_peekV (by with_unfolding_all rfl) ?_) | (with_reducible refine w_peekO (by with_unfolding_all rfl) ?_) | (with_reducible refine w_app (by with_unfolding_all rfl) ?_) | (with_reducible refine w_frz (by with_unfolding_all rfl) ?_) | (with_reducible refine w_scr (by with_unfolding_all rfl) ?_) | (with_reducible refine w_tc (by with_unfolding_all rfl) ?_) | (with_reducible refine w_stc (by with_unfolding_all rfl) ?_) | (with_reducible refine w_tr (by with_unfolding_all rfl) ?_) | (with_reducible refine w_str (by with_unfolding_all rfl) ?_) | (with_reducible refine w_idxT (by with_unfolding_all rfl) ?_) | (with_reducible refine w_idxL (by with_unfolding_all rfl) ?_) | (with_reducible refine w_isi (by with_unfolding_all rfl) ?_) | ((with_reducible first | refine w_addT ?_ ?_ | refine w_addL ?_ ?_ | refine w_mulI ?_ ?_ | refine w_mulT ?_ ?_ | refine w_mulL ?_ ?_ | refine w_mod ?_ ?_ | refine w_div ?_ ?_ | refine w_pow ?_ ?_ | refine w_rng ?_ ?_); (first | decide | omega | (refine ⟨?_, ?_⟩ <;> omega) | (refine ⟨?_, ?_, ?_⟩ <;> omega) | (simp only [List.length_cons, List.length_nil, List.length_append, List.length_reverse, BL.cD_len, BL.iD_len, BL.mkx_len, BL.sizeL]; omega) | (refine ⟨List.cons_ne_nil _ _, ?_⟩; simp only [List.length_cons, List.length_nil]; omega))) | ((with_reducible first | refine w_eqD ?_ ?_ ?_ | refine w_neD ?_ ?_ ?_ | refine w_inT ?_ ?_ ?_ | refine w_inL ?_ ?_ ?_); (first | rfl | with_unfolding_all rfl); (first | rfl | with_unfolding_all rfl)) | ((with_reducible refine ift_of ?_ ?_); (with_unfolding_all rfl)) | ((with_reducible refine iff_of ?_ ?_); (with_unfolding_all rfl)) | ((with_reducible refine ift2_of ?_ ?_); (with_unfolding_all rfl)) | ((with_reducible refine iff2_of ?_ ?_); (with_unfolding_all rfl)) | ((with_reducible refine ift_of ?_ ?_); exact decide_eq_true (by omega)) | ((with_reducible refine iff_of ?_ ?_); exact decide_eq_false (by omega)) | ((with_reducible refine ift2_of ?_ ?_); exact decide_eq_true (by omega)) | ((with_reducible refine iff2_of ?_ ?_); exact decide_eq_false (by omega)))
  refine ⟨by decide, by decide, ?_⟩
  refine diff_loop law_apply_eq hi hj (fun h x2 => ?_) fun w h => ?_
  · repeat (first | (with_reducible first | refine w_seq ?_ | refine w_asg ?_ | refine w_asgP ?_ | refine pr_i ?_ | refine w_eqI ?_ | refine w_neI ?_ | refine w_own ?_ | refine w_par ?_ | refine w_parO ?_ | refine w_expr ?_ | refine w_if ?_ | refine w_sret ?_ | refine w_nil ?_ | refine w_for ?_ | refine w_bin ?_ | refine w_un ?_ | refine w_tup ?_ | refine w_lst ?_ | refine w_call ?_ | refine w_and ?_ | refine w_or ?_ | refine w_ife ?_ | refine w_chain ?_ | refine w_slice ?_ | refine w_oN ?_ | refine w_oS ?_ | refine w_comp ?_ | refine w_itSeq ?_ | refine w_itR ?_ | refine w_evnil ?_ | refine w_evcons ?_ | refine w_evc1 ?_ | refine w_evc0 ?_ | refine w_c ?_ | refine nx_nx ?_ | refine nx_ret ?_ | refine bl_i ?_ | refine in_i ?_ | refine sq_t ?_ | refine sq_l ?_ | refine ls_l ?_ | refine tp_t ?_ | refine w_not ?_ | refine w_addI ?_ | refine w_sub ?_ | refine w_xor ?_ | refine w_ltI ?_ | refine w_leI ?_ | refine w_gtI ?_ | refine w_geI ?_ | refine w_slT ?_ | refine w_slL ?_ | refine w_lenT ?_ | refine w_lenL ?_ | refine w_lenS ?_ | refine w_tupL ?_ | refine w_tupT ?_ | refine w_lstL ?_ | refine w_lstT ?_ | refine w_neg ?_ | refine w_isn ?_ | refine w_isnn ?_ | refine w_begun ?_ | refine w_ret ?_ | refine w_resE ?_) | (with_reducible refine w_var (by with_unfolding_all rfl) ?_) | (with_reducible refine w_peekV (by with_unfolding_all rfl) ?_) | (with_reducible refine w_peekO (by with_unfolding_all rfl) ?_) | (with_reducible refine w_app (by with_unfolding_all rfl) ?_) | (with_reducible refine w_frz (by with_unfolding_all rfl) ?_) | (with_reducible refine w_scr (by with_unfolding_all rfl) ?_) | (with_reducible refine w_tc (by with_unfolding_all rfl) ?_) | (with_reducible refine w_stc (by with_unfolding_all rfl) ?_) | (with_reducible refine w_tr (by with_unfolding_all rfl) ?_) | (with_reducible refine w_str (by with_unfolding_all rfl) ?_) | (with_reducible refine w_idxT (by with_unfolding_all rfl) ?_) | (with_reducible refine w_idxL (by with_unfolding_all rfl) ?_) | (with_reducible refine w_isi (by with_unfolding_all rfl) ?_) | ((with_reducible first | refine w_addT ?_ ?_ | refine w_addL ?_ ?_ | refine w_mulI ?_ ?_ | refine w_mulT ?_ ?_ | refine w_mulL ?_ ?_ | refine w_mod ?_ ?_ | refine w_div ?_ ?_ | refine w_pow ?_ ?_ | refine w_rng ?_ ?_); (first | decide | omega | (refine ⟨?_, ?_⟩ <;> omega) | (refine ⟨?_, ?_, ?_⟩ <;> omega) | (simp only [List.length_cons, List.length_nil, List.length_append, List.length_reverse, BL.cD_len, BL.iD_len, BL.mkx_len, BL.sizeL]; omega) | (refine ⟨List.cons_ne_nil _ _, ?_⟩; simp only [List.length_cons, List.length_nil]; omega))) | ((with_reducible first | refine w_eqD ?_ ?_ ?_ | refine w_neD ?_ ?_ ?_ | refine w_inT ?_ ?_ ?_ | refine w_inL ?_ ?_ ?_); (first | rfl | with_unfolding_all rfl); (first | rfl | with_unfolding_all rfl)) | ((with_reducible refine ift_of ?_ ?_); (with_unfolding_all rfl)) | ((with_reducible refine iff_of ?_ ?_); (with_unfolding_all rfl)) | ((with_reducible refine ift2_of ?_ ?_); (with_unfolding_all rfl)) | ((with_reducible refine iff2_of ?_ ?_); (with_unfolding_all rfl)) | ((with_reducible refine ift_of ?_ ?_); exact decide_eq_true (by omega)) | ((with_reducible refine iff_of ?_ ?_); exact decide_eq_false (by omega)) | ((with_reducible refine ift2_of ?_ ?_); exact decide_eq_true (by omega)) | ((with_reducible refine iff2_of ?_ ?_); exact decide_eq_false (by omega)))
    unfold fdD; rw [h]; exact ⟨rfl, rfl⟩
  · unfold fdD; rw [h]; exact ⟨rfl, rfl⟩
theorem law_pairs_eq {c : List Nat} (hc : Gs c) (hl : c.length ≤ 1000) : f_law_pairs [.tup (cD c)] = ret (.tup (pairD (pairsG c))) := by
  have hsz := sizeL
  have l1 := cD_len c
  refine eq_of_W fun t => ?_
  unfold f_law_pairs
  with_reducible refine w_fn ?_
  rw [show slots0 5 [D.tup (cD c)] = [.val (.tup (cD c)), .un, .un, .un, .un] from rfl]
  unfold b_law_pairs
  repeat (first | (with_reducible first | refine w_seq ?_ | refine w_asg ?_ | refine w_asgP ?_ | refine pr_i ?_ | refine w_eqI ?_ | refine w_neI ?_ | refine w_own ?_ | refine w_par ?_ | refine w_parO ?_ | refine w_expr ?_ | refine w_if ?_ | refine w_sret ?_ | refine w_nil ?_ | refine w_for ?_ | refine w_bin ?_ | refine w_un ?_ | refine w_tup ?_ | refine w_lst ?_ | refine w_call ?_ | refine w_and ?_ | refine w_or ?_ | refine w_ife ?_ | refine w_chain ?_ | refine w_slice ?_ | refine w_oN ?_ | refine w_oS ?_ | refine w_comp ?_ | refine w_itSeq ?_ | refine w_itR ?_ | refine w_evnil ?_ | refine w_evcons ?_ | refine w_evc1 ?_ | refine w_evc0 ?_ | refine w_c ?_ | refine nx_nx ?_ | refine nx_ret ?_ | refine bl_i ?_ | refine in_i ?_ | refine sq_t ?_ | refine sq_l ?_ | refine ls_l ?_ | refine tp_t ?_ | refine w_not ?_ | refine w_addI ?_ | refine w_sub ?_ | refine w_xor ?_ | refine w_ltI ?_ | refine w_leI ?_ | refine w_gtI ?_ | refine w_geI ?_ | refine w_slT ?_ | refine w_slL ?_ | refine w_lenT ?_ | refine w_lenL ?_ | refine w_lenS ?_ | refine w_tupL ?_ | refine w_tupT ?_ | refine w_lstL ?_ | refine w_lstT ?_ | refine w_neg ?_ | refine w_isn ?_ | refine w_isnn ?_ | refine w_begun ?_ | refine w_ret ?_ | refine w_resE ?_) | (with_reducible refine w_var (by with_unfolding_all rfl) ?_) | (with_reducible refine w_peekV (by with_unfolding_all rfl) ?_) | (with_reducible refine w_peekO (by with_unfolding_all rfl) ?_) | (with_reducible refine w_app (by with_unfolding_all rfl) ?_) | (with_reducible refine w_frz (by with_unfolding_all rfl) ?_) | (with_reducible refine w_scr (by with_unfolding_all rfl) ?_) | (with_reducible refine w_tc (by with_unfolding_all rfl) ?_) | (with_reducible refine w_stc (by with_unfolding_all rfl) ?_) | (with_reducible refine w_tr (by with_unfolding_all rfl) ?_) | (with_reducible refine w_str (by with_unfolding_all rfl) ?_) | (with_reducible refine w_idxT (by with_unfolding_all rfl) ?_) | (with_reducible refine w_idxL (by with_unfolding_all rfl) ?_) | (with_reducible refine w_isi (by with_unfolding_all rfl) ?_) | ((with_reducible first | refine w_addT ?_ ?_ | refine w_addL ?_ ?_ | refine w_mulI ?_ ?_ | refine w_mulT ?_ ?_ | refine w_mulL ?_ ?_ | refine w_mod ?_ ?_ | refine w_div ?_ ?_ | refine w_pow ?_ ?_ | refine w_rng ?_ ?_); (first | decide | omega | (refine ⟨?_, ?_⟩ <;> omega) | (refine ⟨?_, ?_, ?_⟩ <;> omega) | (simp only [List.length_cons, List.length_nil, List.length_append, List.length_reverse, BL.cD_len, BL.iD_len, BL.mkx_len, BL.sizeL]; omega) | (refine ⟨List.cons_ne_nil _ _, ?_⟩; simp only [List.length_cons, List.length_nil]; omega))) | ((with_reducible first | refine w_eqD ?_ ?_ ?_ | refine w_neD ?_ ?_ ?_ | refine w_inT ?_ ?_ ?_ | refine w_inL ?_ ?_ ?_); (first | rfl | with_unfolding_all rfl); (first | rfl | with_unfolding_all rfl)) | ((with_reducible refine ift_of ?_ ?_); (with_unfolding_all rfl)) | ((with_reducible refine iff_of ?_ ?_); (with_unfolding_all rfl)) | ((with_reducible refine ift2_of ?_ ?_); (with_unfolding_all rfl)) | ((with_reducible refine iff2_of ?_ ?_); (with_unfolding_all rfl)) | ((with_reducible refine ift_of ?_ ?_); exact decide_eq_true (by omega)) | ((with_reducible refine iff_of ?_ ?_); exact decide_eq_false (by omega)) | ((with_reducible refine ift2_of ?_ ?_); exact decide_eq_true (by omega)) | ((with_reducible refine iff2_of ?_ ?_); exact decide_eq_false (by omega)))
  refine and_ri (by omega) (by rw [l1]; omega) ?_
  refine w_forI (fun k S t' => (∃ x2 x3 x4, S = [.val (.tup (cD c)), .own (pairD ((List.range k).flatMap fun a => ((List.range' (a + 1) (c.length - (a + 1))).filter (BM.canc cmG c a)).map fun b => (a, b))), x2, x3, x4]) ∧ t' = t) (k := 0) ⟨⟨_, _, _, rfl⟩, rfl⟩ (fun a d hd S t' ⟨⟨x2, x3, x4, hS⟩, ht⟩ => ?_) fun S t' ⟨⟨x2, x3, x4, hS⟩, ht⟩ => ?_
  · subst hS ht
    rw [Nat.zero_add]
    have ha : a < c.length ∧ d = .int (a : Int) := by
      unfold rng at hd
      rw [List.getElem?_map] at hd
      by_cases h : a < (((cD c).length : Nat) : Int).toNat
      · rw [List.getElem?_range h] at hd; cases hd; exact ⟨by omega, rfl⟩
      · rw [List.getElem?_eq_none (by rw [List.length_range]; omega)] at hd; cases hd
    obtain ⟨ha, rfl⟩ := ha
    have hi : c[a]? = some c[a] := List.getElem?_eq_getElem ha
    have hi18 := hc _ (List.getElem_mem ha)
    refine ⟨_, rfl, ?_⟩
    repeat (first | (with_reducible refine w_itR2 ?_) | (with_reducible first | refine w_seq ?_ | refine w_asg ?_ | refine w_asgP ?_ | refine pr_i ?_ | refine w_eqI ?_ | refine w_neI ?_ | refine w_own ?_ | refine w_par ?_ | refine w_parO ?_ | refine w_expr ?_ | refine w_if ?_ | refine w_sret ?_ | refine w_nil ?_ | refine w_for ?_ | refine w_bin ?_ | refine w_un ?_ | refine w_tup ?_ | refine w_lst ?_ | refine w_call ?_ | refine w_and ?_ | refine w_or ?_ | refine w_ife ?_ | refine w_chain ?_ | refine w_slice ?_ | refine w_oN ?_ | refine w_oS ?_ | refine w_comp ?_ | refine w_itSeq ?_ | refine w_itR ?_ | refine w_evnil ?_ | refine w_evcons ?_ | refine w_evc1 ?_ | refine w_evc0 ?_ | refine w_c ?_ | refine nx_nx ?_ | refine nx_ret ?_ | refine bl_i ?_ | refine in_i ?_ | refine sq_t ?_ | refine sq_l ?_ | refine ls_l ?_ | refine tp_t ?_ | refine w_not ?_ | refine w_addI ?_ | refine w_sub ?_ | refine w_xor ?_ | refine w_ltI ?_ | refine w_leI ?_ | refine w_gtI ?_ | refine w_geI ?_ | refine w_slT ?_ | refine w_slL ?_ | refine w_lenT ?_ | refine w_lenL ?_ | refine w_lenS ?_ | refine w_tupL ?_ | refine w_tupT ?_ | refine w_lstL ?_ | refine w_lstT ?_ | refine w_neg ?_ | refine w_isn ?_ | refine w_isnn ?_ | refine w_begun ?_ | refine w_ret ?_ | refine w_resE ?_) | (with_reducible refine w_var (by with_unfolding_all rfl) ?_) | (with_reducible refine w_peekV (by with_unfolding_all rfl) ?_) | (with_reducible refine w_peekO (by with_unfolding_all rfl) ?_) | (with_reducible refine w_app (by with_unfolding_all rfl) ?_) | (with_reducible refine w_frz (by with_unfolding_all rfl) ?_) | (with_reducible refine w_scr (by with_unfolding_all rfl) ?_) | (with_reducible refine w_tc (by with_unfolding_all rfl) ?_) | (with_reducible refine w_stc (by with_unfolding_all rfl) ?_) | (with_reducible refine w_tr (by with_unfolding_all rfl) ?_) | (with_reducible refine w_str (by with_unfolding_all rfl) ?_) | (with_reducible refine w_idxT (by with_unfolding_all rfl) ?_) | (with_reducible refine w_idxL (by with_unfolding_all rfl) ?_) | (with_reducible refine w_isi (by with_unfolding_all rfl) ?_) | ((with_reducible first | refine w_addT ?_ ?_ | refine w_addL ?_ ?_ | refine w_mulI ?_ ?_ | refine w_mulT ?_ ?_ | refine w_mulL ?_ ?_ | refine w_mod ?_ ?_ | refine w_div ?_ ?_ | refine w_pow ?_ ?_ | refine w_rng ?_ ?_); (first | decide | omega | (refine ⟨?_, ?_⟩ <;> omega) | (refine ⟨?_, ?_, ?_⟩ <;> omega) | (simp only [List.length_cons, List.length_nil, List.length_append, List.length_reverse, BL.cD_len, BL.iD_len, BL.mkx_len, BL.sizeL]; omega) | (refine ⟨List.cons_ne_nil _ _, ?_⟩; simp only [List.length_cons, List.length_nil]; omega))) | ((with_reducible first | refine w_eqD ?_ ?_ ?_ | refine w_neD ?_ ?_ ?_ | refine w_inT ?_ ?_ ?_ | refine w_inL ?_ ?_ ?_); (first | rfl | with_unfolding_all rfl); (first | rfl | with_unfolding_all rfl)) | ((with_reducible refine ift_of ?_ ?_); (with_unfolding_all rfl)) | ((with_reducible refine iff_of ?_ ?_); (with_unfolding_all rfl)) | ((with_reducible refine ift2_of ?_ ?_); (with_unfolding_all rfl)) | ((with_reducible refine iff2_of ?_ ?_); (with_unfolding_all rfl)) | ((with_reducible refine ift_of ?_ ?_); exact decide_eq_true (by omega)) | ((with_reducible refine iff_of ?_ ?_); exact decide_eq_false (by omega)) | ((with_reducible refine ift2_of ?_ ?_); exact decide_eq_true (by omega)) | ((with_reducible refine iff2_of ?_ ?_); exact decide_eq_false (by omega)))
    refine ⟨by omega, ?_⟩
    rw [show ((a : Int) + 1).toNat = a + 1 by omega, show (((cD c).length : Nat) : Int).toNat = c.length by omega]
    generalize hacc : (List.range a).flatMap (fun a => ((List.range' (a + 1) (c.length - (a + 1))).filter (BM.canc cmG c a)).map fun b => (a, b)) = acc
    have hacl : acc.length ≤ a * 1000 := by
      rw [← hacc, List.length_flatMap]
      have : ∀ n, (((List.range n).map fun a => (((List.range' (a + 1) (c.length - (a + 1))).filter (BM.canc cmG c a)).map fun b => (a, b)).length).sum) ≤ n * 1000 := by
        intro n
        induction n with
        | zero => simp
        | succ n ih =>
          rw [List.range_succ, List.map_append, List.sum_append]
          have h1 := List.length_filter_le (BM.canc cmG c n) (List.range' (n + 1) (c.length - (n + 1)))
          rw [List.length_range'] at h1
          simp only [List.map_cons, List.map_nil, List.sum_cons, List.sum_nil, List.length_map] at ih ⊢
          omega
      have q := this a
      simpa using q
    refine w_forI (fun k S t2 => (∃ x4, S = [.val (.tup (cD c)), .own (pairD (acc ++ ((List.range' (a + 1) k).filter (BM.canc cmG c a)).map fun b => (a, b))), .val (.int (a : Int)), .val (.bl (((c.drop (a + 1)).take k).all fun x => cmG c[a] x)), x4]) ∧ t2 = t') (k := 0) ⟨⟨x4, by simp⟩, rfl⟩ (fun k d hd S t2 ⟨⟨x4, hS⟩, ht⟩ => ?_) fun S t2 ⟨⟨x4, hS⟩, ht⟩ => ?_
    · subst hS ht
      rw [Nat.zero_add]
      have hk : k < c.length - (a + 1) ∧ d = .int ((a + 1 + k : Nat) : Int) := by
        unfold iD at hd
        rw [List.getElem?_map] at hd
        by_cases h : k < c.length - (a + 1)
        · rw [List.getElem?_range' h] at hd; cases hd; exact ⟨h, by rw [Nat.one_mul]⟩
        · rw [List.getElem?_eq_none (by rw [List.length_range']; omega)] at hd; cases hd
      obtain ⟨hk1, rfl⟩ := hk
      refine ⟨_, rfl, ?_⟩
      have hb : a + 1 + k < c.length := by omega
      have hj : c[a + 1 + k]? = some c[a + 1 + k] := List.getElem?_eq_getElem hb
      have hj18 := hc _ (List.getElem_mem hb)
      have ecanc : BM.canc cmG c a (a + 1 + k) = (decide (c[a + 1 + k] = c[a]) && ((c.drop (a + 1)).take k).all fun x => cmG c[a] x) := by
        unfold BM.canc
        rw [hj, hi, show a + 1 + k - (a + 1) = k by omega, List.getD_eq_getElem?_getD, hi]
        congr 1
        simp
      have hlen : (pairD (acc ++ ((List.range' (a + 1) k).filter (BM.canc cmG c a)).map fun b => (a, b))).length ≤ 1001000 + acc.length := by
        unfold pairD
        rw [List.length_map, List.length_append, List.length_map]
        have := List.length_filter_le (BM.canc cmG c a) (List.range' (a + 1) k)
        rw [List.length_range'] at this
        omega
      have enext : ((c.drop (a + 1)).take (k + 1)).all (fun x => cmG c[a] x) = (((c.drop (a + 1)).take k).all (fun x => cmG c[a] x) && cmG c[a] c[a + 1 + k]) := by
        rw [List.take_add_one, List.getElem?_drop, hj, List.all_append]
        simp
      have eyes : BM.canc cmG c a (a + 1 + k) = true → pairD (acc ++ ((List.range' (a + 1) (k + 1)).filter (BM.canc cmG c a)).map fun b => (a, b)) = pairD (acc ++ ((List.range' (a + 1) k).filter (BM.canc cmG c a)).map fun b => (a, b)) ++ [.tup [.int (a : Int), .int ((a + 1 + k : Nat) : Int)]] := fun ec => by
        rw [List.range'_concat, List.filter_append, List.map_append, Nat.one_mul, List.filter_cons, if_pos ec]
        unfold pairD
        rw [← List.append_assoc, List.map_append (l₁ := acc ++ _)]
        rfl
      have eno : BM.canc cmG c a (a + 1 + k) = false → pairD (acc ++ ((List.range' (a + 1) (k + 1)).filter (BM.canc cmG c a)).map fun b => (a, b)) = pairD (acc ++ ((List.range' (a + 1) k).filter (BM.canc cmG c a)).map fun b => (a, b)) := fun ec => by
        rw [List.range'_concat, List.filter_append, List.map_append, Nat.one_mul, List.filter_cons, if_neg (by rw [ec]; decide)]
        simp
      have dd := law_differ_eq hi18 hj18
      have eN := fdD_isN c[a] c[a + 1 + k]
      cases hg : ((c.drop (a + 1)).take k).all fun x => cmG c[a] x with
      | false =>
        have ec := ecanc
        rw [hg, Bool.and_false] at ec
        repeat (first | (with_reducible first | refine w_seq ?_ | refine w_asg ?_ | refine w_asgP ?_ | refine pr_i ?_ | refine w_eqI ?_ | refine w_neI ?_ | refine w_own ?_ | refine w_par ?_ | refine w_parO ?_ | refine w_expr ?_ | refine w_if ?_ | refine w_sret ?_ | refine w_nil ?_ | refine w_for ?_ | refine w_bin ?_ | refine w_un ?_ | refine w_tup ?_ | refine w_lst ?_ | refine w_call ?_ | refine w_and ?_ | refine w_or ?_ | refine w_ife ?_ | refine w_chain ?_ | refine w_slice ?_ | refine w_oN ?_ | refine w_oS ?_ | refine w_comp ?_ | refine w_itSeq ?_ | refine w_itR ?_ | refine w_evnil ?_ | refine w_evcons ?_ | refine w_evc1 ?_ | refine w_evc0 ?_ | refine w_c ?_ | refine nx_nx ?_ | refine nx_ret ?_ | refine bl_i ?_ | refine in_i ?_ | refine sq_t ?_ | refine sq_l ?_ | refine ls_l ?_ | refine tp_t ?_ | refine w_not ?_ | refine w_addI ?_ | refine w_sub ?_ | refine w_xor ?_ | refine w_ltI ?_ | refine w_leI ?_ | refine w_gtI ?_ | refine w_geI ?_ | refine w_slT ?_ | refine w_slL ?_ | refine w_lenT ?_ | refine w_lenL ?_ | refine w_lenS ?_ | refine w_tupL ?_ | refine w_tupT ?_ | refine w_lstL ?_ | refine w_lstT ?_ | refine w_neg ?_ | refine w_isn ?_ | refine w_isnn ?_ | refine w_begun ?_ | refine w_ret ?_ | refine w_resE ?_) | (with_reducible refine w_var (by with_unfolding_all rfl) ?_) | (with_reducible refine w_peekV (by with_unfolding_all rfl) ?_) | (with_reducible refine w_peekO (by with_unfolding_all rfl) ?_) | (with_reducible refine w_app (by with_unfolding_all rfl) ?_) | (with_reducible refine w_frz (by with_unfolding_all rfl) ?_) | (with_reducible refine w_scr (by with_unfolding_all rfl) ?_) | (with_reducible refine w_tc (by with_unfolding_all rfl) ?_) | (with_reducible refine w_stc (by with_unfolding_all rfl) ?_) | (with_reducible refine w_tr (by with_unfolding_all rfl) ?_) | (with_reducible refine w_str (by with_unfolding_all rfl) ?_) | (with_reducible refine w_idxT (by with_unfolding_all rfl) ?_) | (with_reducible refine w_idxL (by with_unfolding_all rfl) ?_) | (with_reducible refine w_isi (by with_unfolding_all rfl) ?_) | ((with_reducible first | refine w_addT ?_ ?_ | refine w_addL ?_ ?_ | refine w_mulI ?_ ?_ | refine w_mulT ?_ ?_ | refine w_mulL ?_ ?_ | refine w_mod ?_ ?_ | refine w_div ?_ ?_ | refine w_pow ?_ ?_ | refine w_rng ?_ ?_); (first | decide | omega | (refine ⟨?_, ?_⟩ <;> omega) | (refine ⟨?_, ?_, ?_⟩ <;> omega) | (simp only [List.length_cons, List.length_nil, List.length_append, List.length_reverse, BL.cD_len, BL.iD_len, BL.mkx_len, BL.sizeL]; omega) | (refine ⟨List.cons_ne_nil _ _, ?_⟩; simp only [List.length_cons, List.length_nil]; omega))) | ((with_reducible first | refine w_eqD ?_ ?_ ?_ | refine w_neD ?_ ?_ ?_ | refine w_inT ?_ ?_ ?_ | refine w_inL ?_ ?_ ?_); (first | rfl | with_unfolding_all rfl); (first | rfl | with_unfolding_all rfl)) | ((with_reducible refine ift_of ?_ ?_); (with_unfolding_all rfl)) | ((with_reducible refine iff_of ?_ ?_); (with_unfolding_all rfl)) | ((with_reducible refine ift2_of ?_ ?_); (with_unfolding_all rfl)) | ((with_reducible refine iff2_of ?_ ?_); (with_unfolding_all rfl)) | ((with_reducible refine ift_of ?_ ?_); exact decide_eq_true (by omega)) | ((with_reducible refine iff_of ?_ ?_); exact decide_eq_false (by omega)) | ((with_reducible refine ift2_of ?_ ?_); exact decide_eq_true (by omega)) | ((with_reducible refine iff2_of ?_ ?_); exact decide_eq_false (by omega)))
        refine ⟨⟨.val (.int ((a + 1 + k : Nat) : Int)), ?_⟩, rfl⟩
        rw [eno ec, enext, hg]
        rfl
      | true =>
        rw [hg, Bool.and_true] at ecanc
        repeat (first | (with_reducible refine w_idxT (cD_idx hj) ?_) | (with_reducible refine w_idxT (cD_idx hi) ?_) | (with_reducible refine w_eqG hj18 hi18 ?_) | (with_reducible first | refine w_seq ?_ | refine w_asg ?_ | refine w_asgP ?_ | refine pr_i ?_ | refine w_eqI ?_ | refine w_neI ?_ | refine w_own ?_ | refine w_par ?_ | refine w_parO ?_ | refine w_expr ?_ | refine w_if ?_ | refine w_sret ?_ | refine w_nil ?_ | refine w_for ?_ | refine w_bin ?_ | refine w_un ?_ | refine w_tup ?_ | refine w_lst ?_ | refine w_call ?_ | refine w_and ?_ | refine w_or ?_ | refine w_ife ?_ | refine w_chain ?_ | refine w_slice ?_ | refine w_oN ?_ | refine w_oS ?_ | refine w_comp ?_ | refine w_itSeq ?_ | refine w_itR ?_ | refine w_evnil ?_ | refine w_evcons ?_ | refine w_evc1 ?_ | refine w_evc0 ?_ | refine w_c ?_ | refine nx_nx ?_ | refine nx_ret ?_ | refine bl_i ?_ | refine in_i ?_ | refine sq_t ?_ | refine sq_l ?_ | refine ls_l ?_ | refine tp_t ?_ | refine w_not ?_ | refine w_addI ?_ | refine w_sub ?_ | refine w_xor ?_ | refine w_ltI ?_ | refine w_leI ?_ | refine w_gtI ?_ | refine w_geI ?_ | refine w_slT ?_ | refine w_slL ?_ | refine w_lenT ?_ | refine w_lenL ?_ | refine w_lenS ?_ | refine w_tupL ?_ | refine w_tupT ?_ | refine w_lstL ?_ | refine w_lstT ?_ | refine w_neg ?_ | refine w_isn ?_ | refine w_isnn ?_ | refine w_begun ?_ | refine w_ret ?_ | refine w_resE ?_) | (with_reducible refine w_var (by with_unfolding_all rfl) ?_) | (with_reducible refine w_peekV (by with_unfolding_all rfl) ?_) | (with_reducible refine w_peekO (by with_unfolding_all rfl) ?_) | (with_reducible refine w_app (by with_unfolding_all rfl) ?_) | (with_reducible refine w_frz (by with_unfolding_all rfl) ?_) | (with_reducible refine w_scr (by with_unfolding_all rfl) ?_) | (with_reducible refine w_tc (by with_unfolding_all rfl) ?_) | (with_reducible refine w_stc (by with_unfolding_all rfl) ?_) | (with_reducible refine w_tr (by with_unfolding_all rfl) ?_) | (with_reducible refine w_str (by with_unfolding_all rfl) ?_) | (with_reducible refine w_idxT (by with_unfolding_all rfl) ?_) | (with_reducible refine w_idxL (by with_unfolding_all rfl) ?_) | (with_reducible refine w_isi (by with_unfolding_all rfl) ?_) | ((with_reducible first | refine w_addT ?_ ?_ | refine w_addL ?_ ?_ | refine w_mulI ?_ ?_ | refine w_mulT ?_ ?_ | refine w_mulL ?_ ?_ | refine w_mod ?_ ?_ | refine w_div ?_ ?_ | refine w_pow ?_ ?_ | refine w_rng ?_ ?_); (first | decide | omega | (refine ⟨?_, ?_⟩ <;> omega) | (refine ⟨?_, ?_, ?_⟩ <;> omega) | (simp only [List.length_cons, List.length_nil, List.length_append, List.length_reverse, BL.cD_len, BL.iD_len, BL.mkx_len, BL.sizeL]; omega) | (refine ⟨List.cons_ne_nil _ _, ?_⟩; simp only [List.length_cons, List.length_nil]; omega))) | ((with_reducible first | refine w_eqD ?_ ?_ ?_ | refine w_neD ?_ ?_ ?_ | refine w_inT ?_ ?_ ?_ | refine w_inL ?_ ?_ ?_); (first | rfl | with_unfolding_all rfl); (first | rfl | with_unfolding_all rfl)) | ((with_reducible refine ift_of ?_ ?_); (with_unfolding_all rfl)) | ((with_reducible refine iff_of ?_ ?_); (with_unfolding_all rfl)) | ((with_reducible refine ift2_of ?_ ?_); (with_unfolding_all rfl)) | ((with_reducible refine iff2_of ?_ ?_); (with_unfolding_all rfl)) | ((with_reducible refine ift_of ?_ ?_); exact decide_eq_true (by omega)) | ((with_reducible refine iff_of ?_ ?_); exact decide_eq_false (by omega)) | ((with_reducible refine ift2_of ?_ ?_); exact decide_eq_true (by omega)) | ((with_reducible refine iff2_of ?_ ?_); exact decide_eq_false (by omega)))
        refine ⟨fun e => ?_, fun e => ?_⟩
        · rw [e] at ecanc
          repeat (first | (with_reducible first | refine w_seq ?_ | refine w_asg ?_ | refine w_asgP ?_ | refine pr_i ?_ | refine w_eqI ?_ | refine w_neI ?_ | refine w_own ?_ | refine w_par ?_ | refine w_parO ?_ | refine w_expr ?_ | refine w_if ?_ | refine w_sret ?_ | refine w_nil ?_ | refine w_for ?_ | refine w_bin ?_ | refine w_un ?_ | refine w_tup ?_ | refine w_lst ?_ | refine w_call ?_ | refine w_and ?_ | refine w_or ?_ | refine w_ife ?_ | refine w_chain ?_ | refine w_slice ?_ | refine w_oN ?_ | refine w_oS ?_ | refine w_comp ?_ | refine w_itSeq ?_ | refine w_itR ?_ | refine w_evnil ?_ | refine w_evcons ?_ | refine w_evc1 ?_ | refine w_evc0 ?_ | refine w_c ?_ | refine nx_nx ?_ | refine nx_ret ?_ | refine bl_i ?_ | refine in_i ?_ | refine sq_t ?_ | refine sq_l ?_ | refine ls_l ?_ | refine tp_t ?_ | refine w_not ?_ | refine w_addI ?_ | refine w_sub ?_ | refine w_xor ?_ | refine w_ltI ?_ | refine w_leI ?_ | refine w_gtI ?_ | refine w_geI ?_ | refine w_slT ?_ | refine w_slL ?_ | refine w_lenT ?_ | refine w_lenL ?_ | refine w_lenS ?_ | refine w_tupL ?_ | refine w_tupT ?_ | refine w_lstL ?_ | refine w_lstT ?_ | refine w_neg ?_ | refine w_isn ?_ | refine w_isnn ?_ | refine w_begun ?_ | refine w_ret ?_ | refine w_resE ?_) | (with_reducible refine w_var (by with_unfolding_all rfl) ?_) | (with_reducible refine w_peekV (by with_unfolding_all rfl) ?_) | (with_reducible refine w_peekO (by with_unfolding_all rfl) ?_) | (with_reducible refine w_app (by with_unfolding_all rfl) ?_) | (with_reducible refine w_frz (by with_unfolding_all rfl) ?_) | (with_reducible refine w_scr (by with_unfolding_all rfl) ?_) | (with_reducible refine w_tc (by with_unfolding_all rfl) ?_) | (with_reducible refine w_stc (by with_unfolding_all rfl) ?_) | (with_reducible refine w_tr (by with_unfolding_all rfl) ?_) | (with_reducible refine w_str (by with_unfolding_all rfl) ?_) | (with_reducible refine w_idxT (by with_unfolding_all rfl) ?_) | (with_reducible refine w_idxL (by with_unfolding_all rfl) ?_) | (with_reducible refine w_isi (by with_unfolding_all rfl) ?_) | ((with_reducible first | refine w_addT ?_ ?_ | refine w_addL ?_ ?_ | refine w_mulI ?_ ?_ | refine w_mulT ?_ ?_ | refine w_mulL ?_ ?_ | refine w_mod ?_ ?_ | refine w_div ?_ ?_ | refine w_pow ?_ ?_ | refine w_rng ?_ ?_); (first | decide | omega | (refine ⟨?_, ?_⟩ <;> omega) | (refine ⟨?_, ?_, ?_⟩ <;> omega) | (simp only [List.length_cons, List.length_nil, List.length_append, List.length_reverse, BL.cD_len, BL.iD_len, BL.mkx_len, BL.sizeL]; omega) | (refine ⟨List.cons_ne_nil _ _, ?_⟩; simp only [List.length_cons, List.length_nil]; omega))) | ((with_reducible first | refine w_eqD ?_ ?_ ?_ | refine w_neD ?_ ?_ ?_ | refine w_inT ?_ ?_ ?_ | refine w_inL ?_ ?_ ?_); (first | rfl | with_unfolding_all rfl); (first | rfl | with_unfolding_all rfl)) | ((with_reducible refine ift_of ?_ ?_); (with_unfolding_all rfl)) | ((with_reducible refine iff_of ?_ ?_); (with_unfolding_all rfl)) | ((with_reducible refine ift2_of ?_ ?_); (with_unfolding_all rfl)) | ((with_reducible refine iff2_of ?_ ?_); (with_unfolding_all rfl)) | ((with_reducible refine ift_of ?_ ?_); exact decide_eq_true (by omega)) | ((with_reducible refine iff_of ?_ ?_); exact decide_eq_false (by omega)) | ((with_reducible refine ift2_of ?_ ?_); exact decide_eq_true (by omega)) | ((with_reducible refine iff2_of ?_ ?_); exact decide_eq_false (by omega)))
          refine ⟨by omega, ?_⟩
          repeat (first | (with_reducible refine w_idxT (cD_idx hj) ?_) | (with_reducible refine w_idxT (cD_idx hi) ?_) | (with_reducible refine w_eq dd ?_) | (with_reducible first | refine w_seq ?_ | refine w_asg ?_ | refine w_asgP ?_ | refine pr_i ?_ | refine w_eqI ?_ | refine w_neI ?_ | refine w_own ?_ | refine w_par ?_ | refine w_parO ?_ | refine w_expr ?_ | refine w_if ?_ | refine w_sret ?_ | refine w_nil ?_ | refine w_for ?_ | refine w_bin ?_ | refine w_un ?_ | refine w_tup ?_ | refine w_lst ?_ | refine w_call ?_ | refine w_and ?_ | refine w_or ?_ | refine w_ife ?_ | refine w_chain ?_ | refine w_slice ?_ | refine w_oN ?_ | refine w_oS ?_ | refine w_comp ?_ | refine w_itSeq ?_ | refine w_itR ?_ | refine w_evnil ?_ | refine w_evcons ?_ | refine w_evc1 ?_ | refine w_evc0 ?_ | refine w_c ?_ | refine nx_nx ?_ | refine nx_ret ?_ | refine bl_i ?_ | refine in_i ?_ | refine sq_t ?_ | refine sq_l ?_ | refine ls_l ?_ | refine tp_t ?_ | refine w_not ?_ | refine w_addI ?_ | refine w_sub ?_ | refine w_xor ?_ | refine w_ltI ?_ | refine w_leI ?_ | refine w_gtI ?_ | refine w_geI ?_ | refine w_slT ?_ | refine w_slL ?_ | refine w_lenT ?_ | refine w_lenL ?_ | refine w_lenS ?_ | refine w_tupL ?_ | refine w_tupT ?_ | refine w_lstL ?_ | refine w_lstT ?_ | refine w_neg ?_ | refine w_isn ?_ | refine w_isnn ?_ | refine w_begun ?_ | refine w_ret ?_ | refine w_resE ?_) | (with_reducible refine w_var (by with_unfolding_all rfl) ?_) | (with_reducible refine w_peekV (by with_unfolding_all rfl) ?_) | (with_reducible refine w_peekO (by with_unfolding_all rfl) ?_) | (with_reducible refine w_app (by with_unfolding_all rfl) ?_) | (with_reducible refine w_frz (by with_unfolding_all rfl) ?_) | (with_reducible refine w_scr (by with_unfolding_all rfl) ?_) | (with_reducible refine w_tc (by with_unfolding_all rfl) ?_) | (with_reducible refine w_stc (by with_unfolding_all rfl) ?_) | (with_reducible refine w_tr (by with_unfolding_all rfl) ?_) | (with_reducible refine w_str (by with_unfolding_all rfl) ?_) | (with_reducible refine w_idxT (by with_unfolding_all rfl) ?_) | (with_reducible refine w_idxL (by with_unfolding_all rfl) ?_) | (with_reducible refine w_isi (by with_unfolding_all rfl) ?_) | ((with_reducible first | refine w_addT ?_ ?_ | refine w_addL ?_ ?_ | refine w_mulI ?_ ?_ | refine w_mulT ?_ ?_ | refine w_mulL ?_ ?_ | refine w_mod ?_ ?_ | refine w_div ?_ ?_ | refine w_pow ?_ ?_ | refine w_rng ?_ ?_); (first | decide | omega | (refine ⟨?_, ?_⟩ <;> omega) | (refine ⟨?_, ?_, ?_⟩ <;> omega) | (simp only [List.length_cons, List.length_nil, List.length_append, List.length_reverse, BL.cD_len, BL.iD_len, BL.mkx_len, BL.sizeL]; omega) | (refine ⟨List.cons_ne_nil _ _, ?_⟩; simp only [List.length_cons, List.length_nil]; omega))) | ((with_reducible first | refine w_eqD ?_ ?_ ?_ | refine w_neD ?_ ?_ ?_ | refine w_inT ?_ ?_ ?_ | refine w_inL ?_ ?_ ?_); (first | rfl | with_unfolding_all rfl); (first | rfl | with_unfolding_all rfl)) | ((with_reducible refine ift_of ?_ ?_); (with_unfolding_all rfl)) | ((with_reducible refine iff_of ?_ ?_); (with_unfolding_all rfl)) | ((with_reducible refine ift2_of ?_ ?_); (with_unfolding_all rfl)) | ((with_reducible refine iff2_of ?_ ?_); (with_unfolding_all rfl)) | ((with_reducible refine ift_of ?_ ?_); exact decide_eq_true (by omega)) | ((with_reducible refine iff_of ?_ ?_); exact decide_eq_false (by omega)) | ((with_reducible refine ift2_of ?_ ?_); exact decide_eq_true (by omega)) | ((with_reducible refine iff2_of ?_ ?_); exact decide_eq_false (by omega)))
          refine ⟨⟨.val (.int ((a + 1 + k : Nat) : Int)), ?_⟩, rfl⟩
          rw [eyes ecanc, enext, hg, eN]
          rfl
        · rw [e] at ecanc
          repeat (first | (with_reducible refine w_idxT (cD_idx hj) ?_) | (with_reducible refine w_idxT (cD_idx hi) ?_) | (with_reducible refine w_eq dd ?_) | (with_reducible first | refine w_seq ?_ | refine w_asg ?_ | refine w_asgP ?_ | refine pr_i ?_ | refine w_eqI ?_ | refine w_neI ?_ | refine w_own ?_ | refine w_par ?_ | refine w_parO ?_ | refine w_expr ?_ | refine w_if ?_ | refine w_sret ?_ | refine w_nil ?_ | refine w_for ?_ | refine w_bin ?_ | refine w_un ?_ | refine w_tup ?_ | refine w_lst ?_ | refine w_call ?_ | refine w_and ?_ | refine w_or ?_ | refine w_ife ?_ | refine w_chain ?_ | refine w_slice ?_ | refine w_oN ?_ | refine w_oS ?_ | refine w_comp ?_ | refine w_itSeq ?_ | refine w_itR ?_ | refine w_evnil ?_ | refine w_evcons ?_ | refine w_evc1 ?_ | refine w_evc0 ?_ | refine w_c ?_ | refine nx_nx ?_ | refine nx_ret ?_ | refine bl_i ?_ | refine in_i ?_ | refine sq_t ?_ | refine sq_l ?_ | refine ls_l ?_ | refine tp_t ?_ | refine w_not ?_ | refine w_addI ?_ | refine w_sub ?_ | refine w_xor ?_ | refine w_ltI ?_ | refine w_leI ?_ | refine w_gtI ?_ | refine w_geI ?_ | refine w_slT ?_ | refine w_slL ?_ | refine w_lenT ?_ | refine w_lenL ?_ | refine w_lenS ?_ | refine w_tupL ?_ | refine w_tupT ?_ | refine w_lstL ?_ | refine w_lstT ?_ | refine w_neg ?_ | refine w_isn ?_ | refine w_isnn ?_ | refine w_begun ?_ | refine w_ret ?_ | refine w_resE ?_) | (with_reducible refine w_var (by with_unfolding_all rfl) ?_) | (with_reducible refine w_peekV (by with_unfolding_all rfl) ?_) | (with_reducible refine w_peekO (by with_unfolding_all rfl) ?_) | (with_reducible refine w_app (by with_unfolding_all rfl) ?_) | (with_reducible refine w_frz (by with_unfolding_all rfl) ?_) | (with_reducible refine w_scr (by with_unfolding_all rfl) ?_) | (with_reducible refine w_tc (by with_unfolding_all rfl) ?_) | (with_reducible refine w_stc (by with_unfolding_all rfl) ?_) | (with_reducible refine w_tr (by with_unfolding_all rfl) ?_) | (with_reducible refine w_str (by with_unfolding_all rfl) ?_) | (with_reducible refine w_idxT (by with_unfolding_all rfl) ?_) | (with_reducible refine w_idxL (by with_unfolding_all rfl) ?_) | (with_reducible refine w_isi (by with_unfolding_all rfl) ?_) | ((with_reducible first | refine w_addT ?_ ?_ | refine w_addL ?_ ?_ | refine w_mulI ?_ ?_ | refine w_mulT ?_ ?_ | refine w_mulL ?_ ?_ | refine w_mod ?_ ?_ | refine w_div ?_ ?_ | refine w_pow ?_ ?_ | refine w_rng ?_ ?_); (first | decide | omega | (refine ⟨?_, ?_⟩ <;> omega) | (refine ⟨?_, ?_, ?_⟩ <;> omega) | (simp only [List.length_cons, List.length_nil, List.length_append, List.length_reverse, BL.cD_len, BL.iD_len, BL.mkx_len, BL.sizeL]; omega) | (refine ⟨List.cons_ne_nil _ _, ?_⟩; simp only [List.length_cons, List.length_nil]; omega))) | ((with_reducible first | refine w_eqD ?_ ?_ ?_ | refine w_neD ?_ ?_ ?_ | refine w_inT ?_ ?_ ?_ | refine w_inL ?_ ?_ ?_); (first | rfl | with_unfolding_all rfl); (first | rfl | with_unfolding_all rfl)) | ((with_reducible refine ift_of ?_ ?_); (with_unfolding_all rfl)) | ((with_reducible refine iff_of ?_ ?_); (with_unfolding_all rfl)) | ((with_reducible refine ift2_of ?_ ?_); (with_unfolding_all rfl)) | ((with_reducible refine iff2_of ?_ ?_); (with_unfolding_all rfl)) | ((with_reducible refine ift_of ?_ ?_); exact decide_eq_true (by omega)) | ((with_reducible refine iff_of ?_ ?_); exact decide_eq_false (by omega)) | ((with_reducible refine ift2_of ?_ ?_); exact decide_eq_true (by omega)) | ((with_reducible refine iff2_of ?_ ?_); exact decide_eq_false (by omega)))
          refine ⟨⟨.val (.int ((a + 1 + k : Nat) : Int)), ?_⟩, rfl⟩
          rw [eno ecanc, enext, hg, eN]
          rfl
    · subst hS ht
      refine nx_nx ⟨⟨.val (.int (a : Int)), .val (.bl (((c.drop (a + 1)).take (c.length - (a + 1))).all fun x => cmG c[a] x)), x4, ?_⟩, rfl⟩
      rw [iD_len, List.length_range', Nat.zero_add, List.range_succ, List.flatMap_append, hacc]
      simp
  · subst hS ht
    have e : 0 + (rng (((cD c).length : Nat) : Int).toNat).length = c.length := by
      unfold rng; rw [List.length_map, List.length_range]; omega
    rw [e]
    repeat (first | (with_reducible first | refine w_seq ?_ | refine w_asg ?_ | refine w_asgP ?_ | refine pr_i ?_ | refine w_eqI ?_ | refine w_neI ?_ | refine w_own ?_ | refine w_par ?_ | refine w_parO ?_ | refine w_expr ?_ | refine w_if ?_ | refine w_sret ?_ | refine w_nil ?_ | refine w_for ?_ | refine w_bin ?_ | refine w_un ?_ | refine w_tup ?_ | refine w_lst ?_ | refine w_call ?_ | refine w_and ?_ | refine w_or ?_ | refine w_ife ?_ | refine w_chain ?_ | refine w_slice ?_ | refine w_oN ?_ | refine w_oS ?_ | refine w_comp ?_ | refine w_itSeq ?_ | refine w_itR ?_ | refine w_evnil ?_ | refine w_evcons ?_ | refine w_evc1 ?_ | refine w_evc0 ?_ | refine w_c ?_ | refine nx_nx ?_ | refine nx_ret ?_ | refine bl_i ?_ | refine in_i ?_ | refine sq_t ?_ | refine sq_l ?_ | refine ls_l ?_ | refine tp_t ?_ | refine w_not ?_ | refine w_addI ?_ | refine w_sub ?_ | refine w_xor ?_ | refine w_ltI ?_ | refine w_leI ?_ | refine w_gtI ?_ | refine w_geI ?_ | refine w_slT ?_ | refine w_slL ?_ | refine w_lenT ?_ | refine w_lenL ?_ | refine w_lenS ?_ | refine w_tupL ?_ | refine w_tupT ?_ | refine w_lstL ?_ | refine w_lstT ?_ | refine w_neg ?_ | refine w_isn ?_ | refine w_isnn ?_ | refine w_begun ?_ | refine w_ret ?_ | refine w_resE ?_) | (with_reducible refine w_var (by with_unfolding_all rfl) ?_) | (with_reducible refine w_peekV (by with_unfolding_all rfl) ?_) | (with_reducible refine w_peekO (by with_unfolding_all rfl) ?_) | (with_reducible refine w_app (by with_unfolding_all rfl) ?_) | (with_reducible refine w_frz (by with_unfolding_all rfl) ?_) | (with_reducible refine w_scr (by with_unfolding_all rfl) ?_) | (with_reducible refine w_tc (by with_unfolding_all rfl) ?_) | (with_reducible refine w_stc (by with_unfolding_all rfl) ?_) | (with_reducible refine w_tr (by with_unfolding_all rfl) ?_) | (with_reducible refine w_str (by with_unfolding_all rfl) ?_) | (with_reducible refine w_idxT (by with_unfolding_all rfl) ?_) | (with_reducible refine w_idxL (by with_unfolding_all rfl) ?_) | (with_reducible refine w_isi (by with_unfolding_all rfl) ?_) | ((with_reducible first | refine w_addT ?_ ?_ | refine w_addL ?_ ?_ | refine w_mulI ?_ ?_ | refine w_mulT ?_ ?_ | refine w_mulL ?_ ?_ | refine w_mod ?_ ?_ | refine w_div ?_ ?_ | refine w_pow ?_ ?_ | refine w_rng ?_ ?_); (first | decide | omega | (refine ⟨?_, ?_⟩ <;> omega) | (refine ⟨?_, ?_, ?_⟩ <;> omega) | (simp only [List.length_cons, List.length_nil, List.length_append, List.length_reverse, BL.cD_len, BL.iD_len, BL.mkx_len, BL.sizeL]; omega) | (refine ⟨List.cons_ne_nil _ _, ?_⟩; simp only [List.length_cons, List.length_nil]; omega))) | ((with_reducible first | refine w_eqD ?_ ?_ ?_ | refine w_neD ?_ ?_ ?_ | refine w_inT ?_ ?_ ?_ | refine w_inL ?_ ?_ ?_); (first | rfl | with_unfolding_all rfl); (first | rfl | with_unfolding_all rfl)) | ((with_reducible refine ift_of ?_ ?_); (with_unfolding_all rfl)) | ((with_reducible refine iff_of ?_ ?_); (with_unfolding_all rfl)) | ((with_reducible refine ift2_of ?_ ?_); (with_unfolding_all rfl)) | ((with_reducible refine iff2_of ?_ ?_); (with_unfolding_all rfl)) | ((with_reducible refine ift_of ?_ ?_); exact decide_eq_true (by omega)) | ((with_reducible refine iff_of ?_ ?_); exact decide_eq_false (by omega)) | ((with_reducible refine ift2_of ?_ ?_); exact decide_eq_true (by omega)) | ((with_reducible refine iff2_of ?_ ?_); exact decide_eq_false (by omega)))
    exact ⟨rfl, rfl⟩
theorem law_short_eq {c : List Nat} (hc : Gs c) (hl : c.length ≤ 20) : f_law_short [.tup (cD c)] = ret (.tup (cD (shortG c))) := by
  have hsz := sizeL
  refine eq_of_W fun t => ?_
  unfold f_law_short
  with_reducible refine w_fn ?_
  rw [show slots0 4 [D.tup (cD c)] = [.val (.tup (cD c)), .un, .un, .un] from rfl]
  unfold b_law_short
  with_reducible refine w_seq ?_
  with_reducible refine w_while (fun k S t' => (∃ c' x1 x2 x3, S = [.val (.tup (cD c')), x1, x2, x3] ∧ Gs c' ∧ c'.length = k ∧ k ≤ 20 ∧ shortG c' = shortG c) ∧ t' = t) (fun k S t' ⟨⟨c', x1, x2, x3, hS, h1, h2, h3, h4⟩, ht⟩ => ?_) (show c.length < 1000000 by omega) ⟨⟨c, _, _, _, rfl, hc, rfl, hl, rfl⟩, rfl⟩
  subst hS ht
  have lp := law_pairs_eq h1 (by omega)
  repeat (first | (with_reducible refine w_eq lp ?_) | (with_reducible refine w_neET ?_) | (with_reducible first | refine w_seq ?_ | refine w_asg ?_ | refine w_asgP ?_ | refine pr_i ?_ | refine w_eqI ?_ | refine w_neI ?_ | refine w_own ?_ | refine w_par ?_ | refine w_parO ?_ | refine w_expr ?_ | refine w_if ?_ | refine w_sret ?_ | refine w_nil ?_ | refine w_for ?_ | refine w_bin ?_ | refine w_un ?_ | refine w_tup ?_ | refine w_lst ?_ | refine w_call ?_ | refine w_and ?_ | refine w_or ?_ | refine w_ife ?_ | refine w_chain ?_ | refine w_slice ?_ | refine w_oN ?_ | refine w_oS ?_ | refine w_comp ?_ | refine w_itSeq ?_ | refine w_itR ?_ | refine w_evnil ?_ | refine w_evcons ?_ | refine w_evc1 ?_ | refine w_evc0 ?_ | refine w_c ?_ | refine nx_nx ?_ | refine nx_ret ?_ | refine bl_i ?_ | refine in_i ?_ | refine sq_t ?_ | refine sq_l ?_ | refine ls_l ?_ | refine tp_t ?_ | refine w_not ?_ | refine w_addI ?_ | refine w_sub ?_ | refine w_xor ?_ | refine w_ltI ?_ | refine w_leI ?_ | refine w_gtI ?_ | refine w_geI ?_ | refine w_slT ?_ | refine w_slL ?_ | refine w_lenT ?_ | refine w_lenL ?_ | refine w_lenS ?_ | refine w_tupL ?_ | refine w_tupT ?_ | refine w_lstL ?_ | refine w_lstT ?_ | refine w_neg ?_ | refine w_isn ?_ | refine w_isnn ?_ | refine w_begun ?_ | refine w_ret ?_ | refine w_resE ?_) | (with_reducible refine w_var (by with_unfolding_all rfl) ?_) | (with_reducible refine w_peekV (by with_unfolding_all rfl) ?_) | (with_reducible refine w_peekO (by with_unfolding_all rfl) ?_) | (with_reducible refine w_app (by with_unfolding_all rfl) ?_) | (with_reducible refine w_frz (by with_unfolding_all rfl) ?_) | (with_reducible refine w_scr (by with_unfolding_all rfl) ?_) | (with_reducible refine w_tc (by with_unfolding_all rfl) ?_) | (with_reducible refine w_stc (by with_unfolding_all rfl) ?_) | (with_reducible refine w_tr (by with_unfolding_all rfl) ?_) | (with_reducible refine w_str (by with_unfolding_all rfl) ?_) | (with_reducible refine w_idxT (by with_unfolding_all rfl) ?_) | (with_reducible refine w_idxL (by with_unfolding_all rfl) ?_) | (with_reducible refine w_isi (by with_unfolding_all rfl) ?_) | ((with_reducible first | refine w_addT ?_ ?_ | refine w_addL ?_ ?_ | refine w_mulI ?_ ?_ | refine w_mulT ?_ ?_ | refine w_mulL ?_ ?_ | refine w_mod ?_ ?_ | refine w_div ?_ ?_ | refine w_pow ?_ ?_ | refine w_rng ?_ ?_); (first | decide | omega | (refine ⟨?_, ?_⟩ <;> omega) | (refine ⟨?_, ?_, ?_⟩ <;> omega) | (simp only [List.length_cons, List.length_nil, List.length_append, List.length_reverse, BL.cD_len, BL.iD_len, BL.mkx_len, BL.sizeL]; omega) | (refine ⟨List.cons_ne_nil _ _, ?_⟩; simp only [List.length_cons, List.length_nil]; omega))) | ((with_reducible first | refine w_eqD ?_ ?_ ?_ | refine w_neD ?_ ?_ ?_ | refine w_inT ?_ ?_ ?_ | refine w_inL ?_ ?_ ?_); (first | rfl | with_unfolding_all rfl); (first | rfl | with_unfolding_all rfl)) | ((with_reducible refine ift_of ?_ ?_); (with_unfolding_all rfl)) | ((with_reducible refine iff_of ?_ ?_); (with_unfolding_all rfl)) | ((with_reducible refine ift2_of ?_ ?_); (with_unfolding_all rfl)) | ((with_reducible refine iff2_of ?_ ?_); (with_unfolding_all rfl)) | ((with_reducible refine ift_of ?_ ?_); exact decide_eq_true (by omega)) | ((with_reducible refine iff_of ?_ ?_); exact decide_eq_false (by omega)) | ((with_reducible refine ift2_of ?_ ?_); exact decide_eq_true (by omega)) | ((with_reducible refine iff2_of ?_ ?_); exact decide_eq_false (by omega)))
  cases e : pairsG c' with
  | nil =>
    with_reducible refine iff_of (by with_unfolding_all rfl) ?_
    repeat (first | (with_reducible first | refine w_seq ?_ | refine w_asg ?_ | refine w_asgP ?_ | refine pr_i ?_ | refine w_eqI ?_ | refine w_neI ?_ | refine w_own ?_ | refine w_par ?_ | refine w_parO ?_ | refine w_expr ?_ | refine w_if ?_ | refine w_sret ?_ | refine w_nil ?_ | refine w_for ?_ | refine w_bin ?_ | refine w_un ?_ | refine w_tup ?_ | refine w_lst ?_ | refine w_call ?_ | refine w_and ?_ | refine w_or ?_ | refine w_ife ?_ | refine w_chain ?_ | refine w_slice ?_ | refine w_oN ?_ | refine w_oS ?_ | refine w_comp ?_ | refine w_itSeq ?_ | refine w_itR ?_ | refine w_evnil ?_ | refine w_evcons ?_ | refine w_evc1 ?_ | refine w_evc0 ?_ | refine w_c ?_ | refine nx_nx ?_ | refine nx_ret ?_ | refine bl_i ?_ | refine in_i ?_ | refine sq_t ?_ | refine sq_l ?_ | refine ls_l ?_ | refine tp_t ?_ | refine w_not ?_ | refine w_addI ?_ | refine w_sub ?_ | refine w_xor ?_ | refine w_ltI ?_ | refine w_leI ?_ | refine w_gtI ?_ | refine w_geI ?_ | refine w_slT ?_ | refine w_slL ?_ | refine w_lenT ?_ | refine w_lenL ?_ | refine w_lenS ?_ | refine w_tupL ?_ | refine w_tupT ?_ | refine w_lstL ?_ | refine w_lstT ?_ | refine w_neg ?_ | refine w_isn ?_ | refine w_isnn ?_ | refine w_begun ?_ | refine w_ret ?_ | refine w_resE ?_) | (with_reducible refine w_var (by with_unfolding_all rfl) ?_) | (with_reducible refine w_peekV (by with_unfolding_all rfl) ?_) | (with_reducible refine w_peekO (by with_unfolding_all rfl) ?_) | (with_reducible refine w_app (by with_unfolding_all rfl) ?_) | (with_reducible refine w_frz (by with_unfolding_all rfl) ?_) | (with_reducible refine w_scr (by with_unfolding_all rfl) ?_) | (with_reducible refine w_tc (by with_unfolding_all rfl) ?_) | (with_reducible refine w_stc (by with_unfolding_all rfl) ?_) | (with_reducible refine w_tr (by with_unfolding_all rfl) ?_) | (with_reducible refine w_str (by with_unfolding_all rfl) ?_) | (with_reducible refine w_idxT (by with_unfolding_all rfl) ?_) | (with_reducible refine w_idxL (by with_unfolding_all rfl) ?_) | (with_reducible refine w_isi (by with_unfolding_all rfl) ?_) | ((with_reducible first | refine w_addT ?_ ?_ | refine w_addL ?_ ?_ | refine w_mulI ?_ ?_ | refine w_mulT ?_ ?_ | refine w_mulL ?_ ?_ | refine w_mod ?_ ?_ | refine w_div ?_ ?_ | refine w_pow ?_ ?_ | refine w_rng ?_ ?_); (first | decide | omega | (refine ⟨?_, ?_⟩ <;> omega) | (refine ⟨?_, ?_, ?_⟩ <;> omega) | (simp only [List.length_cons, List.length_nil, List.length_append, List.length_reverse, BL.cD_len, BL.iD_len, BL.mkx_len, BL.sizeL]; omega) | (refine ⟨List.cons_ne_nil _ _, ?_⟩; simp only [List.length_cons, List.length_nil]; omega))) | ((with_reducible first | refine w_eqD ?_ ?_ ?_ | refine w_neD ?_ ?_ ?_ | refine w_inT ?_ ?_ ?_ | refine w_inL ?_ ?_ ?_); (first | rfl | with_unfolding_all rfl); (first | rfl | with_unfolding_all rfl)) | ((with_reducible refine ift_of ?_ ?_); (with_unfolding_all rfl)) | ((with_reducible refine iff_of ?_ ?_); (with_unfolding_all rfl)) | ((with_reducible refine ift2_of ?_ ?_); (with_unfolding_all rfl)) | ((with_reducible refine iff2_of ?_ ?_); (with_unfolding_all rfl)) | ((with_reducible refine ift_of ?_ ?_); exact decide_eq_true (by omega)) | ((with_reducible refine iff_of ?_ ?_); exact decide_eq_false (by omega)) | ((with_reducible refine ift2_of ?_ ?_); exact decide_eq_true (by omega)) | ((with_reducible refine iff2_of ?_ ?_); exact decide_eq_false (by omega)))
    refine ⟨?_, rfl⟩
    rw [← h4, show shortG c' = c' from BM.short_nil cmG e]
  | cons p r =>
    with_reducible refine ift_of (by with_unfolding_all rfl) ?_
    rw [e] at lp
    have q0 := (BM.mem_pairs cmG).mp (show p ∈ pairsG c' by rw [e]; exact List.mem_cons_self ..)
    have q1 := q0.1
    have q2 := q0.2.1
    have hrm := BM.rm_len q1 q2
    have g' : Gs (BM.rm c' p.1 p.2) := fun i hi => h1 i (BM.rm_mem hi)
    have l1 := cD_len c'
    have i0 : atI (pairD (p :: r)) 0 = some (.tup [.int (p.1 : Int), .int (p.2 : Int)]) := atI_zero
    repeat (first | (with_reducible refine w_eq lp ?_) | (with_reducible refine w_idxT i0 ?_) | (with_reducible refine w_itE ?_) | (with_reducible first | refine w_seq ?_ | refine w_asg ?_ | refine w_asgP ?_ | refine pr_i ?_ | refine w_eqI ?_ | refine w_neI ?_ | refine w_own ?_ | refine w_par ?_ | refine w_parO ?_ | refine w_expr ?_ | refine w_if ?_ | refine w_sret ?_ | refine w_nil ?_ | refine w_for ?_ | refine w_bin ?_ | refine w_un ?_ | refine w_tup ?_ | refine w_lst ?_ | refine w_call ?_ | refine w_and ?_ | refine w_or ?_ | refine w_ife ?_ | refine w_chain ?_ | refine w_slice ?_ | refine w_oN ?_ | refine w_oS ?_ | refine w_comp ?_ | refine w_itSeq ?_ | refine w_itR ?_ | refine w_evnil ?_ | refine w_evcons ?_ | refine w_evc1 ?_ | refine w_evc0 ?_ | refine w_c ?_ | refine nx_nx ?_ | refine nx_ret ?_ | refine bl_i ?_ | refine in_i ?_ | refine sq_t ?_ | refine sq_l ?_ | refine ls_l ?_ | refine tp_t ?_ | refine w_not ?_ | refine w_addI ?_ | refine w_sub ?_ | refine w_xor ?_ | refine w_ltI ?_ | refine w_leI ?_ | refine w_gtI ?_ | refine w_geI ?_ | refine w_slT ?_ | refine w_slL ?_ | refine w_lenT ?_ | refine w_lenL ?_ | refine w_lenS ?_ | refine w_tupL ?_ | refine w_tupT ?_ | refine w_lstL ?_ | refine w_lstT ?_ | refine w_neg ?_ | refine w_isn ?_ | refine w_isnn ?_ | refine w_begun ?_ | refine w_ret ?_ | refine w_resE ?_) | (with_reducible refine w_var (by with_unfolding_all rfl) ?_) | (with_reducible refine w_peekV (by with_unfolding_all rfl) ?_) | (with_reducible refine w_peekO (by with_unfolding_all rfl) ?_) | (with_reducible refine w_app (by with_unfolding_all rfl) ?_) | (with_reducible refine w_frz (by with_unfolding_all rfl) ?_) | (with_reducible refine w_scr (by with_unfolding_all rfl) ?_) | (with_reducible refine w_tc (by with_unfolding_all rfl) ?_) | (with_reducible refine w_stc (by with_unfolding_all rfl) ?_) | (with_reducible refine w_tr (by with_unfolding_all rfl) ?_) | (with_reducible refine w_str (by with_unfolding_all rfl) ?_) | (with_reducible refine w_idxT (by with_unfolding_all rfl) ?_) | (with_reducible refine w_idxL (by with_unfolding_all rfl) ?_) | (with_reducible refine w_isi (by with_unfolding_all rfl) ?_) | ((with_reducible first | refine w_addT ?_ ?_ | refine w_addL ?_ ?_ | refine w_mulI ?_ ?_ | refine w_mulT ?_ ?_ | refine w_mulL ?_ ?_ | refine w_mod ?_ ?_ | refine w_div ?_ ?_ | refine w_pow ?_ ?_ | refine w_rng ?_ ?_); (first | decide | omega | (refine ⟨?_, ?_⟩ <;> omega) | (refine ⟨?_, ?_, ?_⟩ <;> omega) | (simp only [List.length_cons, List.length_nil, List.length_append, List.length_reverse, BL.cD_len, BL.iD_len, BL.mkx_len, BL.sizeL]; omega) | (refine ⟨List.cons_ne_nil _ _, ?_⟩; simp only [List.length_cons, List.length_nil]; omega))) | ((with_reducible first | refine w_eqD ?_ ?_ ?_ | refine w_neD ?_ ?_ ?_ | refine w_inT ?_ ?_ ?_ | refine w_inL ?_ ?_ ?_); (first | rfl | with_unfolding_all rfl); (first | rfl | with_unfolding_all rfl)) | ((with_reducible refine ift_of ?_ ?_); (with_unfolding_all rfl)) | ((with_reducible refine iff_of ?_ ?_); (with_unfolding_all rfl)) | ((with_reducible refine ift2_of ?_ ?_); (with_unfolding_all rfl)) | ((with_reducible refine iff2_of ?_ ?_); (with_unfolding_all rfl)) | ((with_reducible refine ift_of ?_ ?_); exact decide_eq_true (by omega)) | ((with_reducible refine iff_of ?_ ?_); exact decide_eq_false (by omega)) | ((with_reducible refine ift2_of ?_ ?_); exact decide_eq_true (by omega)) | ((with_reducible refine iff2_of ?_ ?_); exact decide_eq_false (by omega)))
    refine ⟨by rw [enumD_len]; omega, w_out h1 q1 q2 (by simp [wipeS]) (by simp [wipeS]) (by decide) (fun k x hk => eq_of_W fun t => ?_) ?_⟩
    · show W (eBin pNotIn (eVar 2) (eVar 1) [.val (.tup (cD c')), .val (.tup [.int (p.1 : Int), .int (p.2 : Int)]), .val (.int (k : Int)), .val x] t) _
      refine w_bin (w_var rfl (w_var rfl ?_))
      show W ((if okD (.int (k : Int)) 60 = true ∧ okA [D.int (p.1 : Int), .int (p.2 : Int)] 60 = true then ret (D.bl (!inD (.int (k : Int)) [D.int (p.1 : Int), .int (p.2 : Int)])) else stuck) t) _
      rw [if_pos ⟨rfl, rfl⟩]
      refine ⟨?_, rfl⟩
      show D.bl (!(PyData.eqv (D.int (p.1 : Int)).py (D.int (k : Int)).py || (PyData.eqv (D.int (p.2 : Int)).py (D.int (k : Int)).py || false))) = _
      rw [eqvI, eqvI, Bool.or_false]
      simp only [eq_comm]
    · repeat (first | (with_reducible first | refine w_seq ?_ | refine w_asg ?_ | refine w_asgP ?_ | refine pr_i ?_ | refine w_eqI ?_ | refine w_neI ?_ | refine w_own ?_ | refine w_par ?_ | refine w_parO ?_ | refine w_expr ?_ | refine w_if ?_ | refine w_sret ?_ | refine w_nil ?_ | refine w_for ?_ | refine w_bin ?_ | refine w_un ?_ | refine w_tup ?_ | refine w_lst ?_ | refine w_call ?_ | refine w_and ?_ | refine w_or ?_ | refine w_ife ?_ | refine w_chain ?_ | refine w_slice ?_ | refine w_oN ?_ | refine w_oS ?_ | refine w_comp ?_ | refine w_itSeq ?_ | refine w_itR ?_ | refine w_evnil ?_ | refine w_evcons ?_ | refine w_evc1 ?_ | refine w_evc0 ?_ | refine w_c ?_ | refine nx_nx ?_ | refine nx_ret ?_ | refine bl_i ?_ | refine in_i ?_ | refine sq_t ?_ | refine sq_l ?_ | refine ls_l ?_ | refine tp_t ?_ | refine w_not ?_ | refine w_addI ?_ | refine w_sub ?_ | refine w_xor ?_ | refine w_ltI ?_ | refine w_leI ?_ | refine w_gtI ?_ | refine w_geI ?_ | refine w_slT ?_ | refine w_slL ?_ | refine w_lenT ?_ | refine w_lenL ?_ | refine w_lenS ?_ | refine w_tupL ?_ | refine w_tupT ?_ | refine w_lstL ?_ | refine w_lstT ?_ | refine w_neg ?_ | refine w_isn ?_ | refine w_isnn ?_ | refine w_begun ?_ | refine w_ret ?_ | refine w_resE ?_) | (with_reducible refine w_var (by with_unfolding_all rfl) ?_) | (with_reducible refine w_peekV (by with_unfolding_all rfl) ?_) | (with_reducible refine w_peekO (by with_unfolding_all rfl) ?_) | (with_reducible refine w_app (by with_unfolding_all rfl) ?_) | (with_reducible refine w_frz (by with_unfolding_all rfl) ?_) | (with_reducible refine w_scr (by with_unfolding_all rfl) ?_) | (with_reducible refine w_tc (by with_unfolding_all rfl) ?_) | (with_reducible refine w_stc (by with_unfolding_all rfl) ?_) | (with_reducible refine w_tr (by with_unfolding_all rfl) ?_) | (with_reducible refine w_str (by with_unfolding_all rfl) ?_) | (with_reducible refine w_idxT (by with_unfolding_all rfl) ?_) | (with_reducible refine w_idxL (by with_unfolding_all rfl) ?_) | (with_reducible refine w_isi (by with_unfolding_all rfl) ?_) | ((with_reducible first | refine w_addT ?_ ?_ | refine w_addL ?_ ?_ | refine w_mulI ?_ ?_ | refine w_mulT ?_ ?_ | refine w_mulL ?_ ?_ | refine w_mod ?_ ?_ | refine w_div ?_ ?_ | refine w_pow ?_ ?_ | refine w_rng ?_ ?_); (first | decide | omega | (refine ⟨?_, ?_⟩ <;> omega) | (refine ⟨?_, ?_, ?_⟩ <;> omega) | (simp only [List.length_cons, List.length_nil, List.length_append, List.length_reverse, BL.cD_len, BL.iD_len, BL.mkx_len, BL.sizeL]; omega) | (refine ⟨List.cons_ne_nil _ _, ?_⟩; simp only [List.length_cons, List.length_nil]; omega))) | ((with_reducible first | refine w_eqD ?_ ?_ ?_ | refine w_neD ?_ ?_ ?_ | refine w_inT ?_ ?_ ?_ | refine w_inL ?_ ?_ ?_); (first | rfl | with_unfolding_all rfl); (first | rfl | with_unfolding_all rfl)) | ((with_reducible refine ift_of ?_ ?_); (with_unfolding_all rfl)) | ((with_reducible refine iff_of ?_ ?_); (with_unfolding_all rfl)) | ((with_reducible refine ift2_of ?_ ?_); (with_unfolding_all rfl)) | ((with_reducible refine iff2_of ?_ ?_); (with_unfolding_all rfl)) | ((with_reducible refine ift_of ?_ ?_); exact decide_eq_true (by omega)) | ((with_reducible refine iff_of ?_ ?_); exact decide_eq_false (by omega)) | ((with_reducible refine ift2_of ?_ ?_); exact decide_eq_true (by omega)) | ((with_reducible refine iff2_of ?_ ?_); exact decide_eq_false (by omega)))
      exact ⟨_, show (BM.rm c' p.1 p.2).length < k by omega, ⟨_, _, _, _, rfl, g', rfl, by omega, by rw [← h4]; exact (BM.short_cons cmG e).symm⟩, rfl⟩
theorem canc_no {d : D} (h : f_is_circuit [d] = ret (.bl false)) : f_cancelling [d] = raise 1 ∧ f_shortened [d] = raise 1 := ⟨rz_fn (rz_seq1 (rz_expr (check_circuit_no h))), rz_fn (rz_seq1 (rz_expr (check_circuit_no h)))⟩
theorem gate_no {d e : D} {i : Nat} (hi : i < 18) (h : f_is_gate [d] = ret (.bl false)) : f_may_change [d, e] = raise 0 ∧ f_difference [d, e] = raise 0 ∧ f_may_change [gk i, d] = raise 0 ∧ f_difference [gk i, d] = raise 0 :=
  ⟨rz_fn (rz_seq1 (rz_expr (check_gate_no h))), rz_fn (rz_seq1 (rz_expr (check_gate_no h))), rz_fn (rz_seq2 (rt_expr (check_gate_yes hi)) (rz_seq1 (rz_expr (check_gate_no h)))), rz_fn (rz_seq2 (rt_expr (check_gate_yes hi)) (rz_seq1 (rz_expr (check_gate_no h))))⟩
theorem law_is_eq (a b : Bool) : f_law_is [.bl a, .bl b] = ret (.bl (decide (a = b))) := by cases a <;> cases b <;> rfl
def kss : List D := [.tup ks5, .tup [.str "if", .str "not"], .tup [.str "not", .str "swap"], .tup [.str "both", .str "not"]]
theorem kss_ok : ∀ k : Nat, k < 4 → ∃ ks, atI kss (k : Int) = some (.tup ks) ∧ okA ks 60 = true ∧ gtsK ks ≠ [] := by
  have n : ∀ ks : List D, 0 < (gtsK ks).length → gtsK ks ≠ [] := fun ks h e => by rw [e] at h; cases h
  intro k hk
  match k, hk with
  | 0, _ => exact ⟨_, rfl, by decide +kernel, n _ (by decide +kernel)⟩
  | 1, _ => exact ⟨_, rfl, by decide +kernel, n _ (by decide +kernel)⟩
  | 2, _ => exact ⟨_, rfl, by decide +kernel, n _ (by decide +kernel)⟩
  | 3, _ => exact ⟨_, rfl, by decide +kernel, n _ (by decide +kernel)⟩
  | k + 4, h => omega
theorem law_true (ns : List Int) (hl : ns.length ≤ 63) : ∃ t', f_law [.scr ns] none = some (.ok (.bl true) t') := by
  refine law_of ?_
  unfold f_law
  with_reducible refine w_fn ?_
  rw [show slots0 11 [D.scr ns] = [.val (.scr ns), .un, .un, .un, .un, .un, .un, .un, .un, .un, .un] from rfl]
  unfold b_law
  repeat (first | (with_reducible refine w_lbegun ?_) | (with_reducible refine w_eq law_gates_eq ?_) | (with_reducible refine w_draw hl TOk.begun (by decide) (by decide) fun r t1 r0 r1 ht1 => ?_) | (with_reducible first | refine w_seq ?_ | refine w_asg ?_ | refine w_asgP ?_ | refine pr_i ?_ | refine w_eqI ?_ | refine w_neI ?_ | refine w_own ?_ | refine w_par ?_ | refine w_parO ?_ | refine w_expr ?_ | refine w_if ?_ | refine w_sret ?_ | refine w_nil ?_ | refine w_for ?_ | refine w_bin ?_ | refine w_un ?_ | refine w_tup ?_ | refine w_lst ?_ | refine w_call ?_ | refine w_and ?_ | refine w_or ?_ | refine w_ife ?_ | refine w_chain ?_ | refine w_slice ?_ | refine w_oN ?_ | refine w_oS ?_ | refine w_comp ?_ | refine w_itSeq ?_ | refine w_itR ?_ | refine w_evnil ?_ | refine w_evcons ?_ | refine w_evc1 ?_ | refine w_evc0 ?_ | refine w_c ?_ | refine nx_nx ?_ | refine nx_ret ?_ | refine bl_i ?_ | refine in_i ?_ | refine sq_t ?_ | refine sq_l ?_ | refine ls_l ?_ | refine tp_t ?_ | refine w_not ?_ | refine w_addI ?_ | refine w_sub ?_ | refine w_xor ?_ | refine w_ltI ?_ | refine w_leI ?_ | refine w_gtI ?_ | refine w_geI ?_ | refine w_slT ?_ | refine w_slL ?_ | refine w_lenT ?_ | refine w_lenL ?_ | refine w_lenS ?_ | refine w_tupL ?_ | refine w_tupT ?_ | refine w_lstL ?_ | refine w_lstT ?_ | refine w_neg ?_ | refine w_isn ?_ | refine w_isnn ?_ | refine w_begun ?_ | refine w_ret ?_ | refine w_resE ?_) | (with_reducible refine w_var (by with_unfolding_all rfl) ?_) | (with_reducible refine w_peekV (by with_unfolding_all rfl) ?_) | (with_reducible refine w_peekO (by with_unfolding_all rfl) ?_) | (with_reducible refine w_app (by with_unfolding_all rfl) ?_) | (with_reducible refine w_frz (by with_unfolding_all rfl) ?_) | (with_reducible refine w_scr (by with_unfolding_all rfl) ?_) | (with_reducible refine w_tc (by with_unfolding_all rfl) ?_) | (with_reducible refine w_stc (by with_unfolding_all rfl) ?_) | (with_reducible refine w_tr (by with_unfolding_all rfl) ?_) | (with_reducible refine w_str (by with_unfolding_all rfl) ?_) | (with_reducible refine w_idxT (by with_unfolding_all rfl) ?_) | (with_reducible refine w_idxL (by with_unfolding_all rfl) ?_) | (with_reducible refine w_isi (by with_unfolding_all rfl) ?_) | ((with_reducible first | refine w_addT ?_ ?_ | refine w_addL ?_ ?_ | refine w_mulI ?_ ?_ | refine w_mulT ?_ ?_ | refine w_mulL ?_ ?_ | refine w_mod ?_ ?_ | refine w_div ?_ ?_ | refine w_pow ?_ ?_ | refine w_rng ?_ ?_); (first | decide | omega | (refine ⟨?_, ?_⟩ <;> omega) | (refine ⟨?_, ?_, ?_⟩ <;> omega) | (simp only [List.length_cons, List.length_nil, List.length_append, List.length_reverse, BL.cD_len, BL.iD_len, BL.mkx_len, BL.sizeL]; omega) | (refine ⟨List.cons_ne_nil _ _, ?_⟩; simp only [List.length_cons, List.length_nil]; omega))) | ((with_reducible first | refine w_eqD ?_ ?_ ?_ | refine w_neD ?_ ?_ ?_ | refine w_inT ?_ ?_ ?_ | refine w_inL ?_ ?_ ?_); (first | rfl | with_unfolding_all rfl); (first | rfl | with_unfolding_all rfl)) | ((with_reducible refine ift_of ?_ ?_); (with_unfolding_all rfl)) | ((with_reducible refine iff_of ?_ ?_); (with_unfolding_all rfl)) | ((with_reducible refine ift2_of ?_ ?_); (with_unfolding_all rfl)) | ((with_reducible refine iff2_of ?_ ?_); (with_unfolding_all rfl)) | ((with_reducible refine ift_of ?_ ?_); exact decide_eq_true (by omega)) | ((with_reducible refine iff_of ?_ ?_); exact decide_eq_false (by omega)) | ((with_reducible refine ift2_of ?_ ?_); exact decide_eq_true (by omega)) | ((with_reducible refine iff2_of ?_ ?_); exact decide_eq_false (by omega)))
  obtain ⟨g, hg, eg, _⟩ := atI_of (xs := gts) r0 (by rw [gts_len]; exact r1)
  obtain ⟨i, hi, rfl⟩ := gk_of hg
  repeat (first | (with_reducible refine w_idxL eg ?_) | (with_reducible first | refine w_seq ?_ | refine w_asg ?_ | refine w_asgP ?_ | refine pr_i ?_ | refine w_eqI ?_ | refine w_neI ?_ | refine w_own ?_ | refine w_par ?_ | refine w_parO ?_ | refine w_expr ?_ | refine w_if ?_ | refine w_sret ?_ | refine w_nil ?_ | refine w_for ?_ | refine w_bin ?_ | refine w_un ?_ | refine w_tup ?_ | refine w_lst ?_ | refine w_call ?_ | refine w_and ?_ | refine w_or ?_ | refine w_ife ?_ | refine w_chain ?_ | refine w_slice ?_ | refine w_oN ?_ | refine w_oS ?_ | refine w_comp ?_ | refine w_itSeq ?_ | refine w_itR ?_ | refine w_evnil ?_ | refine w_evcons ?_ | refine w_evc1 ?_ | refine w_evc0 ?_ | refine w_c ?_ | refine nx_nx ?_ | refine nx_ret ?_ | refine bl_i ?_ | refine in_i ?_ | refine sq_t ?_ | refine sq_l ?_ | refine ls_l ?_ | refine tp_t ?_ | refine w_not ?_ | refine w_addI ?_ | refine w_sub ?_ | refine w_xor ?_ | refine w_ltI ?_ | refine w_leI ?_ | refine w_gtI ?_ | refine w_geI ?_ | refine w_slT ?_ | refine w_slL ?_ | refine w_lenT ?_ | refine w_lenL ?_ | refine w_lenS ?_ | refine w_tupL ?_ | refine w_tupT ?_ | refine w_lstL ?_ | refine w_lstT ?_ | refine w_neg ?_ | refine w_isn ?_ | refine w_isnn ?_ | refine w_begun ?_ | refine w_ret ?_ | refine w_resE ?_) | (with_reducible refine w_var (by with_unfolding_all rfl) ?_) | (with_reducible refine w_peekV (by with_unfolding_all rfl) ?_) | (with_reducible refine w_peekO (by with_unfolding_all rfl) ?_) | (with_reducible refine w_app (by with_unfolding_all rfl) ?_) | (with_reducible refine w_frz (by with_unfolding_all rfl) ?_) | (with_reducible refine w_scr (by with_unfolding_all rfl) ?_) | (with_reducible refine w_tc (by with_unfolding_all rfl) ?_) | (with_reducible refine w_stc (by with_unfolding_all rfl) ?_) | (with_reducible refine w_tr (by with_unfolding_all rfl) ?_) | (with_reducible refine w_str (by with_unfolding_all rfl) ?_) | (with_reducible refine w_idxT (by with_unfolding_all rfl) ?_) | (with_reducible refine w_idxL (by with_unfolding_all rfl) ?_) | (with_reducible refine w_isi (by with_unfolding_all rfl) ?_) | ((with_reducible first | refine w_addT ?_ ?_ | refine w_addL ?_ ?_ | refine w_mulI ?_ ?_ | refine w_mulT ?_ ?_ | refine w_mulL ?_ ?_ | refine w_mod ?_ ?_ | refine w_div ?_ ?_ | refine w_pow ?_ ?_ | refine w_rng ?_ ?_); (first | decide | omega | (refine ⟨?_, ?_⟩ <;> omega) | (refine ⟨?_, ?_, ?_⟩ <;> omega) | (simp only [List.length_cons, List.length_nil, List.length_append, List.length_reverse, BL.cD_len, BL.iD_len, BL.mkx_len, BL.sizeL]; omega) | (refine ⟨List.cons_ne_nil _ _, ?_⟩; simp only [List.length_cons, List.length_nil]; omega))) | ((with_reducible first | refine w_eqD ?_ ?_ ?_ | refine w_neD ?_ ?_ ?_ | refine w_inT ?_ ?_ ?_ | refine w_inL ?_ ?_ ?_); (first | rfl | with_unfolding_all rfl); (first | rfl | with_unfolding_all rfl)) | ((with_reducible refine ift_of ?_ ?_); (with_unfolding_all rfl)) | ((with_reducible refine iff_of ?_ ?_); (with_unfolding_all rfl)) | ((with_reducible refine ift2_of ?_ ?_); (with_unfolding_all rfl)) | ((with_reducible refine iff2_of ?_ ?_); (with_unfolding_all rfl)) | ((with_reducible refine ift_of ?_ ?_); exact decide_eq_true (by omega)) | ((with_reducible refine iff_of ?_ ?_); exact decide_eq_false (by omega)) | ((with_reducible refine ift2_of ?_ ?_); exact decide_eq_true (by omega)) | ((with_reducible refine iff2_of ?_ ?_); exact decide_eq_false (by omega)))
  refine w_forC (fun S t => ∃ x4 x5, S = [.val (.scr ns), .val .town, .val (.lst gts), .val (gk i), x4, x5, .un, .un, .un, .un, .un] ∧ TOk t) ⟨_, _, rfl, ht1⟩ (fun d hd S t ⟨x4, x5, hS, ht⟩ => ?_) fun S t ⟨x4, x5, hS, ht⟩ => ?_
  · subst hS
    obtain ⟨j, hj, rfl⟩ := gk_of hd
    refine ⟨_, rfl, ?_⟩
    have o1 := ok_fdD i j
    have e3 : f_law_is [.bl (cmG i j), .bl (isN (fdD i j))] = ret (.bl true) := by rw [fdD_isN, law_is_eq, decide_eq_true rfl]
    repeat (first | (with_reducible refine w_eq (law_differ_eq hi hj) ?_) | (with_reducible refine w_eq (difference_eq hi hj) ?_) | (with_reducible refine w_eq (may_change_eq hi hj) ?_) | (with_reducible refine w_ne_no rfl o1.1 o1.2 ?_) | (with_reducible refine w_eq e3 ?_) | (with_reducible first | refine w_seq ?_ | refine w_asg ?_ | refine w_asgP ?_ | refine pr_i ?_ | refine w_eqI ?_ | refine w_neI ?_ | refine w_own ?_ | refine w_par ?_ | refine w_parO ?_ | refine w_expr ?_ | refine w_if ?_ | refine w_sret ?_ | refine w_nil ?_ | refine w_for ?_ | refine w_bin ?_ | refine w_un ?_ | refine w_tup ?_ | refine w_lst ?_ | refine w_call ?_ | refine w_and ?_ | refine w_or ?_ | refine w_ife ?_ | refine w_chain ?_ | refine w_slice ?_ | refine w_oN ?_ | refine w_oS ?_ | refine w_comp ?_ | refine w_itSeq ?_ | refine w_itR ?_ | refine w_evnil ?_ | refine w_evcons ?_ | refine w_evc1 ?_ | refine w_evc0 ?_ | refine w_c ?_ | refine nx_nx ?_ | refine nx_ret ?_ | refine bl_i ?_ | refine in_i ?_ | refine sq_t ?_ | refine sq_l ?_ | refine ls_l ?_ | refine tp_t ?_ | refine w_not ?_ | refine w_addI ?_ | refine w_sub ?_ | refine w_xor ?_ | refine w_ltI ?_ | refine w_leI ?_ | refine w_gtI ?_ | refine w_geI ?_ | refine w_slT ?_ | refine w_slL ?_ | refine w_lenT ?_ | refine w_lenL ?_ | refine w_lenS ?_ | refine w_tupL ?_ | refine w_tupT ?_ | refine w_lstL ?_ | refine w_lstT ?_ | refine w_neg ?_ | refine w_isn ?_ | refine w_isnn ?_ | refine w_begun ?_ | refine w_ret ?_ | refine w_resE ?_) | (with_reducible refine w_var (by with_unfolding_all rfl) ?_) | (with_reducible refine w_peekV (by with_unfolding_all rfl) ?_) | (with_reducible refine w_peekO (by with_unfolding_all rfl) ?_) | (with_reducible refine w_app (by with_unfolding_all rfl) ?_) | (with_reducible refine w_frz (by with_unfolding_all rfl) ?_) | (with_reducible refine w_scr (by with_unfolding_all rfl) ?_) | (with_reducible refine w_tc (by with_unfolding_all rfl) ?_) | (with_reducible refine w_stc (by with_unfolding_all rfl) ?_) | (with_reducible refine w_tr (by with_unfolding_all rfl) ?_) | (with_reducible refine w_str (by with_unfolding_all rfl) ?_) | (with_reducible refine w_idxT (by with_unfolding_all rfl) ?_) | (with_reducible refine w_idxL (by with_unfolding_all rfl) ?_) | (with_reducible refine w_isi (by with_unfolding_all rfl) ?_) | ((with_reducible first | refine w_addT ?_ ?_ | refine w_addL ?_ ?_ | refine w_mulI ?_ ?_ | refine w_mulT ?_ ?_ | refine w_mulL ?_ ?_ | refine w_mod ?_ ?_ | refine w_div ?_ ?_ | refine w_pow ?_ ?_ | refine w_rng ?_ ?_); (first | decide | omega | (refine ⟨?_, ?_⟩ <;> omega) | (refine ⟨?_, ?_, ?_⟩ <;> omega) | (simp only [List.length_cons, List.length_nil, List.length_append, List.length_reverse, BL.cD_len, BL.iD_len, BL.mkx_len, BL.sizeL]; omega) | (refine ⟨List.cons_ne_nil _ _, ?_⟩; simp only [List.length_cons, List.length_nil]; omega))) | ((with_reducible first | refine w_eqD ?_ ?_ ?_ | refine w_neD ?_ ?_ ?_ | refine w_inT ?_ ?_ ?_ | refine w_inL ?_ ?_ ?_); (first | rfl | with_unfolding_all rfl); (first | rfl | with_unfolding_all rfl)) | ((with_reducible refine ift_of ?_ ?_); (with_unfolding_all rfl)) | ((with_reducible refine iff_of ?_ ?_); (with_unfolding_all rfl)) | ((with_reducible refine ift2_of ?_ ?_); (with_unfolding_all rfl)) | ((with_reducible refine iff2_of ?_ ?_); (with_unfolding_all rfl)) | ((with_reducible refine ift_of ?_ ?_); exact decide_eq_true (by omega)) | ((with_reducible refine iff_of ?_ ?_); exact decide_eq_false (by omega)) | ((with_reducible refine ift2_of ?_ ?_); exact decide_eq_true (by omega)) | ((with_reducible refine iff2_of ?_ ?_); exact decide_eq_false (by omega)))
    exact ⟨_, _, rfl, ht⟩
  subst hS
  repeat (first | (with_reducible first | refine w_seq ?_ | refine w_asg ?_ | refine w_asgP ?_ | refine pr_i ?_ | refine w_eqI ?_ | refine w_neI ?_ | refine w_own ?_ | refine w_par ?_ | refine w_parO ?_ | refine w_expr ?_ | refine w_if ?_ | refine w_sret ?_ | refine w_nil ?_ | refine w_for ?_ | refine w_bin ?_ | refine w_un ?_ | refine w_tup ?_ | refine w_lst ?_ | refine w_call ?_ | refine w_and ?_ | refine w_or ?_ | refine w_ife ?_ | refine w_chain ?_ | refine w_slice ?_ | refine w_oN ?_ | refine w_oS ?_ | refine w_comp ?_ | refine w_itSeq ?_ | refine w_itR ?_ | refine w_evnil ?_ | refine w_evcons ?_ | refine w_evc1 ?_ | refine w_evc0 ?_ | refine w_c ?_ | refine nx_nx ?_ | refine nx_ret ?_ | refine bl_i ?_ | refine in_i ?_ | refine sq_t ?_ | refine sq_l ?_ | refine ls_l ?_ | refine tp_t ?_ | refine w_not ?_ | refine w_addI ?_ | refine w_sub ?_ | refine w_xor ?_ | refine w_ltI ?_ | refine w_leI ?_ | refine w_gtI ?_ | refine w_geI ?_ | refine w_slT ?_ | refine w_slL ?_ | refine w_lenT ?_ | refine w_lenL ?_ | refine w_lenS ?_ | refine w_tupL ?_ | refine w_tupT ?_ | refine w_lstL ?_ | refine w_lstT ?_ | refine w_neg ?_ | refine w_isn ?_ | refine w_isnn ?_ | refine w_begun ?_ | refine w_ret ?_ | refine w_resE ?_) | (with_reducible refine w_var (by with_unfolding_all rfl) ?_) | (with_reducible refine w_peekV (by with_unfolding_all rfl) ?_) | (with_reducible refine w_peekO (by with_unfolding_all rfl) ?_) | (with_reducible refine w_app (by with_unfolding_all rfl) ?_) | (with_reducible refine w_frz (by with_unfolding_all rfl) ?_) | (with_reducible refine w_scr (by with_unfolding_all rfl) ?_) | (with_reducible refine w_tc (by with_unfolding_all rfl) ?_) | (with_reducible refine w_stc (by with_unfolding_all rfl) ?_) | (with_reducible refine w_tr (by with_unfolding_all rfl) ?_) | (with_reducible refine w_str (by with_unfolding_all rfl) ?_) | (with_reducible refine w_idxT (by with_unfolding_all rfl) ?_) | (with_reducible refine w_idxL (by with_unfolding_all rfl) ?_) | (with_reducible refine w_isi (by with_unfolding_all rfl) ?_) | ((with_reducible first | refine w_addT ?_ ?_ | refine w_addL ?_ ?_ | refine w_mulI ?_ ?_ | refine w_mulT ?_ ?_ | refine w_mulL ?_ ?_ | refine w_mod ?_ ?_ | refine w_div ?_ ?_ | refine w_pow ?_ ?_ | refine w_rng ?_ ?_); (first | decide | omega | (refine ⟨?_, ?_⟩ <;> omega) | (refine ⟨?_, ?_, ?_⟩ <;> omega) | (simp only [List.length_cons, List.length_nil, List.length_append, List.length_reverse, BL.cD_len, BL.iD_len, BL.mkx_len, BL.sizeL]; omega) | (refine ⟨List.cons_ne_nil _ _, ?_⟩; simp only [List.length_cons, List.length_nil]; omega))) | ((with_reducible first | refine w_eqD ?_ ?_ ?_ | refine w_neD ?_ ?_ ?_ | refine w_inT ?_ ?_ ?_ | refine w_inL ?_ ?_ ?_); (first | rfl | with_unfolding_all rfl); (first | rfl | with_unfolding_all rfl)) | ((with_reducible refine ift_of ?_ ?_); (with_unfolding_all rfl)) | ((with_reducible refine iff_of ?_ ?_); (with_unfolding_all rfl)) | ((with_reducible refine ift2_of ?_ ?_); (with_unfolding_all rfl)) | ((with_reducible refine iff2_of ?_ ?_); (with_unfolding_all rfl)) | ((with_reducible refine ift_of ?_ ?_); exact decide_eq_true (by omega)) | ((with_reducible refine iff_of ?_ ?_); exact decide_eq_false (by omega)) | ((with_reducible refine ift2_of ?_ ?_); exact decide_eq_true (by omega)) | ((with_reducible refine iff2_of ?_ ?_); exact decide_eq_false (by omega)))
  refine ⟨by decide, by decide, ?_⟩
  refine w_forC (fun S t => ∃ x6 x7 x8 x9 x10, S = [.val (.scr ns), .val .town, .val (.lst gts), .val (gk i), x4, x5, x6, x7, x8, x9, x10] ∧ TOk t) ⟨_, _, _, _, _, rfl, ht⟩ (fun d hd S t ⟨x6, x7, x8, x9, x10, hS, ht⟩ => ?_) fun S t ⟨x6, x7, x8, x9, x10, hS, ht⟩ => ?_
  · subst hS
    refine ⟨_, rfl, ?_⟩
    obtain ⟨k, hk, rfl⟩ := mem_iD (ws := List.range 4) hd
    obtain ⟨ks, ek, ok, nk⟩ := kss_ok k (List.mem_range.mp hk)
    unfold kss at ek
    repeat (first | (with_reducible refine w_idxT ek ?_) | (with_reducible refine w_circuitI hl ht (by decide) (by decide) ok nk fun cs t2 hcs hg ht2 => ?_) | (with_reducible first | refine w_seq ?_ | refine w_asg ?_ | refine w_asgP ?_ | refine pr_i ?_ | refine w_eqI ?_ | refine w_neI ?_ | refine w_own ?_ | refine w_par ?_ | refine w_parO ?_ | refine w_expr ?_ | refine w_if ?_ | refine w_sret ?_ | refine w_nil ?_ | refine w_for ?_ | refine w_bin ?_ | refine w_un ?_ | refine w_tup ?_ | refine w_lst ?_ | refine w_call ?_ | refine w_and ?_ | refine w_or ?_ | refine w_ife ?_ | refine w_chain ?_ | refine w_slice ?_ | refine w_oN ?_ | refine w_oS ?_ | refine w_comp ?_ | refine w_itSeq ?_ | refine w_itR ?_ | refine w_evnil ?_ | refine w_evcons ?_ | refine w_evc1 ?_ | refine w_evc0 ?_ | refine w_c ?_ | refine nx_nx ?_ | refine nx_ret ?_ | refine bl_i ?_ | refine in_i ?_ | refine sq_t ?_ | refine sq_l ?_ | refine ls_l ?_ | refine tp_t ?_ | refine w_not ?_ | refine w_addI ?_ | refine w_sub ?_ | refine w_xor ?_ | refine w_ltI ?_ | refine w_leI ?_ | refine w_gtI ?_ | refine w_geI ?_ | refine w_slT ?_ | refine w_slL ?_ | refine w_lenT ?_ | refine w_lenL ?_ | refine w_lenS ?_ | refine w_tupL ?_ | refine w_tupT ?_ | refine w_lstL ?_ | refine w_lstT ?_ | refine w_neg ?_ | refine w_isn ?_ | refine w_isnn ?_ | refine w_begun ?_ | refine w_ret ?_ | refine w_resE ?_) | (with_reducible refine w_var (by with_unfolding_all rfl) ?_) | (with_reducible refine w_peekV (by with_unfolding_all rfl) ?_) | (with_reducible refine w_peekO (by with_unfolding_all rfl) ?_) | (with_reducible refine w_app (by with_unfolding_all rfl) ?_) | (with_reducible refine w_frz (by with_unfolding_all rfl) ?_) | (with_reducible refine w_scr (by with_unfolding_all rfl) ?_) | (with_reducible refine w_tc (by with_unfolding_all rfl) ?_) | (with_reducible refine w_stc (by with_unfolding_all rfl) ?_) | (with_reducible refine w_tr (by with_unfolding_all rfl) ?_) | (with_reducible refine w_str (by with_unfolding_all rfl) ?_) | (with_reducible refine w_idxT (by with_unfolding_all rfl) ?_) | (with_reducible refine w_idxL (by with_unfolding_all rfl) ?_) | (with_reducible refine w_isi (by with_unfolding_all rfl) ?_) | ((with_reducible first | refine w_addT ?_ ?_ | refine w_addL ?_ ?_ | refine w_mulI ?_ ?_ | refine w_mulT ?_ ?_ | refine w_mulL ?_ ?_ | refine w_mod ?_ ?_ | refine w_div ?_ ?_ | refine w_pow ?_ ?_ | refine w_rng ?_ ?_); (first | decide | omega | (refine ⟨?_, ?_⟩ <;> omega) | (refine ⟨?_, ?_, ?_⟩ <;> omega) | (simp only [List.length_cons, List.length_nil, List.length_append, List.length_reverse, BL.cD_len, BL.iD_len, BL.mkx_len, BL.sizeL]; omega) | (refine ⟨List.cons_ne_nil _ _, ?_⟩; simp only [List.length_cons, List.length_nil]; omega))) | ((with_reducible first | refine w_eqD ?_ ?_ ?_ | refine w_neD ?_ ?_ ?_ | refine w_inT ?_ ?_ ?_ | refine w_inL ?_ ?_ ?_); (first | rfl | with_unfolding_all rfl); (first | rfl | with_unfolding_all rfl)) | ((with_reducible refine ift_of ?_ ?_); (with_unfolding_all rfl)) | ((with_reducible refine iff_of ?_ ?_); (with_unfolding_all rfl)) | ((with_reducible refine ift2_of ?_ ?_); (with_unfolding_all rfl)) | ((with_reducible refine iff2_of ?_ ?_); (with_unfolding_all rfl)) | ((with_reducible refine ift_of ?_ ?_); exact decide_eq_true (by omega)) | ((with_reducible refine iff_of ?_ ?_); exact decide_eq_false (by omega)) | ((with_reducible refine ift2_of ?_ ?_); exact decide_eq_true (by omega)) | ((with_reducible refine iff2_of ?_ ?_); exact decide_eq_false (by omega)))
    obtain ⟨c, hc, rfl⟩ := cD_of fun g h => gtsK_sub (hg g h)
    rw [cD_len] at hcs
    have hcs : c.length ≤ 9 := hcs
    repeat (first | (with_reducible refine w_draw hl ht2 (by decide) (by decide) fun r t3 r0 r1 ht3 => ?_) | (with_reducible first | refine w_seq ?_ | refine w_asg ?_ | refine w_asgP ?_ | refine pr_i ?_ | refine w_eqI ?_ | refine w_neI ?_ | refine w_own ?_ | refine w_par ?_ | refine w_parO ?_ | refine w_expr ?_ | refine w_if ?_ | refine w_sret ?_ | refine w_nil ?_ | refine w_for ?_ | refine w_bin ?_ | refine w_un ?_ | refine w_tup ?_ | refine w_lst ?_ | refine w_call ?_ | refine w_and ?_ | refine w_or ?_ | refine w_ife ?_ | refine w_chain ?_ | refine w_slice ?_ | refine w_oN ?_ | refine w_oS ?_ | refine w_comp ?_ | refine w_itSeq ?_ | refine w_itR ?_ | refine w_evnil ?_ | refine w_evcons ?_ | refine w_evc1 ?_ | refine w_evc0 ?_ | refine w_c ?_ | refine nx_nx ?_ | refine nx_ret ?_ | refine bl_i ?_ | refine in_i ?_ | refine sq_t ?_ | refine sq_l ?_ | refine ls_l ?_ | refine tp_t ?_ | refine w_not ?_ | refine w_addI ?_ | refine w_sub ?_ | refine w_xor ?_ | refine w_ltI ?_ | refine w_leI ?_ | refine w_gtI ?_ | refine w_geI ?_ | refine w_slT ?_ | refine w_slL ?_ | refine w_lenT ?_ | refine w_lenL ?_ | refine w_lenS ?_ | refine w_tupL ?_ | refine w_tupT ?_ | refine w_lstL ?_ | refine w_lstT ?_ | refine w_neg ?_ | refine w_isn ?_ | refine w_isnn ?_ | refine w_begun ?_ | refine w_ret ?_ | refine w_resE ?_) | (with_reducible refine w_var (by with_unfolding_all rfl) ?_) | (with_reducible refine w_peekV (by with_unfolding_all rfl) ?_) | (with_reducible refine w_peekO (by with_unfolding_all rfl) ?_) | (with_reducible refine w_app (by with_unfolding_all rfl) ?_) | (with_reducible refine w_frz (by with_unfolding_all rfl) ?_) | (with_reducible refine w_scr (by with_unfolding_all rfl) ?_) | (with_reducible refine w_tc (by with_unfolding_all rfl) ?_) | (with_reducible refine w_stc (by with_unfolding_all rfl) ?_) | (with_reducible refine w_tr (by with_unfolding_all rfl) ?_) | (with_reducible refine w_str (by with_unfolding_all rfl) ?_) | (with_reducible refine w_idxT (by with_unfolding_all rfl) ?_) | (with_reducible refine w_idxL (by with_unfolding_all rfl) ?_) | (with_reducible refine w_isi (by with_unfolding_all rfl) ?_) | ((with_reducible first | refine w_addT ?_ ?_ | refine w_addL ?_ ?_ | refine w_mulI ?_ ?_ | refine w_mulT ?_ ?_ | refine w_mulL ?_ ?_ | refine w_mod ?_ ?_ | refine w_div ?_ ?_ | refine w_pow ?_ ?_ | refine w_rng ?_ ?_); (first | decide | omega | (refine ⟨?_, ?_⟩ <;> omega) | (refine ⟨?_, ?_, ?_⟩ <;> omega) | (simp only [List.length_cons, List.length_nil, List.length_append, List.length_reverse, BL.cD_len, BL.iD_len, BL.mkx_len, BL.sizeL]; omega) | (refine ⟨List.cons_ne_nil _ _, ?_⟩; simp only [List.length_cons, List.length_nil]; omega))) | ((with_reducible first | refine w_eqD ?_ ?_ ?_ | refine w_neD ?_ ?_ ?_ | refine w_inT ?_ ?_ ?_ | refine w_inL ?_ ?_ ?_); (first | rfl | with_unfolding_all rfl); (first | rfl | with_unfolding_all rfl)) | ((with_reducible refine ift_of ?_ ?_); (with_unfolding_all rfl)) | ((with_reducible refine iff_of ?_ ?_); (with_unfolding_all rfl)) | ((with_reducible refine ift2_of ?_ ?_); (with_unfolding_all rfl)) | ((with_reducible refine iff2_of ?_ ?_); (with_unfolding_all rfl)) | ((with_reducible refine ift_of ?_ ?_); exact decide_eq_true (by omega)) | ((with_reducible refine iff_of ?_ ?_); exact decide_eq_false (by omega)) | ((with_reducible refine ift2_of ?_ ?_); exact decide_eq_true (by omega)) | ((with_reducible refine iff2_of ?_ ?_); exact decide_eq_false (by omega)))
    have l1 := cD_len c
    have hsz := sizeL
    refine ⟨fun _ => ?_, fun _ => ?_⟩
    · repeat (first | (with_reducible refine w_rev ?_) | (with_reducible first | refine w_seq ?_ | refine w_asg ?_ | refine w_asgP ?_ | refine pr_i ?_ | refine w_eqI ?_ | refine w_neI ?_ | refine w_own ?_ | refine w_par ?_ | refine w_parO ?_ | refine w_expr ?_ | refine w_if ?_ | refine w_sret ?_ | refine w_nil ?_ | refine w_for ?_ | refine w_bin ?_ | refine w_un ?_ | refine w_tup ?_ | refine w_lst ?_ | refine w_call ?_ | refine w_and ?_ | refine w_or ?_ | refine w_ife ?_ | refine w_chain ?_ | refine w_slice ?_ | refine w_oN ?_ | refine w_oS ?_ | refine w_comp ?_ | refine w_itSeq ?_ | refine w_itR ?_ | refine w_evnil ?_ | refine w_evcons ?_ | refine w_evc1 ?_ | refine w_evc0 ?_ | refine w_c ?_ | refine nx_nx ?_ | refine nx_ret ?_ | refine bl_i ?_ | refine in_i ?_ | refine sq_t ?_ | refine sq_l ?_ | refine ls_l ?_ | refine tp_t ?_ | refine w_not ?_ | refine w_addI ?_ | refine w_sub ?_ | refine w_xor ?_ | refine w_ltI ?_ | refine w_leI ?_ | refine w_gtI ?_ | refine w_geI ?_ | refine w_slT ?_ | refine w_slL ?_ | refine w_lenT ?_ | refine w_lenL ?_ | refine w_lenS ?_ | refine w_tupL ?_ | refine w_tupT ?_ | refine w_lstL ?_ | refine w_lstT ?_ | refine w_neg ?_ | refine w_isn ?_ | refine w_isnn ?_ | refine w_begun ?_ | refine w_ret ?_ | refine w_resE ?_) | (with_reducible refine w_var (by with_unfolding_all rfl) ?_) | (with_reducible refine w_peekV (by with_unfolding_all rfl) ?_) | (with_reducible refine w_peekO (by with_unfolding_all rfl) ?_) | (with_reducible refine w_app (by with_unfolding_all rfl) ?_) | (with_reducible refine w_frz (by with_unfolding_all rfl) ?_) | (with_reducible refine w_scr (by with_unfolding_all rfl) ?_) | (with_reducible refine w_tc (by with_unfolding_all rfl) ?_) | (with_reducible refine w_stc (by with_unfolding_all rfl) ?_) | (with_reducible refine w_tr (by with_unfolding_all rfl) ?_) | (with_reducible refine w_str (by with_unfolding_all rfl) ?_) | (with_reducible refine w_idxT (by with_unfolding_all rfl) ?_) | (with_reducible refine w_idxL (by with_unfolding_all rfl) ?_) | (with_reducible refine w_isi (by with_unfolding_all rfl) ?_) | ((with_reducible first | refine w_addT ?_ ?_ | refine w_addL ?_ ?_ | refine w_mulI ?_ ?_ | refine w_mulT ?_ ?_ | refine w_mulL ?_ ?_ | refine w_mod ?_ ?_ | refine w_div ?_ ?_ | refine w_pow ?_ ?_ | refine w_rng ?_ ?_); (first | decide | omega | (refine ⟨?_, ?_⟩ <;> omega) | (refine ⟨?_, ?_, ?_⟩ <;> omega) | (simp only [List.length_cons, List.length_nil, List.length_append, List.length_reverse, BL.cD_len, BL.iD_len, BL.mkx_len, BL.sizeL]; omega) | (refine ⟨List.cons_ne_nil _ _, ?_⟩; simp only [List.length_cons, List.length_nil]; omega))) | ((with_reducible first | refine w_eqD ?_ ?_ ?_ | refine w_neD ?_ ?_ ?_ | refine w_inT ?_ ?_ ?_ | refine w_inL ?_ ?_ ?_); (first | rfl | with_unfolding_all rfl); (first | rfl | with_unfolding_all rfl)) | ((with_reducible refine ift_of ?_ ?_); (with_unfolding_all rfl)) | ((with_reducible refine iff_of ?_ ?_); (with_unfolding_all rfl)) | ((with_reducible refine ift2_of ?_ ?_); (with_unfolding_all rfl)) | ((with_reducible refine iff2_of ?_ ?_); (with_unfolding_all rfl)) | ((with_reducible refine ift_of ?_ ?_); exact decide_eq_true (by omega)) | ((with_reducible refine iff_of ?_ ?_); exact decide_eq_false (by omega)) | ((with_reducible refine ift2_of ?_ ?_); exact decide_eq_true (by omega)) | ((with_reducible refine iff2_of ?_ ?_); exact decide_eq_false (by omega)))
      rw [← cD_rev, ← cD_app]
      have hcl : (c ++ c.reverse).length ≤ 20 := by rw [List.length_append, List.length_reverse]; omega
      have hc := hc.app hc.rev
      generalize c ++ c.reverse = c at *
      have a1 := cancelling_eq hc hcl
      have a2 := law_pairs_eq hc (by omega)
      have a3 := shortened_eq hc hcl
      have a4 := law_short_eq hc hcl
      have gs := (short_Gs hc).1
      have o1 : okD (.tup (pairD (pairsG c))) 60 = true := pairD_ne.2
      have o2 : nobl (.tup (pairD (pairsG c))) = true := pairD_ne.1
      have z1 := canc_no (d := .non) (is_circuit_no rfl)
      have z2 := canc_no (d := .lst []) (is_circuit_no rfl)
      have z3 := canc_no (d := .tup [.tup [.str "not"]]) (by with_unfolding_all rfl)
      have z4 := canc_no (d := .tup (List.replicate (Int.toNat 21) [D.tup [.str "not", .int 0]]).flatten) (is_circuit_many (by decide +kernel) (by decide +kernel))
      have y1 := gate_no (d := .non) (e := .non) hi (by with_unfolding_all rfl)
      have y2 := gate_no (d := .tup [.str "not"]) (e := .non) hi (by with_unfolding_all rfl)
      have y3 := gate_no (d := .tup [.str "both", .int 0, .int 1, .int 3]) (e := .non) hi (by with_unfolding_all rfl)
      have y4 := gate_no (d := .tup [.tup [.str "not", .int 0]]) (e := .non) hi (by with_unfolding_all rfl)
      repeat (first | (with_reducible refine w_eq a1 ?_) | (with_reducible refine w_eq a2 ?_) | (with_reducible refine w_eq a3 ?_) | (with_reducible refine w_eq a4 ?_) | (with_reducible refine w_ne_no rfl o1 o2 ?_) | (with_reducible refine w_ne_no rfl (ok_cD gs) (nobl_cD gs) ?_) | (with_reducible refine w_rC z1.1 ?_) | (with_reducible refine w_rC z1.2 ?_) | (with_reducible refine w_rC z2.1 ?_) | (with_reducible refine w_rC z2.2 ?_) | (with_reducible refine w_rC z3.1 ?_) | (with_reducible refine w_rC z3.2 ?_) | (with_reducible refine w_rC z4.1 ?_) | (with_reducible refine w_rC z4.2 ?_) | (with_reducible refine w_rG y1.1 ?_) | (with_reducible refine w_rG y1.2.1 ?_) | (with_reducible refine w_rG y1.2.2.1 ?_) | (with_reducible refine w_rG y1.2.2.2 ?_) | (with_reducible refine w_rG y2.1 ?_) | (with_reducible refine w_rG y2.2.1 ?_) | (with_reducible refine w_rG y2.2.2.1 ?_) | (with_reducible refine w_rG y2.2.2.2 ?_) | (with_reducible refine w_rG y3.1 ?_) | (with_reducible refine w_rG y3.2.1 ?_) | (with_reducible refine w_rG y3.2.2.1 ?_) | (with_reducible refine w_rG y3.2.2.2 ?_) | (with_reducible refine w_rG y4.1 ?_) | (with_reducible refine w_rG y4.2.1 ?_) | (with_reducible refine w_rG y4.2.2.1 ?_) | (with_reducible refine w_rG y4.2.2.2 ?_) | (with_reducible first | refine w_seq ?_ | refine w_asg ?_ | refine w_asgP ?_ | refine pr_i ?_ | refine w_eqI ?_ | refine w_neI ?_ | refine w_own ?_ | refine w_par ?_ | refine w_parO ?_ | refine w_expr ?_ | refine w_if ?_ | refine w_sret ?_ | refine w_nil ?_ | refine w_for ?_ | refine w_bin ?_ | refine w_un ?_ | refine w_tup ?_ | refine w_lst ?_ | refine w_call ?_ | refine w_and ?_ | refine w_or ?_ | refine w_ife ?_ | refine w_chain ?_ | refine w_slice ?_ | refine w_oN ?_ | refine w_oS ?_ | refine w_comp ?_ | refine w_itSeq ?_ | refine w_itR ?_ | refine w_evnil ?_ | refine w_evcons ?_ | refine w_evc1 ?_ | refine w_evc0 ?_ | refine w_c ?_ | refine nx_nx ?_ | refine nx_ret ?_ | refine bl_i ?_ | refine in_i ?_ | refine sq_t ?_ | refine sq_l ?_ | refine ls_l ?_ | refine tp_t ?_ | refine w_not ?_ | refine w_addI ?_ | refine w_sub ?_ | refine w_xor ?_ | refine w_ltI ?_ | refine w_leI ?_ | refine w_gtI ?_ | refine w_geI ?_ | refine w_slT ?_ | refine w_slL ?_ | refine w_lenT ?_ | refine w_lenL ?_ | refine w_lenS ?_ | refine w_tupL ?_ | refine w_tupT ?_ | refine w_lstL ?_ | refine w_lstT ?_ | refine w_neg ?_ | refine w_isn ?_ | refine w_isnn ?_ | refine w_begun ?_ | refine w_ret ?_ | refine w_resE ?_) | (with_reducible refine w_var (by with_unfolding_all rfl) ?_) | (with_reducible refine w_peekV (by with_unfolding_all rfl) ?_) | (with_reducible refine w_peekO (by with_unfolding_all rfl) ?_) | (with_reducible refine w_app (by with_unfolding_all rfl) ?_) | (with_reducible refine w_frz (by with_unfolding_all rfl) ?_) | (with_reducible refine w_scr (by with_unfolding_all rfl) ?_) | (with_reducible refine w_tc (by with_unfolding_all rfl) ?_) | (with_reducible refine w_stc (by with_unfolding_all rfl) ?_) | (with_reducible refine w_tr (by with_unfolding_all rfl) ?_) | (with_reducible refine w_str (by with_unfolding_all rfl) ?_) | (with_reducible refine w_idxT (by with_unfolding_all rfl) ?_) | (with_reducible refine w_idxL (by with_unfolding_all rfl) ?_) | (with_reducible refine w_isi (by with_unfolding_all rfl) ?_) | ((with_reducible first | refine w_addT ?_ ?_ | refine w_addL ?_ ?_ | refine w_mulI ?_ ?_ | refine w_mulT ?_ ?_ | refine w_mulL ?_ ?_ | refine w_mod ?_ ?_ | refine w_div ?_ ?_ | refine w_pow ?_ ?_ | refine w_rng ?_ ?_); (first | decide | omega | (refine ⟨?_, ?_⟩ <;> omega) | (refine ⟨?_, ?_, ?_⟩ <;> omega) | (simp only [List.length_cons, List.length_nil, List.length_append, List.length_reverse, BL.cD_len, BL.iD_len, BL.mkx_len, BL.sizeL]; omega) | (refine ⟨List.cons_ne_nil _ _, ?_⟩; simp only [List.length_cons, List.length_nil]; omega))) | ((with_reducible first | refine w_eqD ?_ ?_ ?_ | refine w_neD ?_ ?_ ?_ | refine w_inT ?_ ?_ ?_ | refine w_inL ?_ ?_ ?_); (first | rfl | with_unfolding_all rfl); (first | rfl | with_unfolding_all rfl)) | ((with_reducible refine ift_of ?_ ?_); (with_unfolding_all rfl)) | ((with_reducible refine iff_of ?_ ?_); (with_unfolding_all rfl)) | ((with_reducible refine ift2_of ?_ ?_); (with_unfolding_all rfl)) | ((with_reducible refine iff2_of ?_ ?_); (with_unfolding_all rfl)) | ((with_reducible refine ift_of ?_ ?_); exact decide_eq_true (by omega)) | ((with_reducible refine iff_of ?_ ?_); exact decide_eq_false (by omega)) | ((with_reducible refine ift2_of ?_ ?_); exact decide_eq_true (by omega)) | ((with_reducible refine iff2_of ?_ ?_); exact decide_eq_false (by omega)) | ((with_reducible first | refine and_lt ?_ ?_ | refine and_le ?_ ?_ | refine and_ri ?_ ?_ ?_); (first | decide | omega | (simp only [List.length_cons, List.length_nil, List.length_append, List.length_reverse, List.length_map, BL.cD_len, BL.iD_len, BL.mkx_len, BL.sizeL]; omega)); (try (show _ < (2 : Int) ^ 62); (first | decide | omega | (simp only [List.length_cons, List.length_nil, List.length_append, List.length_reverse, List.length_map, BL.cD_len, BL.iD_len, BL.mkx_len, BL.sizeL]; omega)))) | ((with_reducible refine w_fcons rfl ?_); (try dsimp only [List.set])) | (with_reducible refine w_fnil ?_))
      exact ⟨_, _, _, _, _, rfl, ht3⟩
    · repeat (first | (with_reducible first | refine w_seq ?_ | refine w_asg ?_ | refine w_asgP ?_ | refine pr_i ?_ | refine w_eqI ?_ | refine w_neI ?_ | refine w_own ?_ | refine w_par ?_ | refine w_parO ?_ | refine w_expr ?_ | refine w_if ?_ | refine w_sret ?_ | refine w_nil ?_ | refine w_for ?_ | refine w_bin ?_ | refine w_un ?_ | refine w_tup ?_ | refine w_lst ?_ | refine w_call ?_ | refine w_and ?_ | refine w_or ?_ | refine w_ife ?_ | refine w_chain ?_ | refine w_slice ?_ | refine w_oN ?_ | refine w_oS ?_ | refine w_comp ?_ | refine w_itSeq ?_ | refine w_itR ?_ | refine w_evnil ?_ | refine w_evcons ?_ | refine w_evc1 ?_ | refine w_evc0 ?_ | refine w_c ?_ | refine nx_nx ?_ | refine nx_ret ?_ | refine bl_i ?_ | refine in_i ?_ | refine sq_t ?_ | refine sq_l ?_ | refine ls_l ?_ | refine tp_t ?_ | refine w_not ?_ | refine w_addI ?_ | refine w_sub ?_ | refine w_xor ?_ | refine w_ltI ?_ | refine w_leI ?_ | refine w_gtI ?_ | refine w_geI ?_ | refine w_slT ?_ | refine w_slL ?_ | refine w_lenT ?_ | refine w_lenL ?_ | refine w_lenS ?_ | refine w_tupL ?_ | refine w_tupT ?_ | refine w_lstL ?_ | refine w_lstT ?_ | refine w_neg ?_ | refine w_isn ?_ | refine w_isnn ?_ | refine w_begun ?_ | refine w_ret ?_ | refine w_resE ?_) | (with_reducible refine w_var (by with_unfolding_all rfl) ?_) | (with_reducible refine w_peekV (by with_unfolding_all rfl) ?_) | (with_reducible refine w_peekO (by with_unfolding_all rfl) ?_) | (with_reducible refine w_app (by with_unfolding_all rfl) ?_) | (with_reducible refine w_frz (by with_unfolding_all rfl) ?_) | (with_reducible refine w_scr (by with_unfolding_all rfl) ?_) | (with_reducible refine w_tc (by with_unfolding_all rfl) ?_) | (with_reducible refine w_stc (by with_unfolding_all rfl) ?_) | (with_reducible refine w_tr (by with_unfolding_all rfl) ?_) | (with_reducible refine w_str (by with_unfolding_all rfl) ?_) | (with_reducible refine w_idxT (by with_unfolding_all rfl) ?_) | (with_reducible refine w_idxL (by with_unfolding_all rfl) ?_) | (with_reducible refine w_isi (by with_unfolding_all rfl) ?_) | ((with_reducible first | refine w_addT ?_ ?_ | refine w_addL ?_ ?_ | refine w_mulI ?_ ?_ | refine w_mulT ?_ ?_ | refine w_mulL ?_ ?_ | refine w_mod ?_ ?_ | refine w_div ?_ ?_ | refine w_pow ?_ ?_ | refine w_rng ?_ ?_); (first | decide | omega | (refine ⟨?_, ?_⟩ <;> omega) | (refine ⟨?_, ?_, ?_⟩ <;> omega) | (simp only [List.length_cons, List.length_nil, List.length_append, List.length_reverse, BL.cD_len, BL.iD_len, BL.mkx_len, BL.sizeL]; omega) | (refine ⟨List.cons_ne_nil _ _, ?_⟩; simp only [List.length_cons, List.length_nil]; omega))) | ((with_reducible first | refine w_eqD ?_ ?_ ?_ | refine w_neD ?_ ?_ ?_ | refine w_inT ?_ ?_ ?_ | refine w_inL ?_ ?_ ?_); (first | rfl | with_unfolding_all rfl); (first | rfl | with_unfolding_all rfl)) | ((with_reducible refine ift_of ?_ ?_); (with_unfolding_all rfl)) | ((with_reducible refine iff_of ?_ ?_); (with_unfolding_all rfl)) | ((with_reducible refine ift2_of ?_ ?_); (with_unfolding_all rfl)) | ((with_reducible refine iff2_of ?_ ?_); (with_unfolding_all rfl)) | ((with_reducible refine ift_of ?_ ?_); exact decide_eq_true (by omega)) | ((with_reducible refine iff_of ?_ ?_); exact decide_eq_false (by omega)) | ((with_reducible refine ift2_of ?_ ?_); exact decide_eq_true (by omega)) | ((with_reducible refine iff2_of ?_ ?_); exact decide_eq_false (by omega)))
      have hcl : c.length ≤ 20 := by omega
      have a1 := cancelling_eq hc hcl
      have a2 := law_pairs_eq hc (by omega)
      have a3 := shortened_eq hc hcl
      have a4 := law_short_eq hc hcl
      have gs := (short_Gs hc).1
      have o1 : okD (.tup (pairD (pairsG c))) 60 = true := pairD_ne.2
      have o2 : nobl (.tup (pairD (pairsG c))) = true := pairD_ne.1
      have z1 := canc_no (d := .non) (is_circuit_no rfl)
      have z2 := canc_no (d := .lst []) (is_circuit_no rfl)
      have z3 := canc_no (d := .tup [.tup [.str "not"]]) (by with_unfolding_all rfl)
      have z4 := canc_no (d := .tup (List.replicate (Int.toNat 21) [D.tup [.str "not", .int 0]]).flatten) (is_circuit_many (by decide +kernel) (by decide +kernel))
      have y1 := gate_no (d := .non) (e := .non) hi (by with_unfolding_all rfl)
      have y2 := gate_no (d := .tup [.str "not"]) (e := .non) hi (by with_unfolding_all rfl)
      have y3 := gate_no (d := .tup [.str "both", .int 0, .int 1, .int 3]) (e := .non) hi (by with_unfolding_all rfl)
      have y4 := gate_no (d := .tup [.tup [.str "not", .int 0]]) (e := .non) hi (by with_unfolding_all rfl)
      repeat (first | (with_reducible refine w_eq a1 ?_) | (with_reducible refine w_eq a2 ?_) | (with_reducible refine w_eq a3 ?_) | (with_reducible refine w_eq a4 ?_) | (with_reducible refine w_ne_no rfl o1 o2 ?_) | (with_reducible refine w_ne_no rfl (ok_cD gs) (nobl_cD gs) ?_) | (with_reducible refine w_rC z1.1 ?_) | (with_reducible refine w_rC z1.2 ?_) | (with_reducible refine w_rC z2.1 ?_) | (with_reducible refine w_rC z2.2 ?_) | (with_reducible refine w_rC z3.1 ?_) | (with_reducible refine w_rC z3.2 ?_) | (with_reducible refine w_rC z4.1 ?_) | (with_reducible refine w_rC z4.2 ?_) | (with_reducible refine w_rG y1.1 ?_) | (with_reducible refine w_rG y1.2.1 ?_) | (with_reducible refine w_rG y1.2.2.1 ?_) | (with_reducible refine w_rG y1.2.2.2 ?_) | (with_reducible refine w_rG y2.1 ?_) | (with_reducible refine w_rG y2.2.1 ?_) | (with_reducible refine w_rG y2.2.2.1 ?_) | (with_reducible refine w_rG y2.2.2.2 ?_) | (with_reducible refine w_rG y3.1 ?_) | (with_reducible refine w_rG y3.2.1 ?_) | (with_reducible refine w_rG y3.2.2.1 ?_) | (with_reducible refine w_rG y3.2.2.2 ?_) | (with_reducible refine w_rG y4.1 ?_) | (with_reducible refine w_rG y4.2.1 ?_) | (with_reducible refine w_rG y4.2.2.1 ?_) | (with_reducible refine w_rG y4.2.2.2 ?_) | (with_reducible first | refine w_seq ?_ | refine w_asg ?_ | refine w_asgP ?_ | refine pr_i ?_ | refine w_eqI ?_ | refine w_neI ?_ | refine w_own ?_ | refine w_par ?_ | refine w_parO ?_ | refine w_expr ?_ | refine w_if ?_ | refine w_sret ?_ | refine w_nil ?_ | refine w_for ?_ | refine w_bin ?_ | refine w_un ?_ | refine w_tup ?_ | refine w_lst ?_ | refine w_call ?_ | refine w_and ?_ | refine w_or ?_ | refine w_ife ?_ | refine w_chain ?_ | refine w_slice ?_ | refine w_oN ?_ | refine w_oS ?_ | refine w_comp ?_ | refine w_itSeq ?_ | refine w_itR ?_ | refine w_evnil ?_ | refine w_evcons ?_ | refine w_evc1 ?_ | refine w_evc0 ?_ | refine w_c ?_ | refine nx_nx ?_ | refine nx_ret ?_ | refine bl_i ?_ | refine in_i ?_ | refine sq_t ?_ | refine sq_l ?_ | refine ls_l ?_ | refine tp_t ?_ | refine w_not ?_ | refine w_addI ?_ | refine w_sub ?_ | refine w_xor ?_ | refine w_ltI ?_ | refine w_leI ?_ | refine w_gtI ?_ | refine w_geI ?_ | refine w_slT ?_ | refine w_slL ?_ | refine w_lenT ?_ | refine w_lenL ?_ | refine w_lenS ?_ | refine w_tupL ?_ | refine w_tupT ?_ | refine w_lstL ?_ | refine w_lstT ?_ | refine w_neg ?_ | refine w_isn ?_ | refine w_isnn ?_ | refine w_begun ?_ | refine w_ret ?_ | refine w_resE ?_) | (with_reducible refine w_var (by with_unfolding_all rfl) ?_) | (with_reducible refine w_peekV (by with_unfolding_all rfl) ?_) | (with_reducible refine w_peekO (by with_unfolding_all rfl) ?_) | (with_reducible refine w_app (by with_unfolding_all rfl) ?_) | (with_reducible refine w_frz (by with_unfolding_all rfl) ?_) | (with_reducible refine w_scr (by with_unfolding_all rfl) ?_) | (with_reducible refine w_tc (by with_unfolding_all rfl) ?_) | (with_reducible refine w_stc (by with_unfolding_all rfl) ?_) | (with_reducible refine w_tr (by with_unfolding_all rfl) ?_) | (with_reducible refine w_str (by with_unfolding_all rfl) ?_) | (with_reducible refine w_idxT (by with_unfolding_all rfl) ?_) | (with_reducible refine w_idxL (by with_unfolding_all rfl) ?_) | (with_reducible refine w_isi (by with_unfolding_all rfl) ?_) | ((with_reducible first | refine w_addT ?_ ?_ | refine w_addL ?_ ?_ | refine w_mulI ?_ ?_ | refine w_mulT ?_ ?_ | refine w_mulL ?_ ?_ | refine w_mod ?_ ?_ | refine w_div ?_ ?_ | refine w_pow ?_ ?_ | refine w_rng ?_ ?_); (first | decide | omega | (refine ⟨?_, ?_⟩ <;> omega) | (refine ⟨?_, ?_, ?_⟩ <;> omega) | (simp only [List.length_cons, List.length_nil, List.length_append, List.length_reverse, BL.cD_len, BL.iD_len, BL.mkx_len, BL.sizeL]; omega) | (refine ⟨List.cons_ne_nil _ _, ?_⟩; simp only [List.length_cons, List.length_nil]; omega))) | ((with_reducible first | refine w_eqD ?_ ?_ ?_ | refine w_neD ?_ ?_ ?_ | refine w_inT ?_ ?_ ?_ | refine w_inL ?_ ?_ ?_); (first | rfl | with_unfolding_all rfl); (first | rfl | with_unfolding_all rfl)) | ((with_reducible refine ift_of ?_ ?_); (with_unfolding_all rfl)) | ((with_reducible refine iff_of ?_ ?_); (with_unfolding_all rfl)) | ((with_reducible refine ift2_of ?_ ?_); (with_unfolding_all rfl)) | ((with_reducible refine iff2_of ?_ ?_); (with_unfolding_all rfl)) | ((with_reducible refine ift_of ?_ ?_); exact decide_eq_true (by omega)) | ((with_reducible refine iff_of ?_ ?_); exact decide_eq_false (by omega)) | ((with_reducible refine ift2_of ?_ ?_); exact decide_eq_true (by omega)) | ((with_reducible refine iff2_of ?_ ?_); exact decide_eq_false (by omega)) | ((with_reducible first | refine and_lt ?_ ?_ | refine and_le ?_ ?_ | refine and_ri ?_ ?_ ?_); (first | decide | omega | (simp only [List.length_cons, List.length_nil, List.length_append, List.length_reverse, List.length_map, BL.cD_len, BL.iD_len, BL.mkx_len, BL.sizeL]; omega)); (try (show _ < (2 : Int) ^ 62); (first | decide | omega | (simp only [List.length_cons, List.length_nil, List.length_append, List.length_reverse, List.length_map, BL.cD_len, BL.iD_len, BL.mkx_len, BL.sizeL]; omega)))) | ((with_reducible refine w_fcons rfl ?_); (try dsimp only [List.set])) | (with_reducible refine w_fnil ?_))
      exact ⟨_, _, _, _, _, rfl, ht3⟩
  subst hS
  repeat (first | (with_reducible first | refine w_seq ?_ | refine w_asg ?_ | refine w_asgP ?_ | refine pr_i ?_ | refine w_eqI ?_ | refine w_neI ?_ | refine w_own ?_ | refine w_par ?_ | refine w_parO ?_ | refine w_expr ?_ | refine w_if ?_ | refine w_sret ?_ | refine w_nil ?_ | refine w_for ?_ | refine w_bin ?_ | refine w_un ?_ | refine w_tup ?_ | refine w_lst ?_ | refine w_call ?_ | refine w_and ?_ | refine w_or ?_ | refine w_ife ?_ | refine w_chain ?_ | refine w_slice ?_ | refine w_oN ?_ | refine w_oS ?_ | refine w_comp ?_ | refine w_itSeq ?_ | refine w_itR ?_ | refine w_evnil ?_ | refine w_evcons ?_ | refine w_evc1 ?_ | refine w_evc0 ?_ | refine w_c ?_ | refine nx_nx ?_ | refine nx_ret ?_ | refine bl_i ?_ | refine in_i ?_ | refine sq_t ?_ | refine sq_l ?_ | refine ls_l ?_ | refine tp_t ?_ | refine w_not ?_ | refine w_addI ?_ | refine w_sub ?_ | refine w_xor ?_ | refine w_ltI ?_ | refine w_leI ?_ | refine w_gtI ?_ | refine w_geI ?_ | refine w_slT ?_ | refine w_slL ?_ | refine w_lenT ?_ | refine w_lenL ?_ | refine w_lenS ?_ | refine w_tupL ?_ | refine w_tupT ?_ | refine w_lstL ?_ | refine w_lstT ?_ | refine w_neg ?_ | refine w_isn ?_ | refine w_isnn ?_ | refine w_begun ?_ | refine w_ret ?_ | refine w_resE ?_) | (with_reducible refine w_var (by with_unfolding_all rfl) ?_) | (with_reducible refine w_peekV (by with_unfolding_all rfl) ?_) | (with_reducible refine w_peekO (by with_unfolding_all rfl) ?_) | (with_reducible refine w_app (by with_unfolding_all rfl) ?_) | (with_reducible refine w_frz (by with_unfolding_all rfl) ?_) | (with_reducible refine w_scr (by with_unfolding_all rfl) ?_) | (with_reducible refine w_tc (by with_unfolding_all rfl) ?_) | (with_reducible refine w_stc (by with_unfolding_all rfl) ?_) | (with_reducible refine w_tr (by with_unfolding_all rfl) ?_) | (with_reducible refine w_str (by with_unfolding_all rfl) ?_) | (with_reducible refine w_idxT (by with_unfolding_all rfl) ?_) | (with_reducible refine w_idxL (by with_unfolding_all rfl) ?_) | (with_reducible refine w_isi (by with_unfolding_all rfl) ?_) | ((with_reducible first | refine w_addT ?_ ?_ | refine w_addL ?_ ?_ | refine w_mulI ?_ ?_ | refine w_mulT ?_ ?_ | refine w_mulL ?_ ?_ | refine w_mod ?_ ?_ | refine w_div ?_ ?_ | refine w_pow ?_ ?_ | refine w_rng ?_ ?_); (first | decide | omega | (refine ⟨?_, ?_⟩ <;> omega) | (refine ⟨?_, ?_, ?_⟩ <;> omega) | (simp only [List.length_cons, List.length_nil, List.length_append, List.length_reverse, BL.cD_len, BL.iD_len, BL.mkx_len, BL.sizeL]; omega) | (refine ⟨List.cons_ne_nil _ _, ?_⟩; simp only [List.length_cons, List.length_nil]; omega))) | ((with_reducible first | refine w_eqD ?_ ?_ ?_ | refine w_neD ?_ ?_ ?_ | refine w_inT ?_ ?_ ?_ | refine w_inL ?_ ?_ ?_); (first | rfl | with_unfolding_all rfl); (first | rfl | with_unfolding_all rfl)) | ((with_reducible refine ift_of ?_ ?_); (with_unfolding_all rfl)) | ((with_reducible refine iff_of ?_ ?_); (with_unfolding_all rfl)) | ((with_reducible refine ift2_of ?_ ?_); (with_unfolding_all rfl)) | ((with_reducible refine iff2_of ?_ ?_); (with_unfolding_all rfl)) | ((with_reducible refine ift_of ?_ ?_); exact decide_eq_true (by omega)) | ((with_reducible refine iff_of ?_ ?_); exact decide_eq_false (by omega)) | ((with_reducible refine ift2_of ?_ ?_); exact decide_eq_true (by omega)) | ((with_reducible refine iff2_of ?_ ?_); exact decide_eq_false (by omega)))
  rfl
end K14
set_option Elab.async false
set_option linter.all false
set_option maxRecDepth 100000
set_option maxHeartbeats 4000000
namespace K14
open PySem PySem.Spec PyProof.Rows L2 BG BL
theorem all_mk {l : PySem.W.OpenLaw} {w : World} {K : PySem.W.Frag} {h : Heap} {mg : Str → Option Value} {fa : Addr} (X : K.In h) (G : h.Ns mainGlobals mg) (hfa : mg "law" = some (.ref fa))
    {od_is_between an_is_between : Option Addr} {sl_is_between : Array (Option Value)} {oc_is_between kV_is_between dc_is_between pm_is_between ct_is_between : Value} {f_a_is_between : Addr}
    {cd_is_between : Value}
    {od_is_gate an_is_gate : Option Addr} {sl_is_gate : Array (Option Value)} {oc_is_gate kV_is_gate dc_is_gate pm_is_gate ct_is_gate : Value} {f_a_is_gate : Addr}
    {cd_is_gate : Value}
    {od_is_circuit an_is_circuit : Option Addr} {sl_is_circuit : Array (Option Value)} {oc_is_circuit kV_is_circuit dc_is_circuit pm_is_circuit ct_is_circuit : Value} {f_a_is_circuit : Addr}
    {cd_is_circuit : Value}
    {od_check_gate an_check_gate : Option Addr} {sl_check_gate : Array (Option Value)} {oc_check_gate kV_check_gate dc_check_gate pm_check_gate ct_check_gate : Value} {f_a_check_gate : Addr}
    {cd_check_gate : Value}
    {od_check_circuit an_check_circuit : Option Addr} {sl_check_circuit : Array (Option Value)} {oc_check_circuit kV_check_circuit dc_check_circuit pm_check_circuit ct_check_circuit : Value} {f_a_check_circuit : Addr}
    {cd_check_circuit : Value}
    {od_weight_of an_weight_of : Option Addr} {sl_weight_of : Array (Option Value)} {oc_weight_of kV_weight_of dc_weight_of pm_weight_of ct_weight_of : Value} {f_a_weight_of : Addr}
    {cd_weight_of : Value}
    {od_bit an_bit : Option Addr} {sl_bit : Array (Option Value)} {oc_bit kV_bit dc_bit pm_bit ct_bit : Value} {f_a_bit : Addr}
    {cd_bit : Value}
    {od_applied an_applied : Option Addr} {sl_applied : Array (Option Value)} {oc_applied kV_applied dc_applied pm_applied ct_applied : Value} {f_a_applied : Addr}
    {cd_applied : Value}
    {od_first_difference an_first_difference : Option Addr} {sl_first_difference : Array (Option Value)} {oc_first_difference kV_first_difference dc_first_difference pm_first_difference ct_first_difference : Value} {f_a_first_difference : Addr}
    {cd_first_difference : Value}
    {od_may_change an_may_change : Option Addr} {sl_may_change : Array (Option Value)} {oc_may_change kV_may_change dc_may_change pm_may_change ct_may_change : Value} {f_a_may_change : Addr}
    {cd_may_change : Value}
    {od_difference an_difference : Option Addr} {sl_difference : Array (Option Value)} {oc_difference kV_difference dc_difference pm_difference ct_difference : Value} {f_a_difference : Addr}
    {cd_difference : Value}
    {od_pairs_of an_pairs_of : Option Addr} {sl_pairs_of : Array (Option Value)} {oc_pairs_of kV_pairs_of dc_pairs_of pm_pairs_of ct_pairs_of : Value} {f_a_pairs_of : Addr}
    {cd_pairs_of : Value}
    {od_shortened an_shortened : Option Addr} {sl_shortened : Array (Option Value)} {oc_shortened kV_shortened dc_shortened pm_shortened ct_shortened : Value} {f_a_shortened : Addr}
    {cd_shortened : Value}
    {od_cancelling an_cancelling : Option Addr} {sl_cancelling : Array (Option Value)} {oc_cancelling kV_cancelling dc_cancelling pm_cancelling ct_cancelling : Value} {f_a_cancelling : Addr}
    {cd_cancelling : Value}
    {od_law_is an_law_is : Option Addr} {sl_law_is : Array (Option Value)} {oc_law_is kV_law_is dc_law_is pm_law_is ct_law_is : Value} {f_a_law_is : Addr}
    {cd_law_is : Value}
    {od_law_draw an_law_draw : Option Addr} {sl_law_draw : Array (Option Value)} {oc_law_draw kV_law_draw dc_law_draw pm_law_draw ct_law_draw : Value} {f_a_law_draw : Addr}
    {cd_law_draw : Value}
    {od_law_begun an_law_begun : Option Addr} {sl_law_begun : Array (Option Value)} {oc_law_begun kV_law_begun dc_law_begun pm_law_begun ct_law_begun : Value} {f_a_law_begun : Addr}
    {cd_law_begun : Value}
    {od_law_gates an_law_gates : Option Addr} {sl_law_gates : Array (Option Value)} {oc_law_gates kV_law_gates dc_law_gates pm_law_gates ct_law_gates : Value} {f_a_law_gates : Addr}
    {cd_law_gates : Value}
    {od_law_circuit an_law_circuit : Option Addr} {sl_law_circuit : Array (Option Value)} {oc_law_circuit kV_law_circuit dc_law_circuit pm_law_circuit ct_law_circuit : Value} {f_a_law_circuit : Addr}
    {cd_law_circuit : Value}
    {od_law_apply an_law_apply : Option Addr} {sl_law_apply : Array (Option Value)} {oc_law_apply kV_law_apply dc_law_apply pm_law_apply ct_law_apply : Value} {f_a_law_apply : Addr}
    {cd_law_apply : Value}
    {od_law_differ an_law_differ : Option Addr} {sl_law_differ : Array (Option Value)} {oc_law_differ kV_law_differ dc_law_differ pm_law_differ ct_law_differ : Value} {f_a_law_differ : Addr}
    {cd_law_differ : Value}
    {od_law_pairs an_law_pairs : Option Addr} {sl_law_pairs : Array (Option Value)} {oc_law_pairs kV_law_pairs dc_law_pairs pm_law_pairs ct_law_pairs : Value} {f_a_law_pairs : Addr}
    {cd_law_pairs : Value}
    {od_law_short an_law_short : Option Addr} {sl_law_short : Array (Option Value)} {oc_law_short kV_law_short dc_law_short pm_law_short ct_law_short : Value} {f_a_law_short : Addr}
    {cd_law_short : Value}
    {od_law an_law : Option Addr} {sl_law : Array (Option Value)} {oc_law kV_law dc_law pm_law ct_law : Value} {f_a_law : Addr}
    {ca_law P_law : Addr}
    {oo_law : Value} {ox_law : Option Addr} {vs_law : Array Value} {so_law : Array (Option Value)}
    {od_law_result an_law_result : Option Addr} {sl_law_result : Array (Option Value)} {oc_law_result kV_law_result dc_law_result pm_law_result ct_law_result : Value} {f_a_law_result : Addr}
    {cd_law_result : Value}
    {a_cKINDS : Addr} {od_cKINDS : Option Addr} {n_cKINDS : Nat} {sl_cKINDS : Array (Option Value)} {t0_KINDS t1_KINDS t2_KINDS t3_KINDS t4_KINDS : Tok}
    {t_cLONGEST : Tok}
    {a_cSAME : Addr} {od_cSAME : Option Addr} {n_cSAME : Nat} {sl_cSAME : Array (Option Value)} {t0_SAME t1_SAME t2_SAME t3_SAME t4_SAME t5_SAME t6_SAME t7_SAME : Tok}
    {a_GE : Addr}
    {a_eInvalidWord : Addr}
    {a_eInvalidExchange : Addr}
    {a_eInvalidLines : Addr}
    {a_eInvalidKinds : Addr}
    {a_eInvalidFunction : Addr}
    {a_eInvalidAnswers : Addr}
    {a_eInvalidText : Addr}
    {a_eTooMany : Addr}
    {a_eEmpty : Addr}
    {a_eNothingToUndo : Addr}
    {a_eInvalidGate : Addr}
    {a_eInvalidCircuit : Addr}
    (a_is_between : PySem.W.nsIn K mainGlobals "is_between" = some (some (.ref f_a_is_between)))
    (l_is_between : K.lookup f_a_is_between = some ⟨oc_is_between, od_is_between, .func (PySem.W.fnOf "is_between" "is_between" (defArgs s_is_between) (defBody s_is_between) (defScope s_is_between) .none kV_is_between dc_is_between pm_is_between an_is_between cd_is_between ct_is_between), sl_is_between⟩)
    (c_is_between : PySem.W.codeIn K cd_is_between "is_between" = true)
    (k_is_between : PySem.W.keepIn K (.ref f_a_is_between) = true)
    (a_is_gate : PySem.W.nsIn K mainGlobals "is_gate" = some (some (.ref f_a_is_gate)))
    (l_is_gate : K.lookup f_a_is_gate = some ⟨oc_is_gate, od_is_gate, .func (PySem.W.fnOf "is_gate" "is_gate" (defArgs s_is_gate) (defBody s_is_gate) (defScope s_is_gate) .none kV_is_gate dc_is_gate pm_is_gate an_is_gate cd_is_gate ct_is_gate), sl_is_gate⟩)
    (c_is_gate : PySem.W.codeIn K cd_is_gate "is_gate" = true)
    (k_is_gate : PySem.W.keepIn K (.ref f_a_is_gate) = true)
    (a_is_circuit : PySem.W.nsIn K mainGlobals "is_circuit" = some (some (.ref f_a_is_circuit)))
    (l_is_circuit : K.lookup f_a_is_circuit = some ⟨oc_is_circuit, od_is_circuit, .func (PySem.W.fnOf "is_circuit" "is_circuit" (defArgs s_is_circuit) (defBody s_is_circuit) (defScope s_is_circuit) .none kV_is_circuit dc_is_circuit pm_is_circuit an_is_circuit cd_is_circuit ct_is_circuit), sl_is_circuit⟩)
    (c_is_circuit : PySem.W.codeIn K cd_is_circuit "is_circuit" = true)
    (k_is_circuit : PySem.W.keepIn K (.ref f_a_is_circuit) = true)
    (a_check_gate : PySem.W.nsIn K mainGlobals "check_gate" = some (some (.ref f_a_check_gate)))
    (l_check_gate : K.lookup f_a_check_gate = some ⟨oc_check_gate, od_check_gate, .func (PySem.W.fnOf "check_gate" "check_gate" (defArgs s_check_gate) (defBody s_check_gate) (defScope s_check_gate) .none kV_check_gate dc_check_gate pm_check_gate an_check_gate cd_check_gate ct_check_gate), sl_check_gate⟩)
    (c_check_gate : PySem.W.codeIn K cd_check_gate "check_gate" = true)
    (k_check_gate : PySem.W.keepIn K (.ref f_a_check_gate) = true)
    (a_check_circuit : PySem.W.nsIn K mainGlobals "check_circuit" = some (some (.ref f_a_check_circuit)))
    (l_check_circuit : K.lookup f_a_check_circuit = some ⟨oc_check_circuit, od_check_circuit, .func (PySem.W.fnOf "check_circuit" "check_circuit" (defArgs s_check_circuit) (defBody s_check_circuit) (defScope s_check_circuit) .none kV_check_circuit dc_check_circuit pm_check_circuit an_check_circuit cd_check_circuit ct_check_circuit), sl_check_circuit⟩)
    (c_check_circuit : PySem.W.codeIn K cd_check_circuit "check_circuit" = true)
    (k_check_circuit : PySem.W.keepIn K (.ref f_a_check_circuit) = true)
    (a_weight_of : PySem.W.nsIn K mainGlobals "weight_of" = some (some (.ref f_a_weight_of)))
    (l_weight_of : K.lookup f_a_weight_of = some ⟨oc_weight_of, od_weight_of, .func (PySem.W.fnOf "weight_of" "weight_of" (defArgs s_weight_of) (defBody s_weight_of) (defScope s_weight_of) .none kV_weight_of dc_weight_of pm_weight_of an_weight_of cd_weight_of ct_weight_of), sl_weight_of⟩)
    (c_weight_of : PySem.W.codeIn K cd_weight_of "weight_of" = true)
    (k_weight_of : PySem.W.keepIn K (.ref f_a_weight_of) = true)
    (a_bit : PySem.W.nsIn K mainGlobals "bit" = some (some (.ref f_a_bit)))
    (l_bit : K.lookup f_a_bit = some ⟨oc_bit, od_bit, .func (PySem.W.fnOf "bit" "bit" (defArgs s_bit) (defBody s_bit) (defScope s_bit) .none kV_bit dc_bit pm_bit an_bit cd_bit ct_bit), sl_bit⟩)
    (c_bit : PySem.W.codeIn K cd_bit "bit" = true)
    (k_bit : PySem.W.keepIn K (.ref f_a_bit) = true)
    (a_applied : PySem.W.nsIn K mainGlobals "applied" = some (some (.ref f_a_applied)))
    (l_applied : K.lookup f_a_applied = some ⟨oc_applied, od_applied, .func (PySem.W.fnOf "applied" "applied" (defArgs s_applied) (defBody s_applied) (defScope s_applied) .none kV_applied dc_applied pm_applied an_applied cd_applied ct_applied), sl_applied⟩)
    (c_applied : PySem.W.codeIn K cd_applied "applied" = true)
    (k_applied : PySem.W.keepIn K (.ref f_a_applied) = true)
    (a_first_difference : PySem.W.nsIn K mainGlobals "first_difference" = some (some (.ref f_a_first_difference)))
    (l_first_difference : K.lookup f_a_first_difference = some ⟨oc_first_difference, od_first_difference, .func (PySem.W.fnOf "first_difference" "first_difference" (defArgs s_first_difference) (defBody s_first_difference) (defScope s_first_difference) .none kV_first_difference dc_first_difference pm_first_difference an_first_difference cd_first_difference ct_first_difference), sl_first_difference⟩)
    (c_first_difference : PySem.W.codeIn K cd_first_difference "first_difference" = true)
    (k_first_difference : PySem.W.keepIn K (.ref f_a_first_difference) = true)
    (a_may_change : PySem.W.nsIn K mainGlobals "may_change" = some (some (.ref f_a_may_change)))
    (l_may_change : K.lookup f_a_may_change = some ⟨oc_may_change, od_may_change, .func (PySem.W.fnOf "may_change" "may_change" (defArgs s_may_change) (defBody s_may_change) (defScope s_may_change) .none kV_may_change dc_may_change pm_may_change an_may_change cd_may_change ct_may_change), sl_may_change⟩)
    (c_may_change : PySem.W.codeIn K cd_may_change "may_change" = true)
    (k_may_change : PySem.W.keepIn K (.ref f_a_may_change) = true)
    (a_difference : PySem.W.nsIn K mainGlobals "difference" = some (some (.ref f_a_difference)))
    (l_difference : K.lookup f_a_difference = some ⟨oc_difference, od_difference, .func (PySem.W.fnOf "difference" "difference" (defArgs s_difference) (defBody s_difference) (defScope s_difference) .none kV_difference dc_difference pm_difference an_difference cd_difference ct_difference), sl_difference⟩)
    (c_difference : PySem.W.codeIn K cd_difference "difference" = true)
    (k_difference : PySem.W.keepIn K (.ref f_a_difference) = true)
    (a_pairs_of : PySem.W.nsIn K mainGlobals "pairs_of" = some (some (.ref f_a_pairs_of)))
    (l_pairs_of : K.lookup f_a_pairs_of = some ⟨oc_pairs_of, od_pairs_of, .func (PySem.W.fnOf "pairs_of" "pairs_of" (defArgs s_pairs_of) (defBody s_pairs_of) (defScope s_pairs_of) .none kV_pairs_of dc_pairs_of pm_pairs_of an_pairs_of cd_pairs_of ct_pairs_of), sl_pairs_of⟩)
    (c_pairs_of : PySem.W.codeIn K cd_pairs_of "pairs_of" = true)
    (k_pairs_of : PySem.W.keepIn K (.ref f_a_pairs_of) = true)
    (a_shortened : PySem.W.nsIn K mainGlobals "shortened" = some (some (.ref f_a_shortened)))
    (l_shortened : K.lookup f_a_shortened = some ⟨oc_shortened, od_shortened, .func (PySem.W.fnOf "shortened" "shortened" (defArgs s_shortened) (defBody s_shortened) (defScope s_shortened) .none kV_shortened dc_shortened pm_shortened an_shortened cd_shortened ct_shortened), sl_shortened⟩)
    (c_shortened : PySem.W.codeIn K cd_shortened "shortened" = true)
    (k_shortened : PySem.W.keepIn K (.ref f_a_shortened) = true)
    (a_cancelling : PySem.W.nsIn K mainGlobals "cancelling" = some (some (.ref f_a_cancelling)))
    (l_cancelling : K.lookup f_a_cancelling = some ⟨oc_cancelling, od_cancelling, .func (PySem.W.fnOf "cancelling" "cancelling" (defArgs s_cancelling) (defBody s_cancelling) (defScope s_cancelling) .none kV_cancelling dc_cancelling pm_cancelling an_cancelling cd_cancelling ct_cancelling), sl_cancelling⟩)
    (c_cancelling : PySem.W.codeIn K cd_cancelling "cancelling" = true)
    (k_cancelling : PySem.W.keepIn K (.ref f_a_cancelling) = true)
    (a_law_is : PySem.W.nsIn K mainGlobals "_law_is" = some (some (.ref f_a_law_is)))
    (l_law_is : K.lookup f_a_law_is = some ⟨oc_law_is, od_law_is, .func (PySem.W.fnOf "_law_is" "_law_is" (defArgs s_law_is) (defBody s_law_is) (defScope s_law_is) .none kV_law_is dc_law_is pm_law_is an_law_is cd_law_is ct_law_is), sl_law_is⟩)
    (c_law_is : PySem.W.codeIn K cd_law_is "_law_is" = true)
    (k_law_is : PySem.W.keepIn K (.ref f_a_law_is) = true)
    (a_law_draw : PySem.W.nsIn K mainGlobals "_law_draw" = some (some (.ref f_a_law_draw)))
    (l_law_draw : K.lookup f_a_law_draw = some ⟨oc_law_draw, od_law_draw, .func (PySem.W.fnOf "_law_draw" "_law_draw" (defArgs s_law_draw) (defBody s_law_draw) (defScope s_law_draw) .none kV_law_draw dc_law_draw pm_law_draw an_law_draw cd_law_draw ct_law_draw), sl_law_draw⟩)
    (c_law_draw : PySem.W.codeIn K cd_law_draw "_law_draw" = true)
    (k_law_draw : PySem.W.keepIn K (.ref f_a_law_draw) = true)
    (a_law_begun : PySem.W.nsIn K mainGlobals "_law_begun" = some (some (.ref f_a_law_begun)))
    (l_law_begun : K.lookup f_a_law_begun = some ⟨oc_law_begun, od_law_begun, .func (PySem.W.fnOf "_law_begun" "_law_begun" (defArgs s_law_begun) (defBody s_law_begun) (defScope s_law_begun) .none kV_law_begun dc_law_begun pm_law_begun an_law_begun cd_law_begun ct_law_begun), sl_law_begun⟩)
    (c_law_begun : PySem.W.codeIn K cd_law_begun "_law_begun" = true)
    (k_law_begun : PySem.W.keepIn K (.ref f_a_law_begun) = true)
    (a_law_gates : PySem.W.nsIn K mainGlobals "_law_gates" = some (some (.ref f_a_law_gates)))
    (l_law_gates : K.lookup f_a_law_gates = some ⟨oc_law_gates, od_law_gates, .func (PySem.W.fnOf "_law_gates" "_law_gates" (defArgs s_law_gates) (defBody s_law_gates) (defScope s_law_gates) .none kV_law_gates dc_law_gates pm_law_gates an_law_gates cd_law_gates ct_law_gates), sl_law_gates⟩)
    (c_law_gates : PySem.W.codeIn K cd_law_gates "_law_gates" = true)
    (k_law_gates : PySem.W.keepIn K (.ref f_a_law_gates) = true)
    (a_law_circuit : PySem.W.nsIn K mainGlobals "_law_circuit" = some (some (.ref f_a_law_circuit)))
    (l_law_circuit : K.lookup f_a_law_circuit = some ⟨oc_law_circuit, od_law_circuit, .func (PySem.W.fnOf "_law_circuit" "_law_circuit" (defArgs s_law_circuit) (defBody s_law_circuit) (defScope s_law_circuit) .none kV_law_circuit dc_law_circuit pm_law_circuit an_law_circuit cd_law_circuit ct_law_circuit), sl_law_circuit⟩)
    (c_law_circuit : PySem.W.codeIn K cd_law_circuit "_law_circuit" = true)
    (k_law_circuit : PySem.W.keepIn K (.ref f_a_law_circuit) = true)
    (a_law_apply : PySem.W.nsIn K mainGlobals "_law_apply" = some (some (.ref f_a_law_apply)))
    (l_law_apply : K.lookup f_a_law_apply = some ⟨oc_law_apply, od_law_apply, .func (PySem.W.fnOf "_law_apply" "_law_apply" (defArgs s_law_apply) (defBody s_law_apply) (defScope s_law_apply) .none kV_law_apply dc_law_apply pm_law_apply an_law_apply cd_law_apply ct_law_apply), sl_law_apply⟩)
    (c_law_apply : PySem.W.codeIn K cd_law_apply "_law_apply" = true)
    (k_law_apply : PySem.W.keepIn K (.ref f_a_law_apply) = true)
    (a_law_differ : PySem.W.nsIn K mainGlobals "_law_differ" = some (some (.ref f_a_law_differ)))
    (l_law_differ : K.lookup f_a_law_differ = some ⟨oc_law_differ, od_law_differ, .func (PySem.W.fnOf "_law_differ" "_law_differ" (defArgs s_law_differ) (defBody s_law_differ) (defScope s_law_differ) .none kV_law_differ dc_law_differ pm_law_differ an_law_differ cd_law_differ ct_law_differ), sl_law_differ⟩)
    (c_law_differ : PySem.W.codeIn K cd_law_differ "_law_differ" = true)
    (k_law_differ : PySem.W.keepIn K (.ref f_a_law_differ) = true)
    (a_law_pairs : PySem.W.nsIn K mainGlobals "_law_pairs" = some (some (.ref f_a_law_pairs)))
    (l_law_pairs : K.lookup f_a_law_pairs = some ⟨oc_law_pairs, od_law_pairs, .func (PySem.W.fnOf "_law_pairs" "_law_pairs" (defArgs s_law_pairs) (defBody s_law_pairs) (defScope s_law_pairs) .none kV_law_pairs dc_law_pairs pm_law_pairs an_law_pairs cd_law_pairs ct_law_pairs), sl_law_pairs⟩)
    (c_law_pairs : PySem.W.codeIn K cd_law_pairs "_law_pairs" = true)
    (k_law_pairs : PySem.W.keepIn K (.ref f_a_law_pairs) = true)
    (a_law_short : PySem.W.nsIn K mainGlobals "_law_short" = some (some (.ref f_a_law_short)))
    (l_law_short : K.lookup f_a_law_short = some ⟨oc_law_short, od_law_short, .func (PySem.W.fnOf "_law_short" "_law_short" (defArgs s_law_short) (defBody s_law_short) (defScope s_law_short) .none kV_law_short dc_law_short pm_law_short an_law_short cd_law_short ct_law_short), sl_law_short⟩)
    (c_law_short : PySem.W.codeIn K cd_law_short "_law_short" = true)
    (k_law_short : PySem.W.keepIn K (.ref f_a_law_short) = true)
    (a_law : PySem.W.nsIn K mainGlobals "law" = some (some (.ref f_a_law)))
    (l_law : K.lookup f_a_law = some ⟨oc_law, od_law, .func (PySem.W.fnOf "law" "law" (defArgs s_law) (defBody s_law) (defScope s_law) .none kV_law dc_law pm_law an_law (.ref ca_law) ct_law), sl_law⟩)
    (c_law : PySem.W.codeIn K (.ref ca_law) "law" = true)
    (k_law : PySem.W.keepIn K (.ref f_a_law) = true)
    (g_law : K.lookup ca_law = some ⟨oo_law, ox_law, .fields vs_law, so_law⟩)
    (v_law : vs_law[11]? = some (.ref P_law))
    (n_law : K.lookup P_law = none)
    (tb_law : PySem.W.tabIn K "law" = some (ca_law, P_law) → PySem.W.CodeHd h ca_law P_law ∧ h.get? P_law = some (PySem.W.tabObj #[]))
    (a_law_result : PySem.W.nsIn K mainGlobals "_law_result" = some (some (.ref f_a_law_result)))
    (l_law_result : K.lookup f_a_law_result = some ⟨oc_law_result, od_law_result, .func (PySem.W.fnOf "_law_result" "_law_result" (defArgs s_law_result) (defBody s_law_result) (defScope s_law_result) .none kV_law_result dc_law_result pm_law_result an_law_result cd_law_result ct_law_result), sl_law_result⟩)
    (c_law_result : PySem.W.codeIn K cd_law_result "_law_result" = true)
    (k_law_result : PySem.W.keepIn K (.ref f_a_law_result) = true)
    (z_len : PySem.W.nsIn K mainGlobals "len" = some none)
    (z_all : PySem.W.nsIn K mainGlobals "all" = some none)
    (z_any : PySem.W.nsIn K mainGlobals "any" = some none)
    (z_sum : PySem.W.nsIn K mainGlobals "sum" = some none)
    (z_sorted : PySem.W.nsIn K mainGlobals "sorted" = some none)
    (z_min : PySem.W.nsIn K mainGlobals "min" = some none)
    (z_max : PySem.W.nsIn K mainGlobals "max" = some none)
    (z_isinstance : PySem.W.nsIn K mainGlobals "isinstance" = some none)
    (z_tuple : PySem.W.nsIn K mainGlobals "tuple" = some none)
    (z_list : PySem.W.nsIn K mainGlobals "list" = some none)
    (z_int : PySem.W.nsIn K mainGlobals "int" = some none)
    (z_bool : PySem.W.nsIn K mainGlobals "bool" = some none)
    (z_str : PySem.W.nsIn K mainGlobals "str" = some none)
    (z_range : PySem.W.nsIn K mainGlobals "range" = some none)
    (z_set : PySem.W.nsIn K mainGlobals "set" = some none)
    (z_enumerate : PySem.W.nsIn K mainGlobals "enumerate" = some none)
    (z_zip : PySem.W.nsIn K mainGlobals "zip" = some none)
    (z_dict : PySem.W.nsIn K mainGlobals "dict" = some none)
    (z_abs : PySem.W.nsIn K mainGlobals "abs" = some none)
    (a_cKINDS_ : PySem.W.nsIn K mainGlobals "KINDS" = some (some (.ref a_cKINDS)))
    (l_cKINDS : K.lookup a_cKINDS = some ⟨.type "tuple", od_cKINDS, .seq #[.str "both" t0_KINDS, .str "if" t1_KINDS, .str "not" t2_KINDS, .str "pick" t3_KINDS, .str "swap" t4_KINDS] n_cKINDS, sl_cKINDS⟩)
    (a_cLONGEST_ : PySem.W.nsIn K mainGlobals "LONGEST" = some (some (.int 20 t_cLONGEST)))
    (a_cSAME_ : PySem.W.nsIn K mainGlobals "SAME" = some (some (.ref a_cSAME)))
    (l_cSAME : K.lookup a_cSAME = some ⟨.type "tuple", od_cSAME, .seq #[.int 0 t0_SAME, .int 1 t1_SAME, .int 2 t2_SAME, .int 3 t3_SAME, .int 4 t4_SAME, .int 5 t5_SAME, .int 6 t6_SAME, .int 7 t7_SAME] n_cSAME, sl_cSAME⟩)
    (a_GE_ : PySem.W.nsIn K mainGlobals "GateError" = some (some (.ref a_GE)))
    (z_ValueError : PySem.W.nsIn K mainGlobals "ValueError" = some none)
    (a_eInvalidWord_ : PySem.W.nsIn K mainGlobals "InvalidWord" = some (some (.ref a_eInvalidWord)))
    (a_eInvalidExchange_ : PySem.W.nsIn K mainGlobals "InvalidExchange" = some (some (.ref a_eInvalidExchange)))
    (a_eInvalidLines_ : PySem.W.nsIn K mainGlobals "InvalidLines" = some (some (.ref a_eInvalidLines)))
    (a_eInvalidKinds_ : PySem.W.nsIn K mainGlobals "InvalidKinds" = some (some (.ref a_eInvalidKinds)))
    (a_eInvalidFunction_ : PySem.W.nsIn K mainGlobals "InvalidFunction" = some (some (.ref a_eInvalidFunction)))
    (a_eInvalidAnswers_ : PySem.W.nsIn K mainGlobals "InvalidAnswers" = some (some (.ref a_eInvalidAnswers)))
    (a_eInvalidText_ : PySem.W.nsIn K mainGlobals "InvalidText" = some (some (.ref a_eInvalidText)))
    (a_eTooMany_ : PySem.W.nsIn K mainGlobals "TooMany" = some (some (.ref a_eTooMany)))
    (a_eEmpty_ : PySem.W.nsIn K mainGlobals "Empty" = some (some (.ref a_eEmpty)))
    (a_eNothingToUndo_ : PySem.W.nsIn K mainGlobals "NothingToUndo" = some (some (.ref a_eNothingToUndo)))
    (a_eInvalidGate_ : PySem.W.nsIn K mainGlobals "InvalidGate" = some (some (.ref a_eInvalidGate)))
    (x_eInvalidGate : PySem.W.excIn K a_eInvalidGate [.type "ValueError", .type "Exception", .type "BaseException", .type "object"] "ValueError.__new__" = true)
    (k_eInvalidGate : PySem.W.keepIn K (.ref a_eInvalidGate) = true)
    (b_eInvalidGate : PySem.W.subIn K (.ref a_eInvalidGate) (.type "BaseException") = true)
    (t_eInvalidGate : PySem.W.typeIn K (.ref a_eInvalidGate) = some (.type "type"))
    (a_eInvalidCircuit_ : PySem.W.nsIn K mainGlobals "InvalidCircuit" = some (some (.ref a_eInvalidCircuit)))
    (x_eInvalidCircuit : PySem.W.excIn K a_eInvalidCircuit [.type "ValueError", .type "Exception", .type "BaseException", .type "object"] "ValueError.__new__" = true)
    (k_eInvalidCircuit : PySem.W.keepIn K (.ref a_eInvalidCircuit) = true)
    (b_eInvalidCircuit : PySem.W.subIn K (.ref a_eInvalidCircuit) (.type "BaseException") = true)
    (t_eInvalidCircuit : PySem.W.typeIn K (.ref a_eInvalidCircuit) = some (.type "type"))
    (exok : excOk K a_GE (fun c => match c with | 0 => a_eInvalidGate | 1 => a_eInvalidCircuit | 2 => a_eInvalidWord | 3 => a_eInvalidExchange | 4 => a_eInvalidLines | 5 => a_eInvalidKinds | 6 => a_eInvalidFunction | 7 => a_eInvalidAnswers | 8 => a_eInvalidText | 9 => a_eTooMany | 10 => a_eEmpty | 11 => a_eNothingToUndo | _ => 0) = true) :
    LamX.LawAtS l w K (L2.CX l.prog w) 9 63 "script" mg fa h := by
  have e := hfa.symm.trans (PySem.W.mg_of X G a_law)
  cases e
  have M : Mg K mg ⟨[(P_law, "law" ++ ".<locals>." ++ "<lambda>")], (fun c => match c with | 0 => a_eInvalidGate | 1 => a_eInvalidCircuit | 2 => a_eInvalidWord | 3 => a_eInvalidExchange | 4 => a_eInvalidLines | 5 => a_eInvalidKinds | 6 => a_eInvalidFunction | 7 => a_eInvalidAnswers | 8 => a_eInvalidText | 9 => a_eTooMany | 10 => a_eEmpty | 11 => a_eNothingToUndo | _ => 0)⟩ := ⟨⟨PySem.W.mg_none_of X G z_len, PySem.W.mg_none_of X G z_all, PySem.W.mg_none_of X G z_any, PySem.W.mg_none_of X G z_sum, PySem.W.mg_none_of X G z_sorted, PySem.W.mg_none_of X G z_min, PySem.W.mg_none_of X G z_max, PySem.W.mg_none_of X G z_isinstance, PySem.W.mg_none_of X G z_tuple, PySem.W.mg_none_of X G z_list, PySem.W.mg_none_of X G z_int, PySem.W.mg_none_of X G z_bool, PySem.W.mg_none_of X G z_str, PySem.W.mg_none_of X G z_range, PySem.W.mg_none_of X G z_set, PySem.W.mg_none_of X G z_enumerate, PySem.W.mg_none_of X G z_zip, PySem.W.mg_none_of X G z_dict, PySem.W.mg_none_of X G z_abs⟩, ⟨_, PySem.W.mg_of X G a_cKINDS_, fun g => .tup (xs := [.str "both", .str "if", .str "not", .str "pick", .str "swap"]) (.inr ⟨_, _, _, l_cKINDS, rfl, rfl, Nat.le_of_ble_eq_true rfl, (.cons ⟨_, rfl⟩ (.cons ⟨_, rfl⟩ (.cons ⟨_, rfl⟩ (.cons ⟨_, rfl⟩ (.cons ⟨_, rfl⟩ .nil)))))⟩) (.cons (.str _) (.cons (.str _) (.cons (.str _) (.cons (.str _) (.cons (.str _) .nil)))))⟩, ⟨_, PySem.W.mg_of X G a_cLONGEST_⟩, ⟨_, PySem.W.mg_of X G a_cSAME_, fun g => .tup (xs := [.int 0, .int 1, .int 2, .int 3, .int 4, .int 5, .int 6, .int 7]) (.inr ⟨_, _, _, l_cSAME, rfl, rfl, Nat.le_of_ble_eq_true rfl, (.cons ⟨_, rfl⟩ (.cons ⟨_, rfl⟩ (.cons ⟨_, rfl⟩ (.cons ⟨_, rfl⟩ (.cons ⟨_, rfl⟩ (.cons ⟨_, rfl⟩ (.cons ⟨_, rfl⟩ (.cons ⟨_, rfl⟩ .nil))))))))⟩) (.cons (.int _) (.cons (.int _) (.cons (.int _) (.cons (.int _) (.cons (.int _) (.cons (.int _) (.cons (.int _) (.cons (.int _) .nil))))))))⟩, ⟨PySem.W.mg_of X G a_eInvalidGate_, x_eInvalidGate, k_eInvalidGate, b_eInvalidGate, t_eInvalidGate⟩, ⟨PySem.W.mg_of X G a_eInvalidCircuit_, x_eInvalidCircuit, k_eInvalidCircuit, b_eInvalidCircuit, t_eInvalidCircuit⟩⟩
  have R : ResF K mg ⟨[(P_law, "law" ++ ".<locals>." ++ "<lambda>")], (fun c => match c with | 0 => a_eInvalidGate | 1 => a_eInvalidCircuit | 2 => a_eInvalidWord | 3 => a_eInvalidExchange | 4 => a_eInvalidLines | 5 => a_eInvalidKinds | 6 => a_eInvalidFunction | 7 => a_eInvalidAnswers | 8 => a_eInvalidText | 9 => a_eTooMany | 10 => a_eEmpty | 11 => a_eNothingToUndo | _ => 0)⟩ := ⟨⟨_, _, _, _, _, _, _, _, _, _, _, PySem.W.mg_of X G a_law_result, k_law_result, l_law_result, c_law_result, PySem.W.mg_of X G a_GE_, exok⟩, PySem.W.mg_of X G a_eInvalidGate_, PySem.W.mg_of X G a_eInvalidCircuit_, PySem.W.mg_of X G a_eInvalidWord_, PySem.W.mg_of X G a_eInvalidExchange_, PySem.W.mg_of X G a_eInvalidLines_, PySem.W.mg_of X G a_eInvalidKinds_, PySem.W.mg_of X G a_eInvalidFunction_, PySem.W.mg_of X G a_eInvalidAnswers_, PySem.W.mg_of X G a_eInvalidText_, PySem.W.mg_of X G a_eTooMany_, PySem.W.mg_of X G a_eEmpty_, PySem.W.mg_of X G a_eNothingToUndo_, PySem.W.mg_none_of X G z_ValueError⟩
  have tb_law := tb_law (tabIn_of a_law l_law rfl g_law v_law)
  refine ⟨PySem.W.fnOf "law" "law" (defArgs s_law) (defBody s_law) (defScope s_law) .none kV_law dc_law pm_law an_law (.ref ca_law) ct_law, [(ca_law, P_law)], spLawT K [(P_law, "law" ++ ".<locals>." ++ "<lambda>")], (List.forall_mem_cons.mpr ⟨tb_law.2, (fun _ z => nomatch z)⟩), (List.forall_mem_cons.mpr ⟨n_law, (fun _ z => nomatch z)⟩), (List.forall_mem_cons.mpr ⟨tb_law.1, (fun _ z => nomatch z)⟩), fun s v => .of_eq rfl, fun H a ns hl _ hT hS => ⟨a, ns, rfl, hS, hl, ?_, fun _ => rfl⟩, fun base _ _ TB => ?_⟩
  · exact (List.forall_mem_cons.mpr ⟨LamX.TabS.nil (hT _ (.head _)), (fun _ z => nomatch z)⟩)
  have Lm_law : LamD base mg ⟨[(P_law, "law" ++ ".<locals>." ++ "<lambda>")], (fun c => match c with | 0 => a_eInvalidGate | 1 => a_eInvalidCircuit | 2 => a_eInvalidWord | 3 => a_eInvalidExchange | 4 => a_eInvalidLines | 5 => a_eInvalidKinds | 6 => a_eInvalidFunction | 7 => a_eInvalidAnswers | 8 => a_eInvalidText | 9 => a_eTooMany | 10 => a_eEmpty | 11 => a_eNothingToUndo | _ => 0)⟩ "law" ca_law := ⟨P_law, TB _ (.head _), (.head _), fun p hp e => by
    simp only [List.mem_cons, List.not_mem_nil, or_false] at hp
    rcases hp with rfl <;> first | rfl | exact absurd e (by assumption) | exact absurd e.symm (by assumption)⟩
  have F_is_between := fun_mk (st := s_is_between) l_is_between c_is_between k_is_between
  have o_is_between := ok_is_between (P := l.prog) (w := w) (base := base) M F_is_between 
  have fd_is_between := Fd.of o_is_between (PySem.W.mg_of X G a_is_between) F_is_between.kp (F_is_between.binds (ps := ["value", "low", "high"]) fun _ _ _ _ _ _ us hl => match us, hl with | [_, _, _], _ => rfl)
  have F_is_gate := fun_mk (st := s_is_gate) l_is_gate c_is_gate k_is_gate
  have o_is_gate := ok_is_gate (P := l.prog) (w := w) (base := base) M F_is_gate fd_is_between
  have fd_is_gate := Fd.of o_is_gate (PySem.W.mg_of X G a_is_gate) F_is_gate.kp (F_is_gate.binds (ps := ["value"]) fun _ _ _ _ _ _ us hl => match us, hl with | [_], _ => rfl)
  have F_is_circuit := fun_mk (st := s_is_circuit) l_is_circuit c_is_circuit k_is_circuit
  have o_is_circuit := ok_is_circuit (P := l.prog) (w := w) (base := base) M F_is_circuit fd_is_gate
  have fd_is_circuit := Fd.of o_is_circuit (PySem.W.mg_of X G a_is_circuit) F_is_circuit.kp (F_is_circuit.binds (ps := ["value"]) fun _ _ _ _ _ _ us hl => match us, hl with | [_], _ => rfl)
  have F_check_gate := fun_mk (st := s_check_gate) l_check_gate c_check_gate k_check_gate
  have o_check_gate := ok_check_gate (P := l.prog) (w := w) (base := base) M F_check_gate fd_is_gate
  have fd_check_gate := Fd.of o_check_gate (PySem.W.mg_of X G a_check_gate) F_check_gate.kp (F_check_gate.binds (ps := ["gate"]) fun _ _ _ _ _ _ us hl => match us, hl with | [_], _ => rfl)
  have F_check_circuit := fun_mk (st := s_check_circuit) l_check_circuit c_check_circuit k_check_circuit
  have o_check_circuit := ok_check_circuit (P := l.prog) (w := w) (base := base) M F_check_circuit fd_is_circuit
  have fd_check_circuit := Fd.of o_check_circuit (PySem.W.mg_of X G a_check_circuit) F_check_circuit.kp (F_check_circuit.binds (ps := ["circuit"]) fun _ _ _ _ _ _ us hl => match us, hl with | [_], _ => rfl)
  have F_weight_of := fun_mk (st := s_weight_of) l_weight_of c_weight_of k_weight_of
  have o_weight_of := ok_weight_of (P := l.prog) (w := w) (base := base) M F_weight_of 
  have fd_weight_of := Fd.of o_weight_of (PySem.W.mg_of X G a_weight_of) F_weight_of.kp (F_weight_of.binds (ps := ["line"]) fun _ _ _ _ _ _ us hl => match us, hl with | [_], _ => rfl)
  have F_bit := fun_mk (st := s_bit) l_bit c_bit k_bit
  have o_bit := ok_bit (P := l.prog) (w := w) (base := base) M F_bit fd_weight_of
  have fd_bit := Fd.of o_bit (PySem.W.mg_of X G a_bit) F_bit.kp (F_bit.binds (ps := ["word", "line"]) fun _ _ _ _ _ _ us hl => match us, hl with | [_, _], _ => rfl)
  have F_applied := fun_mk (st := s_applied) l_applied c_applied k_applied
  have o_applied := ok_applied (P := l.prog) (w := w) (base := base) M F_applied fd_bit fd_weight_of
  have fd_applied := Fd.of o_applied (PySem.W.mg_of X G a_applied) F_applied.kp (F_applied.binds (ps := ["gate", "word"]) fun _ _ _ _ _ _ us hl => match us, hl with | [_, _], _ => rfl)
  have F_first_difference := fun_mk (st := s_first_difference) l_first_difference c_first_difference k_first_difference
  have o_first_difference := ok_first_difference (P := l.prog) (w := w) (base := base) M F_first_difference fd_applied
  have fd_first_difference := Fd.of o_first_difference (PySem.W.mg_of X G a_first_difference) F_first_difference.kp (F_first_difference.binds (ps := ["one", "other"]) fun _ _ _ _ _ _ us hl => match us, hl with | [_, _], _ => rfl)
  have F_may_change := fun_mk (st := s_may_change) l_may_change c_may_change k_may_change
  have o_may_change := ok_may_change (P := l.prog) (w := w) (base := base) M F_may_change fd_check_gate fd_first_difference
  have fk0_may_change := FdK.of (n := 0) (ks := ["one", "other"]) o_may_change (PySem.W.mg_of X G a_may_change) F_may_change.kp rfl (F_may_change.kb fun _ _ _ _ _ _ us ws h1 h2 => match us, ws, h1, h2 with | [], [_, _], _, _ => rfl)
  have fd_may_change := Fd.of o_may_change (PySem.W.mg_of X G a_may_change) F_may_change.kp (F_may_change.binds (ps := ["one", "other"]) fun _ _ _ _ _ _ us hl => match us, hl with | [_, _], _ => rfl)
  have F_difference := fun_mk (st := s_difference) l_difference c_difference k_difference
  have o_difference := ok_difference (P := l.prog) (w := w) (base := base) M F_difference fd_check_gate fd_first_difference
  have fk0_difference := FdK.of (n := 0) (ks := ["one", "other"]) o_difference (PySem.W.mg_of X G a_difference) F_difference.kp rfl (F_difference.kb fun _ _ _ _ _ _ us ws h1 h2 => match us, ws, h1, h2 with | [], [_, _], _, _ => rfl)
  have fd_difference := Fd.of o_difference (PySem.W.mg_of X G a_difference) F_difference.kp (F_difference.binds (ps := ["one", "other"]) fun _ _ _ _ _ _ us hl => match us, hl with | [_, _], _ => rfl)
  have F_pairs_of := fun_mk (st := s_pairs_of) l_pairs_of c_pairs_of k_pairs_of
  have o_pairs_of := ok_pairs_of (P := l.prog) (w := w) (base := base) M F_pairs_of fd_first_difference
  have fd_pairs_of := Fd.of o_pairs_of (PySem.W.mg_of X G a_pairs_of) F_pairs_of.kp (F_pairs_of.binds (ps := ["circuit"]) fun _ _ _ _ _ _ us hl => match us, hl with | [_], _ => rfl)
  have F_shortened := fun_mk (st := s_shortened) l_shortened c_shortened k_shortened
  have o_shortened := ok_shortened (P := l.prog) (w := w) (base := base) M F_shortened fd_check_circuit fd_pairs_of
  have fk0_shortened := FdK.of (n := 0) (ks := ["circuit"]) o_shortened (PySem.W.mg_of X G a_shortened) F_shortened.kp rfl (F_shortened.kb fun _ _ _ _ _ _ us ws h1 h2 => match us, ws, h1, h2 with | [], [_], _, _ => rfl)
  have fd_shortened := Fd.of o_shortened (PySem.W.mg_of X G a_shortened) F_shortened.kp (F_shortened.binds (ps := ["circuit"]) fun _ _ _ _ _ _ us hl => match us, hl with | [_], _ => rfl)
  have F_cancelling := fun_mk (st := s_cancelling) l_cancelling c_cancelling k_cancelling
  have o_cancelling := ok_cancelling (P := l.prog) (w := w) (base := base) M F_cancelling fd_check_circuit fd_pairs_of
  have fk0_cancelling := FdK.of (n := 0) (ks := ["circuit"]) o_cancelling (PySem.W.mg_of X G a_cancelling) F_cancelling.kp rfl (F_cancelling.kb fun _ _ _ _ _ _ us ws h1 h2 => match us, ws, h1, h2 with | [], [_], _, _ => rfl)
  have fd_cancelling := Fd.of o_cancelling (PySem.W.mg_of X G a_cancelling) F_cancelling.kp (F_cancelling.binds (ps := ["circuit"]) fun _ _ _ _ _ _ us hl => match us, hl with | [_], _ => rfl)
  have F_law_is := fun_mk (st := s_law_is) l_law_is c_law_is k_law_is
  have o_law_is := ok_law_is (P := l.prog) (w := w) (base := base) M F_law_is 
  have fd_law_is := Fd.of o_law_is (PySem.W.mg_of X G a_law_is) F_law_is.kp (F_law_is.binds (ps := ["found", "expected"]) fun _ _ _ _ _ _ us hl => match us, hl with | [_, _], _ => rfl)
  have F_law_draw := fun_mk (st := s_law_draw) l_law_draw c_law_draw k_law_draw
  have o_law_draw := ok_law_draw (P := l.prog) (w := w) (base := base) M F_law_draw 
  have fd_law_draw := Fd.of o_law_draw (PySem.W.mg_of X G a_law_draw) F_law_draw.kp (F_law_draw.binds (ps := ["script", "town", "many"]) fun _ _ _ _ _ _ us hl => match us, hl with | [_, _, _], _ => rfl)
  have F_law_begun := fun_mk (st := s_law_begun) l_law_begun c_law_begun k_law_begun
  have o_law_begun := ok_law_begun (P := l.prog) (w := w) (base := base) M F_law_begun 
  have fd_law_begun := Fd.of o_law_begun (PySem.W.mg_of X G a_law_begun) F_law_begun.kp (F_law_begun.binds (ps := []) fun _ _ _ _ _ _ us hl => match us, hl with | [], _ => rfl)
  have F_law_gates := fun_mk (st := s_law_gates) l_law_gates c_law_gates k_law_gates
  have o_law_gates := ok_law_gates (P := l.prog) (w := w) (base := base) M F_law_gates 
  have fd_law_gates := Fd.of o_law_gates (PySem.W.mg_of X G a_law_gates) F_law_gates.kp (F_law_gates.binds (ps := []) fun _ _ _ _ _ _ us hl => match us, hl with | [], _ => rfl)
  have F_law_circuit := fun_mk (st := s_law_circuit) l_law_circuit c_law_circuit k_law_circuit
  have o_law_circuit := ok_law_circuit (P := l.prog) (w := w) (base := base) M F_law_circuit fd_law_gates fd_law_draw
  have fd_law_circuit := Fd.of o_law_circuit (PySem.W.mg_of X G a_law_circuit) F_law_circuit.kp (F_law_circuit.binds (ps := ["script", "town", "kinds", "most"]) fun _ _ _ _ _ _ us hl => match us, hl with | [_, _, _, _], _ => rfl)
  have F_law_apply := fun_mk (st := s_law_apply) l_law_apply c_law_apply k_law_apply
  have o_law_apply := ok_law_apply (P := l.prog) (w := w) (base := base) M F_law_apply 
  have fd_law_apply := Fd.of o_law_apply (PySem.W.mg_of X G a_law_apply) F_law_apply.kp (F_law_apply.binds (ps := ["gate", "word"]) fun _ _ _ _ _ _ us hl => match us, hl with | [_, _], _ => rfl)
  have F_law_differ := fun_mk (st := s_law_differ) l_law_differ c_law_differ k_law_differ
  have o_law_differ := ok_law_differ (P := l.prog) (w := w) (base := base) M F_law_differ fd_law_apply
  have fd_law_differ := Fd.of o_law_differ (PySem.W.mg_of X G a_law_differ) F_law_differ.kp (F_law_differ.binds (ps := ["one_here", "other_here"]) fun _ _ _ _ _ _ us hl => match us, hl with | [_, _], _ => rfl)
  have F_law_pairs := fun_mk (st := s_law_pairs) l_law_pairs c_law_pairs k_law_pairs
  have o_law_pairs := ok_law_pairs (P := l.prog) (w := w) (base := base) M F_law_pairs fd_law_differ
  have fd_law_pairs := Fd.of o_law_pairs (PySem.W.mg_of X G a_law_pairs) F_law_pairs.kp (F_law_pairs.binds (ps := ["circuit_here"]) fun _ _ _ _ _ _ us hl => match us, hl with | [_], _ => rfl)
  have F_law_short := fun_mk (st := s_law_short) l_law_short c_law_short k_law_short
  have o_law_short := ok_law_short (P := l.prog) (w := w) (base := base) M F_law_short fd_law_pairs
  have fd_law_short := Fd.of o_law_short (PySem.W.mg_of X G a_law_short) F_law_short.kp (F_law_short.binds (ps := ["circuit_here"]) fun _ _ _ _ _ _ us hl => match us, hl with | [_], _ => rfl)
  have F_law := fun_mk (st := s_law) l_law c_law k_law
  have o_law := ok_law (P := l.prog) (w := w) (base := base) M l_law c_law R Lm_law fd_law_begun fd_law_gates fd_law_draw fd_law_differ fk0_difference fk0_may_change fd_law_is fd_law_circuit fk0_cancelling fd_law_pairs fk0_shortened fd_law_short fd_cancelling fd_shortened fd_may_change fd_difference
  exact o_law.imp (law_impT (C := ⟨[(P_law, "law" ++ ".<locals>." ++ "<lambda>")], (fun c => match c with | 0 => a_eInvalidGate | 1 => a_eInvalidCircuit | 2 => a_eInvalidWord | 3 => a_eInvalidExchange | 4 => a_eInvalidLines | 5 => a_eInvalidKinds | 6 => a_eInvalidFunction | 7 => a_eInvalidAnswers | 8 => a_eInvalidText | 9 => a_eTooMany | 10 => a_eEmpty | 11 => a_eNothingToUndo | _ => 0)⟩) law_true)
end K14
open PySem PySem.W PyProof.Rows
set_option maxHeartbeats 0 in
theorem PySem.Challenge.cw_backgates_k14_places_holds : PySem.Challenge.rw_backgates_k14_places.Holds := by
  w_on; o_law; k_head; (case hw => w_witness2)
  k_fill
  refine BG.walk_ofTab (l := PySem.Challenge.rw_backgates_k14_places) (n := 63) (k := 9) (x := "script") (CX := fun w => L2.CX PySem.Challenge.rw_backgates_k14_places.prog w) rfl (by decide) rfl ⟨rfl, by decide, by decide⟩ (fun w h Y => by first | exact PySem.W.kIn_of Y | exact PySem.W.km_in_of Y) ?F (fun _ _ _ _ _ h => BG.cx_no h)
  case F =>
    intro w mg fa h Y KX G hmg hTab
    refine' K14.all_mk KX G hmg ?a_is_between ?l_is_between ?c_is_between ?k_is_between ?a_is_gate ?l_is_gate ?c_is_gate ?k_is_gate ?a_is_circuit ?l_is_circuit ?c_is_circuit ?k_is_circuit ?a_check_gate ?l_check_gate ?c_check_gate ?k_check_gate ?a_check_circuit ?l_check_circuit ?c_check_circuit ?k_check_circuit ?a_weight_of ?l_weight_of ?c_weight_of ?k_weight_of ?a_bit ?l_bit ?c_bit ?k_bit ?a_applied ?l_applied ?c_applied ?k_applied ?a_first_difference ?l_first_difference ?c_first_difference ?k_first_difference ?a_may_change ?l_may_change ?c_may_change ?k_may_change ?a_difference ?l_difference ?c_difference ?k_difference ?a_pairs_of ?l_pairs_of ?c_pairs_of ?k_pairs_of ?a_shortened ?l_shortened ?c_shortened ?k_shortened ?a_cancelling ?l_cancelling ?c_cancelling ?k_cancelling ?a_law_is ?l_law_is ?c_law_is ?k_law_is ?a_law_draw ?l_law_draw ?c_law_draw ?k_law_draw ?a_law_begun ?l_law_begun ?c_law_begun ?k_law_begun ?a_law_gates ?l_law_gates ?c_law_gates ?k_law_gates ?a_law_circuit ?l_law_circuit ?c_law_circuit ?k_law_circuit ?a_law_apply ?l_law_apply ?c_law_apply ?k_law_apply ?a_law_differ ?l_law_differ ?c_law_differ ?k_law_differ ?a_law_pairs ?l_law_pairs ?c_law_pairs ?k_law_pairs ?a_law_short ?l_law_short ?c_law_short ?k_law_short ?a_law ?l_law ?c_law ?k_law ?g_law ?v_law ?n_law ?tb_law ?a_law_result ?l_law_result ?c_law_result ?k_law_result ?z_len ?z_all ?z_any ?z_sum ?z_sorted ?z_min ?z_max ?z_isinstance ?z_tuple ?z_list ?z_int ?z_bool ?z_str ?z_range ?z_set ?z_enumerate ?z_zip ?z_dict ?z_abs ?a_cKINDS_ ?l_cKINDS ?a_cLONGEST_ ?a_cSAME_ ?l_cSAME ?a_GE_ ?z_ValueError ?a_eInvalidWord_ ?a_eInvalidExchange_ ?a_eInvalidLines_ ?a_eInvalidKinds_ ?a_eInvalidFunction_ ?a_eInvalidAnswers_ ?a_eInvalidText_ ?a_eTooMany_ ?a_eEmpty_ ?a_eNothingToUndo_ ?a_eInvalidGate_ ?x_eInvalidGate ?k_eInvalidGate ?b_eInvalidGate ?t_eInvalidGate ?a_eInvalidCircuit_ ?x_eInvalidCircuit ?k_eInvalidCircuit ?b_eInvalidCircuit ?t_eInvalidCircuit ?exok
    (case a_is_between => k_is); (case l_is_between => k_is); (case c_is_between => k_is); (case k_is_between => k_is); (case a_is_gate => k_is); (case l_is_gate => k_is); (case c_is_gate => k_is); (case k_is_gate => k_is); (case a_is_circuit => k_is); (case l_is_circuit => k_is); (case c_is_circuit => k_is); (case k_is_circuit => k_is); (case a_check_gate => k_is); (case l_check_gate => k_is); (case c_check_gate => k_is); (case k_check_gate => k_is); (case a_check_circuit => k_is); (case l_check_circuit => k_is); (case c_check_circuit => k_is); (case k_check_circuit => k_is); (case a_weight_of => k_is); (case l_weight_of => k_is); (case c_weight_of => k_is); (case k_weight_of => k_is); (case a_bit => k_is); (case l_bit => k_is); (case c_bit => k_is); (case k_bit => k_is); (case a_applied => k_is); (case l_applied => k_is); (case c_applied => k_is); (case k_applied => k_is); (case a_first_difference => k_is); (case l_first_difference => k_is); (case c_first_difference => k_is); (case k_first_difference => k_is); (case a_may_change => k_is); (case l_may_change => k_is); (case c_may_change => k_is); (case k_may_change => k_is); (case a_difference => k_is); (case l_difference => k_is); (case c_difference => k_is); (case k_difference => k_is); (case a_pairs_of => k_is); (case l_pairs_of => k_is); (case c_pairs_of => k_is); (case k_pairs_of => k_is); (case a_shortened => k_is); (case l_shortened => k_is); (case c_shortened => k_is); (case k_shortened => k_is); (case a_cancelling => k_is); (case l_cancelling => k_is); (case c_cancelling => k_is); (case k_cancelling => k_is); (case a_law_is => k_is); (case l_law_is => k_is); (case c_law_is => k_is); (case k_law_is => k_is); (case a_law_draw => k_is); (case l_law_draw => k_is); (case c_law_draw => k_is); (case k_law_draw => k_is); (case a_law_begun => k_is); (case l_law_begun => k_is); (case c_law_begun => k_is); (case k_law_begun => k_is); (case a_law_gates => k_is); (case l_law_gates => k_is); (case c_law_gates => k_is); (case k_law_gates => k_is); (case a_law_circuit => k_is); (case l_law_circuit => k_is); (case c_law_circuit => k_is); (case k_law_circuit => k_is); (case a_law_apply => k_is); (case l_law_apply => k_is); (case c_law_apply => k_is); (case k_law_apply => k_is); (case a_law_differ => k_is); (case l_law_differ => k_is); (case c_law_differ => k_is); (case k_law_differ => k_is); (case a_law_pairs => k_is); (case l_law_pairs => k_is); (case c_law_pairs => k_is); (case k_law_pairs => k_is); (case a_law_short => k_is); (case l_law_short => k_is); (case c_law_short => k_is); (case k_law_short => k_is); (case a_law => k_is); (case l_law => k_is); (case c_law => k_is); (case k_law => k_is); (case g_law => k_is); (case v_law => rfl); (case n_law => kernel_rfl); (case tb_law => exact hTab _ _ _ (by decide +kernel)); (case a_law_result => k_is); (case l_law_result => k_is); (case c_law_result => k_is); (case k_law_result => k_is); (case z_len => k_is); (case z_all => k_is); (case z_any => k_is); (case z_sum => k_is); (case z_sorted => k_is); (case z_min => k_is); (case z_max => k_is); (case z_isinstance => k_is); (case z_tuple => k_is); (case z_list => k_is); (case z_int => k_is); (case z_bool => k_is); (case z_str => k_is); (case z_range => k_is); (case z_set => k_is); (case z_enumerate => k_is); (case z_zip => k_is); (case z_dict => k_is); (case z_abs => k_is); (case a_cKINDS_ => k_is); (case l_cKINDS => k_is); (case a_cLONGEST_ => k_is); (case a_cSAME_ => k_is); (case l_cSAME => k_is); (case a_GE_ => k_is); (case z_ValueError => k_is); (case a_eInvalidWord_ => k_is); (case a_eInvalidExchange_ => k_is); (case a_eInvalidLines_ => k_is); (case a_eInvalidKinds_ => k_is); (case a_eInvalidFunction_ => k_is); (case a_eInvalidAnswers_ => k_is); (case a_eInvalidText_ => k_is); (case a_eTooMany_ => k_is); (case a_eEmpty_ => k_is); (case a_eNothingToUndo_ => k_is); (case a_eInvalidGate_ => k_is); (case x_eInvalidGate => k_exc); (case k_eInvalidGate => k_is); (case b_eInvalidGate => k_is); (case t_eInvalidGate => k_is); (case a_eInvalidCircuit_ => k_is); (case x_eInvalidCircuit => k_exc); (case k_eInvalidCircuit => k_is); (case b_eInvalidCircuit => k_is); (case t_eInvalidCircuit => k_is); (case exok => kernel_rfl)
