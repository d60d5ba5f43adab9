import PyProof.Rows.All
import Wide.All
import OpenK.AllK
import Wide.FinOn
import PyProof.EqAt
import PyProof.EqKinds
import PyProof.TupleCall
import HandS.ForMost
import HandS.ForExc
import HandS.Lambda
import KE.DataMinMax
import KE.SortData
import HandS.TupAny
import HandS.TupLe
import HandS.TupMul
import HandS.Deep
import HandS.IsInst
import HandS.Conv
import HandS.Wide
import HandS.Flow
import HandS.Style
import HandS.SortInts
import HandS.Walk
import HandS.Zip
import PyProof.EnumMake
import KE.GoesMore
import HandS.Defaults
import HandS.ExcOwn
import HandS.ExcInit
import HandS.ExcIs
import KE.KDflt
import HandS.WordsDict
import HandS.TupLen
import KE.KStateDown
import HandS.Head0
import HandS.Head1
import HandS.Head2
import HandS.HeadEnd
import HandS.HeadHook1
import HandS.HeadHook2
import HandS.HeadWalk
import HandS.EndOwn
import HandS.NestedK
import PySem.Challenge.RW_printyard_k55_whole_numbers_stamped_on_s
set_option Elab.async false
set_option linter.all false
set_option maxRecDepth 100000
set_option maxHeartbeats 0
/-! ZA: data, how the heap bears them, the state of the reckoner and how a frame bears it. -/
namespace ZZ
open L2 PyProof.Rows PySem.Spec PySem

inductive D where
  | non | bl (b : Bool) | int (i : Int) | str (s : Str)
  | tup (l : List D) | lst (l : List D) | dct (l : List (D × D))
  | hand | scr (ns : List Int)

abbrev Frag := PySem.W.Frag
/-- the hand's address, the frozen part -/
structure Wd where
  ha : Option Addr
  F : Hp
def Wd.le (w w' : Wd) : Prop := Same w.F w'.F ∧ (∀ h, w.ha = some h → w'.ha = some h)
theorem Wd.le_refl (w : Wd) : w.le w := ⟨Same.refl _, fun _ h => h⟩
theorem Wd.le_trans {a b c : Wd} (h : a.le b) (k : b.le c) : a.le c := ⟨h.1.trans k.1, fun x e => k.2 x (h.2 x e)⟩

def keyD : Key → D
  | .inl i => .int i
  | .inr s => .str s

mutual
inductive Rep (K : Frag) (w : Wd) : V → D → Prop
  | non : Rep K w .non .non
  | bl (b : Bool) : Rep K w (.bl b) (.bl b)
  | int (i : Int) : Rep K w (.int i) (.int i)
  | str (s : Str) : Rep K w (.str s) (.str s)
  | tup {a : Addr} {xs : List V} {ds : List D} : SqT K w.F a xs → Reps K w xs ds → Rep K w (.ref a) (.tup ds)
  | lst {a : Addr} {xs : List V} {ds : List D} : w.F a = some (.lst xs) → Reps K w xs ds → Rep K w (.ref a) (.lst ds)
  | scr {a : Addr} {ns : List Int} : SqL K w.F a (ns.map V.int) → Rep K w (.ref a) (.scr ns)
  | dK {a : Addr} {kvs : List (Key × V)} {kds : List (D × D)} : w.F a = some (.dK kvs) → RepK K w kvs kds → Rep K w (.ref a) (.dct kds)
  | dT {a : Addr} {kvs : List (List Key × V)} {kds : List (D × D)} : w.F a = some (.dT kvs) → RepT K w kvs kds → Rep K w (.ref a) (.dct kds)
  | hand {h : Addr} : w.ha = some h → Rep K w (.ref h) .hand
inductive Reps (K : Frag) (w : Wd) : List V → List D → Prop
  | nil : Reps K w [] []
  | cons {v : V} {vs : List V} {d : D} {ds : List D} : Rep K w v d → Reps K w vs ds → Reps K w (v :: vs) (d :: ds)
inductive RepK (K : Frag) (w : Wd) : List (Key × V) → List (D × D) → Prop
  | nil : RepK K w [] []
  | cons {k : Key} {v : V} {vs : List (Key × V)} {d : D} {ds : List (D × D)} : Rep K w v d → RepK K w vs ds → RepK K w ((k, v) :: vs) ((keyD k, d) :: ds)
inductive RepT (K : Frag) (w : Wd) : List (List Key × V) → List (D × D) → Prop
  | nil : RepT K w [] []
  | cons {k : List Key} {v : V} {vs : List (List Key × V)} {d : D} {ds : List (D × D)} : Rep K w v d → RepT K w vs ds → RepT K w ((k, v) :: vs) ((.tup (k.map keyD), d) :: ds)
end

theorem SameSqL {K : Frag} {H H' : Hp} {a : Addr} {xs : List V} (e : Same H H') (h : SqL K H a xs) : SqL K H' a xs := e.seq h
theorem SameSqT {K : Frag} {H H' : Hp} {a : Addr} {xs : List V} (e : Same H H') (h : SqT K H a xs) : SqT K H' a xs := by
  (rcases h with (h | ⟨o, h⟩) | h)
  · exact .inl (.inl (e _ _ h))
  · (exact .inl (.inr ⟨o, e _ _ h⟩))
  · exact .inr h
theorem SameRd {H H' : Hp} {a : Addr} {u : HO} (e : Same H H') (h : Rd H a u) : Rd H' a u := by
  rcases h with h | ⟨o, h⟩
  · exact .inl (e _ _ h)
  · exact .inr ⟨o, e _ _ h⟩

mutual
theorem Rep.mono {K : Frag} {w w' : Wd} (l : w.le w') : ∀ {v : V} {d : D}, Rep K w v d → Rep K w' v d
  | _, _, .non => .non
  | _, _, .bl b => .bl b
  | _, _, .int b => .int b
  | _, _, .str b => .str b
  | _, _, .tup h r => .tup (SameSqT l.1 h) (Reps.mono l r)
  | _, _, .lst h r => .lst (l.1 _ _ h) (Reps.mono l r)
  | _, _, .scr h => .scr (SameSqL l.1 h)
  | _, _, .dK h r => .dK (l.1 _ _ h) (RepK.mono l r)
  | _, _, .dT h r => .dT (l.1 _ _ h) (RepT.mono l r)
  | _, _, .hand h => .hand (l.2 _ h)
theorem Reps.mono {K : Frag} {w w' : Wd} (l : w.le w') : ∀ {v : List V} {d : List D}, Reps K w v d → Reps K w' v d
  | _, _, .nil => .nil
  | _, _, .cons h t => .cons (Rep.mono l h) (Reps.mono l t)
theorem RepK.mono {K : Frag} {w w' : Wd} (l : w.le w') : ∀ {v : List (Key × V)} {d : List (D × D)}, RepK K w v d → RepK K w' v d
  | _, _, .nil => .nil
  | _, _, .cons h t => .cons (Rep.mono l h) (RepK.mono l t)
theorem RepT.mono {K : Frag} {w w' : Wd} (l : w.le w') : ∀ {v : List (List Key × V)} {d : List (D × D)}, RepT K w v d → RepT K w' v d
  | _, _, .nil => .nil
  | _, _, .cons h t => .cons (Rep.mono l h) (RepT.mono l t)
end
section
variable {K : Frag} {w : Wd}
theorem Reps.length : ∀ {vs : List V} {ds : List D}, Reps K w vs ds → vs.length = ds.length
  | _, _, .nil => rfl
  | _, _, .cons _ t => by rw [List.length_cons, List.length_cons, Reps.length t]
theorem Reps.append : ∀ {vs vs' : List V} {ds ds' : List D}, Reps K w vs ds → Reps K w vs' ds' → Reps K w (vs ++ vs') (ds ++ ds')
  | _, _, _, _, .nil, h => h
  | _, _, _, _, .cons a t, h => .cons a (Reps.append t h)
theorem Reps.get : ∀ {vs : List V} {ds : List D} {i : Nat} {v : V}, Reps K w vs ds → vs[i]? = some v → ∃ d, ds[i]? = some d ∧ Rep K w v d
  | _, _, _, _, .nil, e => (by simp at e)
  | _, _, 0, _, .cons r _, e => (by simp at e; subst e; exact ⟨_, rfl, r⟩)
  | _, _, n + 1, x, .cons _ t, e => by
    obtain ⟨u, h1, h2⟩ := Reps.get (i := n) (v := x) t (by simpa using e)
    (exact ⟨u, by simpa using h1, h2⟩)
theorem Reps.got : ∀ {vs : List V} {ds : List D} {i : Nat} {d : D}, Reps K w vs ds → ds[i]? = some d → ∃ v, vs[i]? = some v ∧ Rep K w v d
  | _, _, _, _, .nil, e => (by simp at e)
  | _, _, 0, _, .cons r _, e => (by simp at e; subst e; exact ⟨_, rfl, r⟩)
  | _, _, n + 1, x, .cons _ t, e => by
    obtain ⟨u, h1, h2⟩ := Reps.got (i := n) (d := x) t (by simpa using e)
    (exact ⟨u, by simpa using h1, h2⟩)
theorem Reps.set : ∀ {vs : List V} {ds : List D} {v : V} {d : D} (i : Nat), Rep K w v d → Reps K w vs ds → Reps K w (vs.set i v) (ds.set i d)
  | _, _, _, _, _, _, .nil => .nil
  | _, _, _, _, 0, r, .cons _ t => .cons r t
  | _, _, _, _, i + 1, r, .cons q t => .cons q (Reps.set i r t)
theorem Reps.take : ∀ {vs : List V} {ds : List D} (n : Nat), Reps K w vs ds → Reps K w (vs.take n) (ds.take n)
  | _, _, 0, _ => .nil
  | _, _, _ + 1, .nil => .nil
  | _, _, n + 1, .cons r t => .cons r (Reps.take n t)
theorem Reps.drop : ∀ {vs : List V} {ds : List D} (n : Nat), Reps K w vs ds → Reps K w (vs.drop n) (ds.drop n)
  | _, _, 0, r => r
  | _, _, _ + 1, .nil => .nil
  | _, _, n + 1, .cons _ t => Reps.drop n t
theorem Reps.reverse {vs : List V} {ds : List D} (h : Reps K w vs ds) : Reps K w vs.reverse ds.reverse := by
  revert ds
  induction vs with
  | nil => intro ds h; cases h; exact .nil
  | cons v vs ih =>
    intro ds h
    cases h with
    | cons r t =>
      (rw [List.reverse_cons, List.reverse_cons])
      exact (ih t).append (.cons r .nil)
theorem Reps.ints : ∀ (ns : List Int), Reps K w (ns.map V.int) (ns.map D.int)
  | [] => .nil
  | n :: r => .cons (.int n) (Reps.ints r)
theorem Reps.bls : ∀ (ns : List Bool), Reps K w (ns.map V.bl) (ns.map D.bl)
  | [] => .nil
  | n :: r => .cons (.bl n) (Reps.bls r)
theorem Reps.strs : ∀ (ns : List Str), Reps K w (ns.map V.str) (ns.map D.str)
  | [] => .nil
  | n :: r => .cons (.str n) (Reps.strs r)
end

/-! ### the reckoner's state -/
inductive Slot where
  | un
  | fz (d : D)
  | ow (d : D)
  | sp (t : Option Str)
structure S where
  sl : List Slot
  hd : Option (List D)
/-- the entry of a def: the heap and the frozen part as they stood -/
structure CbI where
  f : Addr
  c : Addr
  q : Str
  w0 : Wd
/-- what a context knows of its marked names: the caught exception, the callable handed in -/
structure ExI where
  a : Addr
  ok : Str → Prop
structure Ix where
  ea : Option ExI
  cb : Option CbI
  T : List (Addr × Str)
structure En (ix : Ix) where
  B : Hp
  F0 : Hp
  tab : LamX.Tabs ix.T B
def NT (o : HO) : Prop := ∀ ps, o ≠ .tbl ps
/-- the heap without its code tables -/
def lv (H : Hp) : Hp := fun a => match H a with
  | some (.tbl _) => none
  | x => x
section
variable {H : Hp} {a p : Addr} {o : HO}
theorem lv_none (n : H a = none) : lv H a = none := by unfold lv; rw [n]
theorem lv_some (h : H a = some o) (nt : NT o) : lv H a = some o := by
  unfold lv
  rw [h]
  cases o <;> first | rfl | exact absurd rfl (nt _)
theorem lv_out (h : lv H a = some o) : H a = some o := by
  unfold lv at h
  split at h
  · cases h
  · exact h
theorem lv_nt (h : lv H a = some o) : NT o := fun ps z => by
  subst z
  have q := lv_out h
  unfold lv at h
  rw [q] at h
  cases h
theorem lv_ne (h : a ≠ p) : lv (upd H p o) a = lv H a := by
  unfold lv
  rw [upd_ne h]
end
/-- what stood stands: all but the hand and the code tables -/
structure Fr (T : List (Addr × Str)) (ha : Option Addr) (B H : Hp) : Prop where
  keep : ∀ a o, lv B a = some o → ha ≠ some a → lv H a = some o
  dom : ∀ a o, lv B a = some o → ∃ o', lv H a = some o'
  hb : ∀ a o, lv B a = some o → ha = some a → ∃ vs, o = .lst vs
  tab : LamX.Tabs T B → LamX.Tabs T H
theorem Fr.refl {T : List (Addr × Str)} {ha : Option Addr} {B : Hp} (h : ∀ a o, lv B a = some o → ha = some a → ∃ vs, o = .lst vs) : Fr T ha B B := ⟨fun _ _ h _ => h, fun _ o h => ⟨o, h⟩, h, id⟩
/-- an owned thing's content -/
inductive OwnAt (K : Frag) (w : Wd) (H : Hp) (p : Addr) : D → Prop
  | lst {vs : List V} {ds : List D} : H p = some (.lst vs) → Reps K w vs ds → OwnAt K w H p (.lst ds)
  | dK {kvs : List (Key × V)} {kds : List (D × D)} : H p = some (.dK kvs) → RepK K w kvs kds → OwnAt K w H p (.dct kds)
  | dT {kvs : List (List Key × V)} {kds : List (D × D)} : H p = some (.dT kvs) → RepT K w kvs kds → OwnAt K w H p (.dct kds)
theorem OwnAt.mono {K : Frag} {w w' : Wd} {H H' : Hp} {p : Addr} {d : D} (l : w.le w') (e : H' p = H p) (h : OwnAt K w H p d) : OwnAt K w' H' p d := by
  cases h with
  | lst h r => exact .lst (e.trans h) (r.mono l)
  | dK h r => exact .dK (e.trans h) (r.mono l)
  | dT h r => exact .dT (e.trans h) (r.mono l)
theorem OwnAt.some {K : Frag} {w : Wd} {H : Hp} {p : Addr} {d : D} (h : OwnAt K w H p d) : ∃ o, H p = some o ∧ NT o := by
  cases h with
  | lst h r => exact ⟨_, h, fun _ z => nomatch z⟩
  | dK h r => exact ⟨_, h, fun _ z => nomatch z⟩
  | dT h r => exact ⟨_, h, fun _ z => nomatch z⟩
theorem tabs_upd {T : List (Addr × Str)} {H : Hp} {p : Addr} {o ob : HO} (t : LamX.Tabs T H) (h : H p = some ob) (n1 : NT ob) (n2 : ∀ f, ob ≠ .ext f) : LamX.Tabs T (upd H p o) := fun q hq => by
  obtain ⟨ps, h1, h2, h3⟩ := t q hq
  refine ⟨ps, ?_, h2, fun pos cv hc => ?_⟩
  · rw [upd_ne fun z => n1 ps (by rw [z, h] at h1; exact Option.some.inj h1)]
    exact h1
  · obtain ⟨c, e1, e2⟩ := h3 pos cv hc
    refine ⟨c, e1, ?_⟩
    rw [upd_ne fun z => n2 _ (by rw [z, h] at e2; exact Option.some.inj e2)]
    exact e2
theorem OwnAt.tabs {T : List (Addr × Str)} {K : Frag} {w : Wd} {H : Hp} {p : Addr} {d : D} {o : HO} (h : OwnAt K w H p d) (t : LamX.Tabs T H) : LamX.Tabs T (upd H p o) := by
  cases h with
  | lst h r => exact tabs_upd t h (fun _ z => nomatch z) (fun _ z => nomatch z)
  | dK h r => exact tabs_upd t h (fun _ z => nomatch z) (fun _ z => nomatch z)
  | dT h r => exact tabs_upd t h (fun _ z => nomatch z) (fun _ z => nomatch z)
theorem OwnAt.lv {K : Frag} {w : Wd} {H : Hp} {p : Addr} {d : D} (h : OwnAt K w H p d) : ∃ o, H p = Option.some o ∧ ZZ.lv H p = Option.some o := by
  obtain ⟨o, h1, h2⟩ := h.some
  exact ⟨o, h1, lv_some h1 h2⟩
theorem lv_lst {H : Hp} {p : Addr} {vs : List V} : lv (upd H p (.lst vs)) p = some (.lst vs) := lv_some upd_same fun _ z => nomatch z
/-- frozen at p, an owned thing is a datum -/
theorem OwnAt.rep {K : Frag} {w : Wd} {H : Hp} {p : Addr} {d : D} (h : OwnAt K w H p d) (e : w.F p = H p) : Rep K w (.ref p) d := by
  cases h with
  | lst h r => exact .lst (e.trans h) r
  | dK h r => exact .dK (e.trans h) r
  | dT h r => exact .dT (e.trans h) r
structure Own (K : Frag) {ix : Ix} (e : En ix) (w : Wd) (H : Hp) (p : Addr) (d : D) : Prop where
  nf : w.F p = none
  nb : lv e.B p = none
  nh : w.ha ≠ some p
  at_ : OwnAt K w H p d
def HandAt (K : Frag) (w : Wd) (H : Hp) : Option (List D) → Prop
  | none => w.ha = none
  | some ds => ∃ h vs, w.ha = some h ∧ w.F h = none ∧ H h = some (.lst vs) ∧ Reps K w vs ds
/-- a marked name -/
def SpOk {ix : Ix} (e : En ix) (w : Wd) (v : Option (Option V)) : Option Str → Prop
  | some c => ∃ x, ix.ea = some x ∧ v = some (some (.ref x.a)) ∧ x.ok c
  | none => ∃ c, ix.cb = some c ∧ v = some (some (.ref c.f)) ∧ e.B c.c = some (LamX.CodeO c.c c.q) ∧ c.w0.le w
theorem SpOk.mono {ix : Ix} {e : En ix} {w w' : Wd} {v : Option (Option V)} {t : Option Str} (h : SpOk e w v t) (l : w.le w') : SpOk e w' v t := by
  cases t with
  | some c => exact h
  | none =>
    obtain ⟨c, h1, h2, h3, h4⟩ := h
    exact ⟨c, h1, h2, h3, Wd.le_trans h4 l⟩
def SlotOk (K : Frag) {ix : Ix} (e : En ix) (w : Wd) (H : Hp) (v : Option (Option V)) : Option Slot → Prop
  | some (.fz d) => ∃ x, v = some (some x) ∧ Rep K w x d
  | some (.ow d) => ∃ p, v = some (some (.ref p)) ∧ Own K e w H p d
  | some (.sp t) => SpOk e w v t
  | _ => True
structure Sim (K : Frag) {ix : Ix} (e : En ix) (w : Wd) (H : Hp) (σ : L2.St) (st : S) : Prop where
  len : σ.length = st.sl.length
  sl : ∀ i : Nat, SlotOk K e w H σ[i]? st.sl[i]?
  inj : ∀ (i j : Nat) (p : Addr) (d d' : D), st.sl[i]? = some (.ow d) → st.sl[j]? = some (.ow d') → σ[i]? = some (some (.ref p)) → σ[j]? = some (some (.ref p)) → i = j
  sub : Same w.F H
  nt : ∀ a o, w.F a = some o → NT o
  fr : Fr ix.T w.ha e.B H
  fsh : ∀ a o, w.F a = some o → (∃ o', e.F0 a = some o') ∨ lv e.B a = none
  hand : HandAt K w H st.hd

section
variable {K : Frag} {ix : Ix} {e : En ix} {w w' : Wd} {H H' : Hp} {σ : L2.St} {st : S}
/-- p is none of the frame's owned things -/
def Apart (σ : L2.St) (st : S) (p : Addr) : Prop := ∀ (i : Nat) (d : D), st.sl[i]? = some (.ow d) → σ[i]? ≠ some (some (.ref p))
theorem Sim.apart_of_none (h : Sim K e w H σ st) {p : Addr} (n : lv H p = none) : Apart σ st p := fun i d hi hv => by
  have q := h.sl i
  rw [hi] at q
  obtain ⟨p', e1, o⟩ := q
  rw [hv] at e1
  injection e1 with e1
  injection e1 with e1
  injection e1 with e1
  subst e1
  obtain ⟨o', _, z⟩ := o.at_.lv
  rw [n] at z
  cases z
/-- the heap moves on: the frozen part grows, the owned things stay -/
theorem Sim.move (h : Sim K e w H σ st) (l : w.le w') (sub : Same w'.F H') (nt : ∀ a o, w'.F a = some o → NT o) (fr : Fr ix.T w'.ha e.B H')
    (fsh : ∀ a o, w'.F a = some o → (∃ o', w.F a = some o') ∨ (∀ (i : Nat) (d : D), st.sl[i]? = some (.ow d) → σ[i]? ≠ some (some (.ref a))) ∧ lv e.B a = none)
    (keep : ∀ (i : Nat) (d : D) (p : Addr), st.sl[i]? = some (.ow d) → σ[i]? = some (some (.ref p)) → H' p = H p ∧ w'.ha ≠ some p) (hand : HandAt K w' H' st.hd) : Sim K e w' H' σ st := by
  refine ⟨h.len, fun i => ?_, h.inj, sub, nt, fr, fun a o q => ?_, hand⟩
  · have q := h.sl i
    cases hs : st.sl[i]? with
    | none => trivial
    | some s =>
      rw [hs] at q
      cases s with
      | un => trivial
      | sp t => exact SpOk.mono q l
      | fz d => obtain ⟨x, e1, r⟩ := q; exact ⟨x, e1, r.mono l⟩
      | ow d =>
        obtain ⟨p, e1, o⟩ := q
        obtain ⟨k1, k2⟩ := keep i d p hs e1
        refine ⟨p, e1, ?_, o.nb, k2, o.at_.mono l k1⟩
        cases z : w'.F p with
        | none => rfl
        | some ob =>
          rcases fsh p ob z with ⟨o', q'⟩ | ⟨q', _⟩
          · rw [o.nf] at q'; cases q'
          · exact absurd e1 (q' i d hs)
  · rcases fsh a o q with ⟨o', q'⟩ | ⟨_, q'⟩
    · exact h.fsh a o' q'
    · exact .inr q'
theorem HandAt.mono {hd : Option (List D)} (h : HandAt K w H hd) (l : w.le w') (e1 : w'.ha = w.ha) (k : ∀ a, w.ha = some a → w'.F a = none ∧ H' a = H a) : HandAt K w' H' hd := by
  cases hd with
  | none => exact e1.trans h
  | some ds =>
    obtain ⟨a, vs, h1, h2, h3, h4⟩ := h
    obtain ⟨k1, k2⟩ := k a h1
    exact ⟨a, vs, e1.trans h1, k1, k2.trans h3, h4.mono l⟩
theorem Sim.hand_some (h : Sim K e w H σ st) {a : Addr} (e1 : w.ha = some a) : w.F a = none ∧ ∃ o, H a = some o ∧ NT o := by
  have q := h.hand
  cases hd : st.hd with
  | none => rw [hd] at q; rw [show w.ha = none from q] at e1; cases e1
  | some ds =>
    rw [hd] at q
    obtain ⟨b, vs, h1, h2, h3, _⟩ := q
    rw [e1] at h1
    cases h1
    exact ⟨h2, _, h3, fun _ z => nomatch z⟩
/-- a new thing, not frozen -/
theorem Sim.lay (h : Sim K e w H σ st) {p : Addr} {o : HO} (n : H p = none) : Sim K e w (upd H p o) σ st := by
  refine h.move (Wd.le_refl w) (fun b u q => ?_) h.nt ⟨fun a u q k => ?_, fun a u q => ?_, h.fr.hb, fun t => (h.fr.tab t).ext fun b u q => (upd_ne (ne_of_none q n)).trans q⟩ (fun a o q => .inl ⟨o, q⟩) (fun i d q hs hv => ?_) (h.hand.mono (Wd.le_refl w) rfl fun a ea => ?_)
  · rw [upd_ne (ne_of_none (h.sub b u q) n)]; exact h.sub b u q
  · have z := h.fr.keep a u q k
    rw [lv_ne (ne_of_none z (lv_none n))]; exact z
  · obtain ⟨u', z⟩ := h.fr.dom a u q
    exact ⟨u', by rw [lv_ne (ne_of_none z (lv_none n))]; exact z⟩
  · have z := h.sl i
    rw [hs] at z
    obtain ⟨p', e1, ow⟩ := z
    rw [hv] at e1; injection e1 with e1; injection e1 with e1; injection e1 with e1; subst e1
    obtain ⟨o', z, _⟩ := ow.at_.some
    exact ⟨upd_ne (ne_of_none z n), ow.nh⟩
  · obtain ⟨z1, o', z2, _⟩ := h.hand_some ea
    exact ⟨z1, upd_ne (ne_of_none z2 n)⟩
def Wd.frz (w : Wd) (p : Addr) (o : HO) : Wd := ⟨w.ha, upd w.F p o⟩
theorem Wd.le_frz {p : Addr} {o : HO} (n : w.F p = none) : w.le (w.frz p o) := ⟨fun b u q => by
  show upd w.F p o b = some u
  rw [upd_ne (ne_of_none q n)]; exact q, fun _ q => q⟩
theorem Sim.nb (h : Sim K e w H σ st) {p : Addr} (n : lv H p = none) : lv e.B p = none := by
  cases q : lv e.B p with
  | none => rfl
  | some o =>
    obtain ⟨o', z⟩ := h.fr.dom p o q
    rw [n] at z; cases z
theorem Sim.nf (h : Sim K e w H σ st) {p : Addr} (n : H p = none) : w.F p = none := by
  cases q : w.F p with
  | none => rfl
  | some o =>
    have z := h.sub p o q
    rw [n] at z; cases z
theorem Sim.nha (h : Sim K e w H σ st) {p : Addr} (n : H p = none) : w.ha ≠ some p := fun q => by
  obtain ⟨_, o, z, _⟩ := h.hand_some q
  rw [n] at z; cases z
/-- what stands apart and is not of the entry is frozen -/
theorem Sim.freeze (h : Sim K e w H σ st) {p : Addr} {o : HO} (hp : H p = some o) (nt : NT o) (nf : w.F p = none) (nb : lv e.B p = none) (nh : w.ha ≠ some p) (ap : Apart σ st p) : Sim K e (w.frz p o) H σ st := by
  refine h.move (Wd.le_frz nf) (fun b u q => ?_) (fun a u q => ?_) h.fr (fun a u q => ?_) (fun i d q hs hv => ?_) (h.hand.mono (Wd.le_frz nf) rfl fun a ea => ⟨?_, rfl⟩)
  · by_cases hb : b = p
    · subst hb
      have q' : upd w.F b o b = some u := q
      rw [upd_same] at q'; rw [hp]; exact q'
    · have q' : upd w.F p o b = some u := q
      rw [upd_ne hb] at q'; exact h.sub b u q'
  · by_cases hb : a = p
    · subst hb
      have q' : upd w.F a o a = some u := q
      rw [upd_same] at q'; cases q'; exact nt
    · have q' : upd w.F p o a = some u := q
      rw [upd_ne hb] at q'; exact h.nt a u q'
  · by_cases hb : a = p
    · subst hb; exact .inr ⟨ap, nb⟩
    · have q' : upd w.F p o a = some u := q
      rw [upd_ne hb] at q'; exact .inl ⟨u, q'⟩
  · have z := h.sl i
    rw [hs] at z
    obtain ⟨p', e1, ow⟩ := z
    rw [hv] at e1; injection e1 with e1; injection e1 with e1; injection e1 with e1; subst e1
    exact ⟨rfl, ow.nh⟩
  · have ne : a ≠ p := fun z => nh (z ▸ ea)
    show upd w.F p o a = none
    rw [upd_ne ne]; exact (h.hand_some ea).1
/-- a new frozen thing -/
theorem Sim.grow (h : Sim K e w H σ st) {p : Addr} {o : HO} (n : H p = none) (nt : NT o) : Sim K e (w.frz p o) (upd H p o) σ st ∧ w.le (w.frz p o) :=
  ⟨(h.lay n).freeze upd_same nt (h.nf n) (h.nb (lv_none n)) (h.nha n) (h.apart_of_none (lv_none n)), Wd.le_frz (h.nf n)⟩
end
end ZZ

/-! ZB: the small language Z and its reckoner. -/
namespace ZZ
open PySem L2

/-- an exception: its class, what it keeps -/
structure Ex where
  c : Str
  fs : List D
inductive Res (α : Type) where
  | ok (a : α) (st : S)
  | exc (x : Ex) (st : S)
  | stuck
def Res.bind {α β : Type} (r : Res α) (k : α → S → Res β) : Res β := match r with
  | .ok a st => k a st
  | .exc x st => .exc x st
  | .stuck => .stuck
@[simp] theorem Res.bind_ok {α β : Type} (a : α) (st : S) (k : α → S → Res β) : (Res.ok a st).bind k = k a st := rfl
@[simp] theorem Res.bind_exc {α β : Type} (x : Ex) (st : S) (k : α → S → Res β) : (Res.exc x st : Res α).bind k = .exc x st := rfl
@[simp] theorem Res.bind_stuck {α β : Type} (k : α → S → Res β) : (Res.stuck : Res α).bind k = .stuck := rfl
/-- an option, lifted -/
def lift {α : Type} (o : Option α) (st : S) : Res α := match o with
  | some a => .ok a st
  | none => .stuck
@[simp] theorem lift_some {α : Type} (a : α) (st : S) : lift (some a) st = .ok a st := rfl
@[simp] theorem lift_none {α : Type} (st : S) : lift (none : Option α) st = .stuck := rfl
/-- a value: frozen, or a new list or dict that nobody else holds -/
inductive Rv where
  | f (d : D)
  | o (d : D)
def Rv.d : Rv → D
  | .f d => d
  | .o d => d
@[simp] theorem Rv.d_f (d : D) : (Rv.f d).d = d := rfl
@[simp] theorem Rv.d_o (d : D) : (Rv.o d).d = d := rfl
/-- a call's end -/
inductive Out where
  | ok (v : Rv) (hd : Option (List D))
  | exc (x : Ex) (hd : Option (List D))
  | stuck

inductive Op where
  | add | sub | mul | fdiv | mod | pow
inductive Cop where
  | eq | ne | lt | le | gt | ge | is | isn | in_ | nin
/-- built-in functions -/
inductive Fn where
  | len | all | any | sum | abs | int | bool | tuple | list | min | max | min2 | max2 | sorted | str | lrange1 | lrange2 | set | repr
/-- built-in functions, of data -/
inductive Fx where
  | len | min | max | sorted | str
  deriving DecidableEq
inductive Mt where
  | index | count | join
inductive Cl where
  | int | bool | str | tuple | list | dict
inductive Ik where
  | val | rng1 | rng2 | rng3 | enum | zip | rev | items | values
inductive Tg where
  | nm (i : Nat)
  | tp (l : List Tg)
inductive Z where
  | con (d : D)
  | glo (x : Str) (d : D)
  | var (i : Nat)
  | neg (a : Z)
  | not (a : Z)
  | bin (o : Op) (a b : Z)
  | cmp (o : Cop) (a b : Z)
  | cmp2 (o o' : Cop) (a b c : Z)
  | and (a b : Z)
  | or (a b : Z)
  | ife (c a b : Z)
  | tup (es : List Z)
  | lst (es : List Z)
  | dic (es : List Z)
  | idx (a b : Z)
  | sli (a lo hi : Z)
  | rev (a : Z)
  | call (f : Nat) (es : List Z)
  | fn (b : Fn) (es : List Z)
  | fx (b : Fx) (es : List Z)
  | lrg (tu : Bool) (es : List Z)
  | mt (m : Mt) (a : Z) (es : List Z)
  | isi (a : Z) (c : Cl)
  | isi2 (a : Z) (c c' : Cl)
  | isE (i : Nat) (c : Str)
  | lc (own : List Nat) (tg : Tg) (k : Ik) (its : List Z) (ifs : Option Z) (elt : Z)
  | dc (own : List Nat) (tg : Tg) (k : Ik) (its : List Z) (ifs : Option Z) (key val : Z)
  | lc2 (own : List Nat) (tg : Tg) (k : Ik) (its : List Z) (ifs : Option Z) (own1 : List Nat) (tg1 : Tg) (k1 : Ik) (its1 : List Z) (ifs1 : Option Z) (elt : Z)
  | pop (i : Nat)
  | popa (i : Nat) (a : Z)
  | act (i : Nat)
  | lam (f : Nat) (cap : List Nat) (a : Z)
inductive ZS where
  | ex (z : Z)
  | set (i : Nat) (z : Z)
  | sett (l : List Tg) (z : Z)
  | par (l : List Nat) (zs : List Z)
  | aug (i : Nat) (o : Op) (z : Z)
  | seti (i : Nat) (ix z : Z)
  | ift (c : Z) (t e : List ZS)
  | wh (c : Z) (b : List ZS)
  | fr (tg : Tg) (k : Ik) (its : List Z) (b : List ZS)
  | ret (z : Z)
  | retn
  | brk
  | cnt
  | pass
  | app (i : Nat) (z : Z)
  | ext (i : Nat) (z : Z)
  | rai (c : Str) (es : List Z)
  | hnd (i : Nat) (z : Z)
  | try_ (b : List ZS) (c : Str) (i : Nat) (s : List ZS)

/-! ### data -/
def line : Nat := 16777216
mutual
def D.pd : D → Option PyData
  | .non => some .none
  | .bl b => some (.bool b)
  | .int i => some (.int i)
  | .str s => some (.str s)
  | .tup l => (D.pds l).map .tuple
  | .lst l => (D.pds l).map .list
  | .dct _ => none
  | .hand => none
  | .scr _ => none
def D.pds : List D → Option (List PyData)
  | [] => some []
  | d :: l => match d.pd, D.pds l with
    | some x, some xs => some (x :: xs)
    | _, _ => none
end
def eqD (x y : D) : Option Bool := match x, y with
  | .str a, .str b => some (decide (a = b))
  | x, y => match x.pd, y.pd with
    | some a, some b => if SeqAt.shaped a = true ∧ SeqAt.shaped b = true then some (PyData.eqv a b) else none
    | _, _ => none
def truD : D → Option Bool
  | .non => some false
  | .bl b => some b
  | .int i => some (i != 0)
  | .str s => if s.length ≤ line then some ((s.length : Int) != 0) else none
  | .tup l => some (!l.isEmpty)
  | .lst l => some (!l.isEmpty)
  | .dct _ => none
  | .hand => none
  | .scr _ => none
def small64 (i : Int) : Bool := decide (i.natAbs < 18446744073709551616)
theorem small64_iff {i : Int} : small64 i = true ↔ -(2 ^ 64) < i ∧ i < 2 ^ 64 := by
  unfold small64
  rw [decide_eq_true_eq]
  omega
/-- a text, so often -/
def strMul (a : Str) (k : Int) : Str := if k < 1 then Str.empty else if (k == 1 || a.length == 0) = true then a else ⟨(List.replicate k.toNat a.cps).foldl (· ++ ·) #[]⟩
def binD (o : Op) (x y : D) : Option Rv := match o, x, y with
  | .add, .int i, .int j => some (.f (.int (i + j)))
  | .add, .str a, .str b => if a.length + b.length ≤ line then some (.f (.str (a ++ b))) else none
  | .add, .lst a, .lst b => if a.length + b.length ≤ line then some (.o (.lst (a ++ b))) else none
  | .add, .tup a, .tup b => if a.length + b.length ≤ line then some (.f (.tup (a ++ b))) else none
  | .sub, .int i, .int j => some (.f (.int (i - j)))
  | .mul, .int i, .int j => if small64 i || small64 j then some (.f (.int (i * j))) else none
  | .mul, .lst a, .int k => if a.length * k.toNat ≤ line ∧ -(2 ^ 63) ≤ k ∧ k < 2 ^ 63 then some (.o (.lst (List.replicate k.toNat a).flatten)) else none
  | .mul, .tup a, .int k => if a ≠ [] ∧ 2 ≤ k ∧ k ≤ 1000 ∧ a.length ≤ 1000 then some (.f (.tup (List.replicate k.toNat a).flatten)) else none
  | .mul, .str a, .int k => if -(2 ^ 63) ≤ k ∧ k ≤ 1000 ∧ a.length ≤ 1000 then some (.f (.str (strMul a k))) else none
  | .fdiv, .int i, .int j => if j ≠ 0 ∧ j.natAbs < 1073741824 then some (.f (.int (i.fdiv j))) else none
  | .mod, .int i, .int j => if j ≠ 0 then some (.f (.int (i.fmod j))) else none
  | .pow, .int i, .int j => if 0 ≤ j ∧ j ≤ 1000000 ∧ i.natAbs < 2 ^ 64 then some (.f (.int (i ^ j.toNat))) else none
  | _, _, _ => none
def D.flat : D → Bool
  | .non => true
  | .bl _ => true
  | .int _ => true
  | .str _ => true
  | _ => false
/-- == of flat data -/
def eqF : D → D → Bool
  | .non, .non => true
  | .bl a, .bl b => a == b
  | .bl a, .int b => ((if a then 1 else 0) == b)
  | .int a, .bl b => (a == (if b then 1 else 0))
  | .int a, .int b => a == b
  | .str a, .str b => a == b
  | _, _ => false
/-- x in l, flat -/
def inF (x : D) (l : List D) : Bool := l.any fun y => eqF y x
def inPD (x : D) (l : List D) : Option Bool := match x.pd, D.pds l with
  | some a, some bs => if SeqAt.shaped a = true ∧ SeqAt.shaped (.list bs) = true then some (bs.any fun z => PyData.eqv z a) else none
  | _, _ => none
def D.ints : List D → Option (List Int)
  | [] => some []
  | .int i :: l => (D.ints l).map (i :: ·)
  | _ :: _ => none
def keyOf : D → Option Key
  | .int i => some (.inl i)
  | .str s => some (.inr s)
  | _ => none
def keysOf : List D → Option (List Key)
  | [] => some []
  | d :: l => match keyOf d, keysOf l with
    | some k, some ks => some (k :: ks)
    | _, _ => none
/-- a key of a dict: an int, a text, a tuple of such -/
inductive DKey where
  | k (k : Key)
  | t (ks : List Key)
  deriving DecidableEq
def dkeyOf : D → Option DKey
  | .tup l => (keysOf l).map .t
  | d => (keyOf d).map .k
def dlook (k : DKey) : List (D × D) → Option (Option D)
  | [] => some none
  | (q, v) :: l => match dkeyOf q with
    | some k' => if k' = k then some (some v) else dlook k l
    | none => none
def ltD (x y : D) : Option Bool := match x, y with
  | .int i, .int j => some (decide (i < j))
  | .str a, .str b => some (decide (a.cps.toList < b.cps.toList))
  | .tup a, .tup b => match D.ints a, D.ints b with
    | some ns, some ms => some (HT.lexLt ns ms)
    | _, _ => none
  | _, _ => none
def inD (x y : D) : Option Bool := match y with
  | .str b => match x with
    | .str a => some (!(Builtin.Str.occurrences b a 0 b.length 1).isEmpty)
    | _ => none
  | .lst l => if x.flat && l.all D.flat then some (inF x l) else inPD x l
  | .tup l => if x.flat && l.all D.flat then some (inF x l) else none
  | _ => none
def isD (x y : D) : Option Bool := match y with
  | .non => some (match x with | .non => true | _ => false)
  | .bl b => match x with | .bl a => some (decide (a = b)) | _ => none
  | _ => none
def cmpD (o : Cop) (x y : D) : Option Bool := match o with
  | .eq => eqD x y
  | .ne => (eqD x y).map not
  | .lt => ltD x y
  | .le => match x, y with
    | .int i, .int j => some (decide (i ≤ j))
    | _, _ => none
  | .gt => match x, y with
    | .int i, .int j => some (decide (j < i))
    | _, _ => none
  | .ge => match x, y with
    | .int i, .int j => some (decide (j ≤ i))
    | _, _ => none
  | .is => isD x y
  | .isn => (isD x y).map not
  | .in_ => inD x y
  | .nin => (inD x y).map not
def idxD (hd : Option (List D)) (x y : D) : Option D := match x, y with
  | .lst l, .int i => atI l i
  | .tup l, .int i => atI l i
  | .str s, .int i => if s.length ≤ line then (atI s.cps.toList i).map fun c => .str ⟨#[c]⟩ else none
  | .hand, .int i => hd.bind fun l => atI l i
  | _, _ => none
def cutD {α : Type} (xs : List α) (lo hi : Option Int) : List α := (xs.drop (HT.sIx xs.length 0 lo)).take (HT.sIx xs.length xs.length hi - HT.sIx xs.length 0 lo)
def sliD (x : D) (l h : Option Int) : Option Rv := match x with
  | .lst xs => some (.o (.lst (cutD xs l h)))
  | .tup xs => some (.f (.tup (cutD xs l h)))
  | .scr ns => some (.o (.lst (cutD (ns.map .int) l h)))
  | .str z => if z.length ≤ line then some (.f (.str (cutS z l h))) else none
  | _ => none
def isiD (x : D) (c : Cl) : Option Bool := match x with
  | .non => some false
  | .bl _ => some (match c with | .int => true | .bool => true | _ => false)
  | .int _ => some (match c with | .int => true | _ => false)
  | .str _ => some (match c with | .str => true | _ => false)
  | .tup _ => some (match c with | .tuple => true | _ => false)
  | .lst _ => some (match c with | .list => true | _ => false)
  | .dct _ => some (match c with | .dict => true | _ => false)
  | .hand => none
  | .scr _ => none
/-- a content by the flag: what is left of a thing that is read (not kept) -/
def D.bls : List D → Option (List Bool)
  | [] => some []
  | .bl i :: l => (D.bls l).map (i :: ·)
  | _ :: _ => none
def seqOf : D → Option (List D)
  | .lst l => some l
  | .tup l => some l
  | _ => none
/-- the least of ints -/
def minI : List Int → Option Int
  | [] => none
  | a :: l => some (l.foldl (fun a b => if b < a then b else a) a)
def maxI : List Int → Option Int
  | [] => none
  | a :: l => some (l.foldl (fun a b => if a < b then b else a) a)
def insI (a : Int) : List Int → List Int
  | [] => [a]
  | b :: l => if a ≤ b then a :: b :: l else b :: insI a l
def sortI : List Int → List Int
  | [] => []
  | a :: l => insI a (sortI l)
def rangeI (lo hi : Int) : List Int := (List.range (hi - lo).toNat).map fun (k : Nat) => lo + (k : Int)
def okR (i : Int) : Bool := decide (i.natAbs < 4611686018427387904)
def fnD (b : Fn) (xs : List D) : Option Rv := match b, xs with
  | .len, [x] => match x with
    | .lst l => some (.f (.int l.length))
    | .tup l => some (.f (.int l.length))
    | .str s => if s.length ≤ line then some (.f (.int s.length)) else none
    | _ => none
  | .all, [.lst l] => (D.bls l).map fun bs => .f (.bl (bs.all id))
  | .any, [.lst l] => (D.bls l).map fun bs => .f (.bl (bs.any id))
  | .sum, [x] => (seqOf x).bind fun l => (D.ints l).map fun ns => .f (.int ns.sum)
  | .min, [.lst l] => (D.ints l).bind fun ns => (minI ns).map fun m => .f (.int m)
  | .max, [.lst l] => (D.ints l).bind fun ns => (maxI ns).map fun m => .f (.int m)
  | .min2, [.int i, .int j] => some (.f (.int (if j < i then j else i)))
  | .max2, [.int i, .int j] => some (.f (.int (if j > i then j else i)))
  | .abs, [.int i] => some (.f (.int (if i < 0 then -i else i)))
  | .int, [.int i] => some (.f (.int i))
  | .int, [.bl b] => some (.f (.int (if b then 1 else 0)))
  | .bool, [.int i] => some (.f (.bl (i != 0)))
  | .bool, [.bl b] => some (.f (.bl b))
  | .tuple, [x] => (seqOf x).map fun l => .f (.tup l)
  | .list, [x] => (seqOf x).map fun l => .o (.lst l)
  | .sorted, [.lst l] => (D.ints l).map fun ns => .o (.lst ((sortI ns).map .int))
  | _, _ => none
/-- a datum as the library has it -/
def D.pdn (d : D) : PyData := d.pd.getD .none
/-- data that can be put in order -/
def cmpOk (l : List D) : Bool := match D.pds l with
  | some ps => ps.all (fun x => ps.all fun y => PySem.W.alike x y) && ps.all (fun x => match x with | .none => false | _ => true) && decide (PyData.depthAll ps ≤ 40)
  | none => false
/-- .. and sorted -/
def srtOk (l : List D) : Bool := cmpOk l && (l.all (fun d => match d with | .tup (_ :: _) => true | _ => false) || l.all fun d => match d with | .tup _ => false | _ => true)
def ltP (x y : D) : Bool := PySem.W.dataLt x.pdn y.pdn
def leastD : List D → Option D
  | [] => none
  | x :: xs => some (xs.foldl (fun a y => if ltP y a then y else a) x)
def mostD : List D → Option D
  | [] => none
  | x :: xs => some (xs.foldl (fun a y => if ltP a y then y else a) x)
def sortD (l : List D) : List D := l.mergeSort fun a b => !ltP b a
def fxD (b : Fx) (xs : List D) : Option Rv := match b, xs with
  | .len, [x] => match x with
    | .lst l => some (.f (.int l.length))
    | .tup l => some (.f (.int l.length))
    | .str s => if s.length ≤ line then some (.f (.int s.length)) else none
    | .dct l => some (.f (.int l.length))
    | _ => none
  | .min, [x] => (seqOf x).bind fun l => if cmpOk l = true then (leastD l).map .f else none
  | .max, [x] => (seqOf x).bind fun l => if cmpOk l = true then (mostD l).map .f else none
  | .sorted, [.lst l] => if srtOk l = true ∧ l.length ≤ line then some (.o (.lst (sortD l))) else none
  | .str, [.int i] => if i.natAbs.log2 < 1920 then some (.f (.str (toString i))) else none
  | _, _ => none
/-- the place of the first -/
def findF (x : D) (l : List D) : Option Nat := l.findIdx? fun y => eqF y x
def tyMt (m : Mt) (x : D) : Bool := match m, x with
  | .index, .lst _ => true
  | .count, .lst _ => true
  | .join, .str _ => true
  | _, _ => false
def D.strs : List D → Option (List Str)
  | [] => some []
  | .str i :: l => (D.strs l).map (i :: ·)
  | _ :: _ => none
def mtD (m : Mt) (x : D) (xs : List D) : Option Rv := match m, x, xs with
  | .index, .lst l, [y] => if y.flat && l.all D.flat then (findF y l).map fun (j : Nat) => Rv.f (.int (j : Int)) else none
  | .count, .lst l, [y] => if y.flat && l.all D.flat then some (.f (.int ((l.countP fun z => eqF z y : Nat) : Int))) else none
  | .join, .str a, [y] => (seqOf y).bind fun l => (D.strs l).bind fun zs => if (zs.map (·.length)).sum + zs.length * a.length ≤ line then some (.f (.str (Txt.join a zs))) else none
  | _, _, _ => none
/-- what a loop goes over -/
def iterD (k : Ik) (xs : List D) : Option (List D) := match k, xs with
  | .val, [x] => match x with
    | .lst l => some l
    | .tup l => some l
    | .str s => some (s.cps.toList.map fun c => .str ⟨#[c]⟩)
    | _ => none
  | .rng1, [.int j] => if okR j then some ((rangeI 0 j).map .int) else none
  | .rng2, [.int i, .int j] => if okR i && okR j then some ((rangeI i j).map .int) else none
  | .enum, [x] => match x with
    | .lst l => some (l.zipIdx.map fun p => .tup [.int p.2, p.1])
    | .tup l => some (l.zipIdx.map fun p => .tup [.int p.2, p.1])
    | .str s => some ((s.cps.toList.map fun c => D.str ⟨#[c]⟩).zipIdx.map fun p => .tup [.int p.2, p.1])
    | _ => none
  | .zip, [.lst a, .lst b] => some ((a.zip b).map fun p => .tup [p.1, p.2])
  | .zip, [.tup a, .tup b] => some ((a.zip b).map fun p => .tup [p.1, p.2])
  | _, _ => none

/-- list(range(..)), tuple(range(..)) -/
def rgD (tu : Bool) (ds : List D) : Option Rv := match ds with
  | [.int j] => if okR j && decide (j ≤ 16777216) then some (if tu then .f (.tup ((rangeI 0 j).map .int)) else .o (.lst ((rangeI 0 j).map .int))) else none
  | [.int i, .int j] => if okR i && okR j && decide (j - i ≤ 16777216) then some (if tu then .f (.tup ((rangeI i j).map .int)) else .o (.lst ((rangeI i j).map .int))) else none
  | _ => none

/-! ### the state -/
def S.get (st : S) (i : Nat) : Option D := match st.sl[i]? with
  | some (.fz d) => some d
  | some (.ow d) => some d
  | _ => none
def S.put (st : S) (i : Nat) (s : Slot) : S := ⟨st.sl.set i s, st.hd⟩
def S.ownL (st : S) (i : Nat) : Bool := match st.sl[i]? with
  | some (.ow (.lst _)) => true
  | _ => false
/-- an operand: a datum, or the name that will be looked at -/
inductive Pd where
  | val (x : D)
  | slot (i : Nat)
def Pd.get (p : Pd) (st : S) : Option D := match p with
  | .val x => some x
  | .slot i => st.get i
def getAll : List Pd → S → Option (List D)
  | [], _ => some []
  | p :: ps, st => match p.get st, getAll ps st with
    | some d, some ds => (some (d :: ds))
    | _, _ => none
/-- a value is frozen: a name's own thing at its name -/
def frz (r : Res Rv) : Res D := r.bind fun v st => .ok v.d st
def pend (z : Z) (r : Res Rv) (st : S) : Res Pd := match z with
  | .var i => match st.get i with
    | some _ => .ok (.slot i) st
    | none => .stuck
  | _ => r.bind fun v st => .ok (.val v.d) st
/-- a part of a slice -/
def partE (z : Z) (r : Res Rv) (st : S) : Res (Option Int) := match z with
  | .con .non => .ok none st
  | _ => (frz r).bind fun d st => match d with
    | .int i => .ok (some i) st
    | _ => .stuck
/-- a value's truth -/
def tru (r : Res Rv) : Res Bool := (frz r).bind fun x st => lift (truD x) st
/- a target -/
mutual
def asg : Tg → D → S → Option S
  | .nm i, d, st => some (st.put i (.fz d))
  | .tp l, .tup ds, st => asgs l ds st
  | .tp _, _, _ => none
def asgs : List Tg → List D → S → Option S
  | [], [], st => some st
  | t :: ts, d :: ds, st => match asg t d st with
    | some st' => asgs ts ds st'
    | none => none
  | _, _, _ => none
end
def wipeS (st : S) : List Nat → S
  | [] => st
  | i :: l => (wipeS st l).put i .un
/-- the slots of a comprehension's own names as they stood (its own lists are let go) -/
def Slot.keepF : Slot → Slot
  | .fz d => .fz d
  | _ => .un
def unwipe (sl : List Slot) (st : S) : List Nat → S
  | [] => st
  | i :: l => (unwipe sl st l).put i (sl.getD i .un).keepF

structure Gm where
  cal : Nat → List D → Option (List D) → Out
  loops : Nat
  sub : Str → Str → Option Bool
  lam : Nat → (Option (List D) → Out) → Option (List D) → Out
  act : Option (List D) → Out
def Res.out (r : Res Rv) : Out := match r with
  | .ok v st => .ok v st.hd
  | .exc x st => .exc x st.hd
  | .stuck => .stuck
/-- the names that a lambda captures are frozen -/
def thaw1 (st : S) (i : Nat) : S := match st.sl[i]? with
  | some (.ow d) => st.put i (.fz d)
  | _ => st
def thawS (st : S) : List Nat → S
  | [] => st
  | i :: l => thaw1 (thawS st l) i
/-- what a lambda's body sees -/
def maskS (st : S) : List Slot := st.sl.map Slot.keepF
/-- the caught error is let go -/
def Slot.noSp : Slot → Slot
  | .sp (some _) => .un
  | s => s
def clrS (st : S) (i : Nat) : S := ⟨(st.sl.map Slot.noSp).set i .un, st.hd⟩
def iterE (k : Ik) (r : Res (List D)) : Res (List D) := r.bind fun xs st => lift (iterD k xs) st
def pairUp : List D → Option (List (D × D))
  | [] => some []
  | a :: b :: r => (pairUp r).map ((a, b) :: ·)
  | _ => none
/-- a dict display: keys all different -/
def kvD (ps : List (D × D)) : Option Rv := match keysOf (ps.map (·.1)) with
  | some ks => if ks.Nodup ∧ ps.length ≤ 15 then some (.o (.dct ps)) else none
  | none => none
def Out.res (o : Out) (st : S) : Res Rv := match o with
  | .ok v hd => .ok v ⟨st.sl, hd⟩
  | .exc x hd => .exc x ⟨st.sl, hd⟩
  | .stuck => .stuck
/-- a list comprehension's turns -/
def lcRun (own : List Nat) (tg : Tg) (test : S → Res Bool) (el : S → Res D) : List D → List D → S → Option (List D × S)
  | [], acc, st => some (acc, st)
  | d :: ds, acc, st => match asg tg d (wipeS st own) with
    | none => none
    | some st1 => match test st1 with
      | .ok b st2 => if b = true then match el st2 with
          | .ok x st3 => if acc.length < line then lcRun own tg test el ds (acc ++ [x]) st3 else none
          | _ => none
        else lcRun own tg test el ds acc st2
      | _ => none
mutual
def evE (G : Gm) : Z → S → Res Rv
  | .con d, st => .ok (.f d) st
  | .glo _ d, st => .ok (.f d) st
  | .var i, st => match st.sl[i]? with
    | some (.fz d) => .ok (.f d) st
    | some (.ow d) => .ok (.f d) (st.put i (.fz d))
    | _ => .stuck
  | .neg a, st => (frz (evE G a st)).bind fun x st => match x with
    | .int i => .ok (.f (.int (-i))) st
    | _ => .stuck
  | .not a, st => (tru (evE G a st)).bind fun b st => .ok (.f (.bl (!b))) st
  | .bin o a b, st => (pend a (evE G a st) st).bind fun p st => (pend b (evE G b st) st).bind fun q st => match p.get st, q.get st with
    | some x, some y => lift (binD o x y) st
    | _, _ => .stuck
  | .cmp o a b, st => (pend a (evE G a st) st).bind fun p st => (pend b (evE G b st) st).bind fun q st => match p.get st, q.get st with
    | some x, some y => (lift (cmpD o x y) st).bind fun b st => .ok (.f (.bl b)) st
    | _, _ => .stuck
  | .cmp2 o o' a b c, st => (frz (evE G a st)).bind fun x st => (frz (evE G b st)).bind fun y st => (lift (cmpD o x y) st).bind fun k st =>
    if k = true then (frz (evE G c st)).bind fun z st => (lift (cmpD o' y z) st).bind fun b st => .ok (.f (.bl b)) st else .ok (.f (.bl false)) st
  | .and a b, st => (frz (evE G a st)).bind fun x st => match truD x with
    | some true => evE G b st
    | some false => .ok (.f x) st
    | none => .stuck
  | .or a b, st => (frz (evE G a st)).bind fun x st => match truD x with
    | some true => .ok (.f x) st
    | some false => evE G b st
    | none => .stuck
  | .ife c a b, st => (tru (evE G c st)).bind fun k st => if k = true then evE G a st else evE G b st
  | .tup es, st => (evEs G es st).bind fun ds st => if ds.length ≤ line then .ok (.f (.tup ds)) st else .stuck
  | .lst es, st => (evEs G es st).bind fun ds st => if ds.length ≤ line then .ok (.o (.lst ds)) st else .stuck
  | .dic es, st => (evEs G es st).bind fun ds st => lift ((pairUp ds).bind kvD) st
  | .idx a b, st => (pend a (evE G a st) st).bind fun p st => (pend b (evE G b st) st).bind fun q st => match p.get st, q.get st with
    | some x, some y => (lift (idxD st.hd x y) st).bind fun d st => .ok (.f d) st
    | _, _ => .stuck
  | .sli a lo hi, st => (pend a (evE G a st) st).bind fun p st => (partE lo (evE G lo st) st).bind fun l st => (partE hi (evE G hi st) st).bind fun h st => match p.get st with
    | some x => lift (sliD x l h) st
    | none => .stuck
  | .rev a, st => (frz (evE G a st)).bind fun x st => match x with
    | .lst l => .ok (.o (.lst l.reverse)) st
    | .tup l => .ok (.f (.tup l.reverse)) st
    | .str z => if z.length ≤ line then .ok (.f (.str ⟨z.cps.reverse⟩)) st else .stuck
    | _ => .stuck
  | .call f es, st => (evEs G es st).bind fun ds st => (G.cal f ds st.hd).res st
  | .fn b es, st => (evPs G es st).bind fun ps st => match getAll ps st with
    | some ds => lift (fnD b ds) st
    | none => .stuck
  | .fx b es, st => (evPs G es st).bind fun ps st => match getAll ps st with
    | some ds => lift (fxD b ds) st
    | none => .stuck
  | .lrg tu es, st => (evEs G es st).bind fun ds st => lift (rgD tu ds) st
  | .mt m a es, st => (pend a (evE G a st) st).bind fun p st => match p.get st with
    | some x0 => if tyMt m x0 = true then (evPs G es st).bind fun ps st => match p.get st, getAll ps st with
        | some x, some xs => lift (mtD m x xs) st
        | _, _ => .stuck
      else .stuck
    | none => .stuck
  | .isi a c, st => (frz (evE G a st)).bind fun x st => (lift (isiD x c) st).bind fun b st => .ok (.f (.bl b)) st
  | .isi2 a c c', st => (frz (evE G a st)).bind fun x st => (lift (isiD x c) st).bind fun b st => if b = true then .ok (.f (.bl true)) st else (lift (isiD x c') st).bind fun b st => .ok (.f (.bl b)) st
  | .isE i c, st => match st.sl[i]? with
    | some (.sp (some c0)) => (lift (G.sub c0 c) st).bind fun b st => .ok (.f (.bl b)) st
    | _ => .stuck
  | .lc own tg k its ifs elt, st => (iterE k (evEs G its st)).bind fun ds st => match lcRun own tg (fun st => match ifs with | none => .ok true st | some z => tru (evE G z st)) (fun st => frz (evE G elt st)) ds [] st with
    | some (l, st') => .ok (.o (.lst l)) (unwipe st.sl st' own)
    | none => .stuck
  | .dc .., st => .stuck
  | .lc2 .., st => .stuck
  | .pop i, st => match st.sl[i]? with
    | some (.ow (.lst l)) => match l.getLast? with
      | some d => .ok (.f d) (st.put i (.ow (.lst l.dropLast)))
      | none => .stuck
    | _ => .stuck
  | .popa i a, st => if st.ownL i = true then (frz (evE G a st)).bind fun x st => match st.sl[i]?, x with
    | some (.ow (.lst l)), .int k => match seqIndex? k l.length with
      | some j => match l[j]? with
        | some d => if -(2 ^ 63) ≤ k ∧ k < 2 ^ 63 then .ok (.f d) (st.put i (.ow (.lst (l.eraseIdx j)))) else .stuck
        | none => .stuck
      | none => .stuck
    | _, _ => .stuck else .stuck
  | .act i, st => match st.sl[i]? with
    | some (.sp none) => (G.act st.hd).res st
    | _ => .stuck
  | .lam f cap a, st => match G.lam f (fun hd => (evE G a ⟨maskS (thawS st cap), hd⟩).out) st.hd with
    | .ok v hd => .ok v ⟨(thawS st cap).sl, hd⟩
    | _ => .stuck
def evEs (G : Gm) : List Z → S → Res (List D)
  | [], st => .ok [] st
  | z :: zs, st => (frz (evE G z st)).bind fun d st => (evEs G zs st).bind fun ds st => .ok (d :: ds) st
def evPs (G : Gm) : List Z → S → Res (List Pd)
  | [], st => .ok [] st
  | z :: zs, st => (pend z (evE G z st) st).bind fun d st => (evPs G zs st).bind fun ds st => .ok (d :: ds) st
end

/-! ### statements -/
inductive SR where
  | nx (st : S)
  | brk (st : S)
  | cnt (st : S)
  | ret (v : Rv) (st : S)
  | exc (x : Ex) (st : S)
  | stuck
def SR.seq (r : SR) (k : S → SR) : SR := match r with
  | .nx st => k st
  | r => r
def Res.s {α : Type} (r : Res α) (k : α → S → SR) : SR := match r with
  | .ok a st => k a st
  | .exc x st => .exc x st
  | .stuck => .stuck
@[simp] theorem SR.seq_nx (st : S) (k : S → SR) : (SR.nx st).seq k = k st := rfl
@[simp] theorem SR.seq_ret (v : Rv) (st : S) (k : S → SR) : (SR.ret v st).seq k = .ret v st := rfl
@[simp] theorem SR.seq_exc (v : Ex) (st : S) (k : S → SR) : (SR.exc v st).seq k = .exc v st := rfl
@[simp] theorem SR.seq_brk (st : S) (k : S → SR) : (SR.brk st).seq k = .brk st := rfl
@[simp] theorem SR.seq_cnt (st : S) (k : S → SR) : (SR.cnt st).seq k = .cnt st := rfl
@[simp] theorem SR.seq_stuck (k : S → SR) : (SR.stuck).seq k = .stuck := rfl
@[simp] theorem Res.s_ok {α : Type} (a : α) (st : S) (k : α → S → SR) : (Res.ok a st).s k = k a st := rfl
@[simp] theorem Res.s_exc {α : Type} (x : Ex) (st : S) (k : α → S → SR) : (Res.exc x st : Res α).s k = .exc x st := rfl
@[simp] theorem Res.s_stuck {α : Type} (k : α → S → SR) : (Res.stuck : Res α).s k = .stuck := rfl
def Rv.slot : Rv → Slot
  | .f d => .fz d
  | .o d => .ow d
@[simp] theorem Rv.slot_f (d : D) : (Rv.f d).slot = .fz d := rfl
@[simp] theorem Rv.slot_o (d : D) : (Rv.o d).slot = .ow d := rfl
/-- a store into what a name holds -/
def setD (st : S) (i : Nat) (ix v : D) : Option S := match st.sl[i]?, ix with
  | some (.ow (.lst l)), .int k => match ixN l.length k with
    | some j => some (st.put i (.ow (.lst (l.set j v))))
    | none => none
  | some (.fz .hand), .int k => match st.hd with
    | some l => match ixN l.length k with
      | some j => some ⟨st.sl, some (l.set j v)⟩
      | none => none
    | none => none
  | _, _ => none
def appD (st : S) (i : Nat) (v : D) : Option S := match st.sl[i]? with
  | some (.ow (.lst l)) => if l.length < line then some (st.put i (.ow (.lst (l ++ [v])))) else none
  | _ => none
def extD (st : S) (i : Nat) (v : D) : Option S := match st.sl[i]?, v with
  | some (.ow (.lst l)), .lst l' => if l.length + l'.length ≤ line then some (st.put i (.ow (.lst (l ++ l')))) else none
  | _, _ => none
def augD (o : Op) (x y : D) : Option D := match o, x, y with
  | .add, .int i, .int j => some (.int (i + j))
  | .sub, .int i, .int j => some (.int (i - j))
  | .add, .str a, .str b => if a.length + b.length ≤ line then some (.str (a ++ b)) else none
  | .mul, .int i, .int j => if small64 i || small64 j then some (.int (i * j)) else none
  | _, _, _ => none
def frRun (tg : Tg) (body : S → SR) : List D → S → SR
  | [], st => .nx st
  | d :: ds, st => match asg tg d st with
    | none => .stuck
    | some st1 => match body st1 with
      | .nx st2 => frRun tg body ds st2
      | .cnt st2 => frRun tg body ds st2
      | .brk st2 => .nx st2
      | r => r
def whRun (test : S → Res Bool) (body : S → SR) : Nat → S → SR
  | 0, _ => .stuck
  | n + 1, st => (test st).s fun b st => if b = true then match body st with
      | .nx st2 => whRun test body n st2
      | .cnt st2 => whRun test body n st2
      | .brk st2 => .nx st2
      | r => r
    else .nx st
def evRs (G : Gm) : List Z → S → Res (List Rv)
  | [], st => .ok [] st
  | z :: zs, st => (evE G z st).bind fun v st => (evRs G zs st).bind fun vs st => .ok (v :: vs) st
def putAll (st : S) : List Nat → List Rv → Option S
  | [], [] => some st
  | i :: l, v :: vs => putAll (st.put i v.slot) l vs
  | _, _ => none
def retZ (z : Z) (r : Res Rv) (st : S) : SR := match z with
  | .var i => match st.sl[i]? with
    | some (.ow d) => .ret (.o d) st
    | some (.fz d) => .ret (.f d) st
    | _ => .stuck
  | _ => r.s fun v st => .ret v st
mutual
def evS (G : Gm) : ZS → S → SR
  | .ex z, st => (evE G z st).s fun _ st => .nx st
  | .set i z, st => (evE G z st).s fun v st => .nx (st.put i v.slot)
  | .sett l z, st => (frz (evE G z st)).s fun d st => match asg (.tp l) d st with
    | some st => .nx st
    | none => .stuck
  | .par l zs, st => (evRs G zs st).s fun vs st => match putAll st l vs with
    | some st => .nx st
    | none => .stuck
  | .aug i o z, st => match st.get i with
    | some x => (frz (evE G z st)).s fun y st => match augD o x y with
      | some v => .nx (st.put i (.fz v))
      | none => .stuck
    | none => .stuck
  | .seti i ix z, st => (frz (evE G z st)).s fun v st => match st.get i with
    | some _ => (frz (evE G ix st)).s fun k st => match setD st i k v with
      | some st => .nx st
      | none => .stuck
    | none => .stuck
  | .ift c t e, st => (tru (evE G c st)).s fun b st => if b = true then evSs G t st else evSs G e st
  | .wh c b, st => whRun (fun st => tru (evE G c st)) (fun st => evSs G b st) G.loops st
  | .fr tg k its b, st => (iterE k (evEs G its st)).s fun ds st => frRun tg (fun st => evSs G b st) ds st
  | .ret z, st => retZ z (evE G z st) st
  | .retn, st => .ret (.f .non) st
  | .brk, st => .brk st
  | .cnt, st => .cnt st
  | .pass, st => .nx st
  | .app i z, st => if st.ownL i = true then (frz (evE G z st)).s fun v st => match appD st i v with
      | some st => .nx st
      | none => .stuck
    else .stuck
  | .ext i z, st => if st.ownL i = true then (frz (evE G z st)).s fun v st => match extD st i v with
      | some st => .nx st
      | none => .stuck
    else .stuck
  | .rai c es, st => (evEs G es st).s fun ds st => .exc ⟨c, ds⟩ st
  | .hnd i z, st => (evE G z st).s fun v st => match v, st.hd with
    | .o (.lst ds), none => .nx ⟨st.sl.set i (.fz .hand), some ds⟩
    | _, _ => .stuck
  | .try_ b c i s, st => match evSs G b st with
    | .exc x st1 => match G.sub x.c c with
      | some true => match evSs G s (st1.put i (.sp (some x.c))) with
        | .nx st2 => .nx (clrS st2 i)
        | .brk st2 => .brk (clrS st2 i)
        | .cnt st2 => .cnt (clrS st2 i)
        | .ret v st2 => .ret v (clrS st2 i)
        | _ => .stuck
      | some false => .exc x st1
      | none => .stuck
    | r => r
def evSs (G : Gm) : List ZS → S → SR
  | [], st => .nx st
  | s :: ss, st => (evS G s st).seq fun st => evSs G ss st
end

/-! ### defs -/
structure Df where
  name : Str
  n : Nat
  ps : Nat
  body : List ZS
def outOf : SR → Out
  | .nx st => .ok (.f .non) st.hd
  | .ret v st => .ok v st.hd
  | .exc x st => .exc x st.hd
  | _ => .stuck
def callD (G : Gm) (d : Df) (ds : List D) (hd : Option (List D)) : Out :=
  if ds.length = d.ps then outOf (evSs G d.body ⟨ds.map Slot.fz ++ List.replicate (d.n - ds.length) .un, hd⟩) else .stuck
def callL (G : Gm) (d : Df) (hd : Option (List D)) : Out :=
  if d.ps = 1 then outOf (evSs G d.body ⟨.sp none :: List.replicate (d.n - 1) .un, hd⟩) else .stuck
def noG : Option (List D) → Out := fun _ => .stuck
def gmN (T : List Df) (loops : Nat) (sub : Str → Str → Option Bool) : Nat → Gm
  | 0 => ⟨fun _ _ _ => .stuck, loops, sub, fun _ _ _ => .stuck, noG⟩
  | n + 1 => ⟨fun f ds hd => match T[f]? with
      | some d => callD (gmN T loops sub n) d ds hd
      | none => .stuck, loops, sub, fun f th hd => match T[f]? with
      | some d => callL { gmN T loops sub n with act := th } d hd
      | none => .stuck, noG⟩
end ZZ

/-! ZC: readings that say what the reckoner says. -/
namespace ZZ
open L2 PyProof.Rows PySem.Spec PySem

/-- from (w, H, st) to (w', H', st') at the slots σ -/
structure Step (σ : L2.St) (st : S) (w : Wd) (H : Hp) (w' : Wd) (H' : Hp) (st' : S) : Prop where
  le : w.le w'
  dom : ∀ a o, lv H a = some o → ∃ o', lv H' a = some o'
  keep : ∀ a o, lv H a = some o → Apart σ st a → w.ha ≠ some a → lv H' a = some o
  ap : ∀ a o, lv H a = some o → Apart σ st a → Apart σ st' a ∧ (w.F a = none → w'.F a = none)
  hfr : ∀ a, w'.ha = some a → w.ha = some a ∨ lv H a = none
theorem Step.nh {σ : L2.St} {st st' : S} {w w' : Wd} {H H' : Hp} (t : Step σ st w H w' H' st') {a : Addr} {o : HO} (h : lv H a = some o) (n : w.ha ≠ some a) : w'.ha ≠ some a := fun z => by
  rcases t.hfr a z with q | q
  · exact n q
  · rw [h] at q; cases q
theorem Step.refl (σ : L2.St) (st : S) (w : Wd) (H : Hp) : Step σ st w H w H st := ⟨Wd.le_refl w, fun _ o h => ⟨o, h⟩, fun _ _ h _ _ => h, fun _ _ _ h => ⟨h, id⟩, fun _ h => .inl h⟩
theorem Step.trans {σ : L2.St} {st st1 st2 : S} {w w1 w2 : Wd} {H H1 H2 : Hp} (a : Step σ st w H w1 H1 st1) (b : Step σ st1 w1 H1 w2 H2 st2) : Step σ st w H w2 H2 st2 :=
  ⟨Wd.le_trans a.le b.le, fun c o h => by
    obtain ⟨o', h'⟩ := a.dom c o h
    exact b.dom c o' h', fun c o h1 h2 h3 => by
    obtain ⟨q1, _⟩ := a.ap c o h1 h2
    exact b.keep c o (a.keep c o h1 h2 h3) q1 (a.nh h1 h3),
   fun c o h1 h2 => by
    obtain ⟨q1, q2⟩ := a.ap c o h1 h2
    obtain ⟨o', h'⟩ := a.dom c o h1
    obtain ⟨r1, r2⟩ := b.ap c o' h' q1
    exact ⟨r1, fun z => r2 (q2 z)⟩, fun c h => by
    rcases b.hfr c h with q | q
    · exact a.hfr c q
    · cases z : lv H c with
      | none => exact .inr rfl
      | some o =>
        obtain ⟨o', z'⟩ := a.dom c o z
        rw [q] at z'; cases z'⟩

/-- a value; an own one is new since H0 -/
def RvOk (K : Frag) {ix : Ix} (e : En ix) (w : Wd) (H : Hp) (σ : L2.St) (st : S) (H0 : Hp) (x : V) : Rv → Prop
  | .f d => Rep K w x d
  | .o d => ∃ p, x = .ref p ∧ Own K e w H p d ∧ Apart σ st p ∧ lv H0 p = none
/-- an exception in the air: by its class and what it keeps; told by the reader's own word -/
abbrev ExT := Frag → Value → Option Addr → Ex → Wd → Hp → Prop

structure Pm where
  X : ExT
  wx : WX
  ix : Ix
/-- .. where no exception may leave -/
abbrev Pm.dry (m : Pm) : Pm := ⟨m.X, fun _ _ _ _ => False, m.ix⟩

/-- the reckoner's end is met -/
def Pz {α : Type} (K : Frag) (m : Pm) (e : En m.ix) (σ : L2.St) (st : S) (w : Wd) (H : Hp) (r : Res α) (Q : α → S → Wd → Hp → Prop) : Prop := match r with
  | .ok a st' => ∀ w' H', Sim K e w' H' σ st' → Step σ st w H w' H' st' → Q a st' w' H'
  | .exc x st' => ∀ cls d w' H', Sim K e w' H' σ st' → Step σ st w H w' H' st' → m.X K cls d x w' H' → m.wx cls d σ H'
  | .stuck => False
section
variable {α β : Type} {K : Frag} {m : Pm} {e : En m.ix} {σ : L2.St} {st : S} {w : Wd} {H : Hp} {r : Res α} {Q Q' : α → S → Wd → Hp → Prop}
theorem Pz.mono (h : Pz K m e σ st w H r Q) (k : ∀ a st' w' H', Sim K e w' H' σ st' → Step σ st w H w' H' st' → Q a st' w' H' → Q' a st' w' H') : Pz K m e σ st w H r Q' := by
  cases r with
  | ok a st' => exact fun w' H' s t => k a st' w' H' s t (h w' H' s t)
  | exc x st' => exact h
  | stuck => exact h
theorem Pz.shift {st0 : S} {w0 : Wd} {H0 : Hp} (h : Pz K m e σ st0 w0 H0 r Q) (t : Step σ st0 w0 H0 w H st) : Pz K m e σ st w H r Q := by
  cases r with
  | ok a st' => exact fun w' H' s t' => h w' H' s (t.trans t')
  | exc x st' => exact fun cls d w' H' s t' => h cls d w' H' s (t.trans t')
  | stuck => exact h
theorem Pz.bind {k : α → S → Res β} {Q : β → S → Wd → Hp → Prop} (h : Pz K m e σ st w H (r.bind k) Q) : Pz K m e σ st w H r fun a st1 w1 H1 => Pz K m e σ st1 w1 H1 (k a st1) Q := by
  cases r with
  | ok a st' => exact fun w' H' s t => Pz.shift h t
  | exc x st' => exact h
  | stuck => exact h
theorem Pz.ok {a : α} (h : Pz K m e σ st w H (.ok a st) Q) (s : Sim K e w H σ st) : Q a st w H := h w H s (Step.refl ..)
theorem Pz.okT {a : α} {w' : Wd} {H' : Hp} {st' : S} (h : Pz K m e σ st w H (.ok a st') Q) (s : Sim K e w' H' σ st') (t : Step σ st w H w' H' st') : Q a st' w' H' := h w' H' s t
end

/-! ### readings -/
abbrev Ev (α : Type) := S → Res α
/-- an expression of the value f -/
def tz (K : Frag) (m : Pm) (f : Ev Rv) : TE := fun σ H Q => ∃ e w st, Sim K e w H σ st ∧ Pz K m e σ st w H (f st) fun v st' w' H' => ∀ x, RvOk K e w' H' σ st' H x v → Q x H'
/-- .. frozen -/
def tzF (K : Frag) (m : Pm) (f : Ev D) : TE := fun σ H Q => ∃ e w st, Sim K e w H σ st ∧ Pz K m e σ st w H (f st) fun d st' w' H' => ∀ x, Rep K w' x d → Q x H'
def PdOk (K : Frag) (w : Wd) (σ : L2.St) (x : V) : Pd → Prop
  | .val d => Rep K w x d
  | .slot i => σ[i]? = some (some x)
/-- .. as an operand -/
def tzP (K : Frag) (m : Pm) (f : Ev Pd) : TE := fun σ H Q => ∃ e w st, Sim K e w H σ st ∧ Pz K m e σ st w H (f st) fun p st' w' H' => ∀ x, PdOk K w' σ x p → Q x H'
/-- a test -/
def tzT (K : Frag) (m : Pm) (f : Ev Bool) : TT := fun σ H Q => ∃ e w st, Sim K e w H σ st ∧ Pz K m e σ st w H (f st) fun b st' w' H' => Q b H'
def tzA (K : Frag) (m : Pm) (f : Ev (List D)) : TA := fun σ H Q => ∃ e w st, Sim K e w H σ st ∧ Pz K m e σ st w H (f st) fun ds st' w' H' => ∀ xs, Reps K w' xs ds → Q xs H'
def PdsOk (K : Frag) (w : Wd) (σ : L2.St) : List V → List Pd → Prop := Paired fun x p => PdOk K w σ x p
def tzPs (K : Frag) (m : Pm) (f : Ev (List Pd)) : TA := fun σ H Q => ∃ e w st, Sim K e w H σ st ∧ Pz K m e σ st w H (f st) fun ps st' w' H' => ∀ xs, PdsOk K w' σ xs ps → Q xs H'
theorem _root_.L2.PE.zm {X : Cx} {e : Expr} {t t' : TE} (h : PE X e t) (k : ∀ σ H Q, t' σ H Q → t σ H Q) : PE X e t' := ⟨fun pins s σ H Q I q => h.run pins s σ H Q I (k σ H Q q)⟩
theorem _root_.L2.PT.zm {X : Cx} {e : Expr} {t t' : TT} (h : PT X e t) (k : ∀ σ H Q, t' σ H Q → t σ H Q) : PT X e t' := ⟨fun pins s σ H Q I q => h.run pins s σ H Q I (k σ H Q q)⟩
theorem _root_.L2.PA.zm {X : Cx} {e : List Expr} {t t' : TA} (h : PA X e t) (k : ∀ σ H Q, t' σ H Q → t σ H Q) : PA X e t' := ⟨fun pos pins s σ H Q I q => h.run pos pins s σ H Q I (k σ H Q q)⟩
theorem _root_.L2.PS.zm {X : Cx} {e : Stmt} {t t' : TS} (h : PS X e t) (k : ∀ D σ H, t' D σ H → t D σ H) : PS X e t' := ⟨fun pins s σ H D I q => h.run pins s σ H D I (k D σ H q)⟩
theorem _root_.L2.PSs.zm {X : Cx} {e : List Stmt} {t t' : TS} (h : PSs X e t) (k : ∀ D σ H, t' D σ H → t D σ H) : PSs X e t' := ⟨fun pins s σ H D I q => h.run pins s σ H D I (k D σ H q)⟩

section
variable {K : Frag} {ix : Ix} {e : En ix} {w : Wd} {H : Hp} {σ : L2.St} {st : S}
theorem Step.grow (h : Sim K e w H σ st) {p : Addr} {o : HO} (n : H p = none) : Step σ st w H (w.frz p o) (upd H p o) st :=
  ⟨Wd.le_frz (h.nf n), fun a u q => ⟨u, by rw [lv_ne (ne_of_none q (lv_none n))]; exact q⟩, fun a u q _ _ => by rw [lv_ne (ne_of_none q (lv_none n))]; exact q, fun a u q ap => ⟨ap, fun z => by
    show upd w.F p o a = none
    rw [upd_ne (ne_of_none q (lv_none n))]; exact z⟩, fun _ z => .inl z⟩
theorem Step.lay (h : Sim K e w H σ st) {p : Addr} {o : HO} (n : H p = none) : Step σ st w H w (upd H p o) st :=
  ⟨Wd.le_refl _, fun a u q => ⟨u, by rw [lv_ne (ne_of_none q (lv_none n))]; exact q⟩, fun a u q _ _ => by rw [lv_ne (ne_of_none q (lv_none n))]; exact q, fun a u q ap => ⟨ap, id⟩, fun _ z => .inl z⟩
/-- a new own thing -/
theorem own_new (h : Sim K e w H σ st) {p : Addr} {o : HO} {d : D} (n : H p = none) (at_ : OwnAt K w (upd H p o) p d) : RvOk K e w (upd H p o) σ st H (.ref p) (.o d) :=
  ⟨p, rfl, ⟨h.nf n, h.nb (lv_none n), h.nha n, at_⟩, h.apart_of_none (lv_none n), lv_none n⟩
theorem RvOk.since {H0 H1 : Hp} {x : V} {v : Rv} (r : RvOk K e w H σ st H1 x v) (dom : ∀ a o, lv H0 a = some o → ∃ o', lv H1 a = some o') : RvOk K e w H σ st H0 x v := by
  cases v with
  | f d => exact r
  | o d =>
    obtain ⟨p, e1, ow, ap, n⟩ := r
    refine ⟨p, e1, ow, ap, ?_⟩
    cases q : lv H0 p with
    | none => rfl
    | some o =>
      obtain ⟨o', z⟩ := dom p o q
      rw [n] at z; cases z
/-- a value is frozen -/
theorem RvOk.frz {st0 : S} {w0 : Wd} {H0 : Hp} (h : Sim K e w H σ st) (t : Step σ st0 w0 H0 w H st) {x : V} {v : Rv} (r : RvOk K e w H σ st H0 x v) : ∃ w', Sim K e w' H σ st ∧ Step σ st0 w0 H0 w' H st ∧ Rep K w' x v.d := by
  cases v with
  | f d => exact ⟨w, h, t, r⟩
  | o d =>
    obtain ⟨p, rfl, ow, ap, n⟩ := r
    obtain ⟨o, ho, nt⟩ := ow.at_.some
    refine ⟨w.frz p o, h.freeze ho nt ow.nf ow.nb ow.nh ap, ?_, ?_⟩
    · refine ⟨Wd.le_trans t.le (Wd.le_frz ow.nf), t.dom, t.keep, fun a u q ap' => ?_, t.hfr⟩
      obtain ⟨q1, q2⟩ := t.ap a u q ap'
      refine ⟨q1, fun z => ?_⟩
      show upd w.F p o a = none
      rw [upd_ne (ne_of_none q n)]
      exact q2 z
    · refine (ow.at_.mono (Wd.le_frz ow.nf) rfl).rep ?_
      show upd w.F p o p = H p
      rw [upd_same, ho]
/-- a name's own thing is frozen at its name -/
theorem Sim.thaw (h : Sim K e w H σ st) {i : Nat} {d : D} (hs : st.sl[i]? = some (.ow d)) : ∃ w' x, σ[i]? = some (some x) ∧ Sim K e w' H σ (st.put i (.fz d)) ∧ Step σ st w H w' H (st.put i (.fz d)) ∧ Rep K w' x d := by
  have q := h.sl i
  rw [hs] at q
  obtain ⟨p, e1, ow⟩ := q
  obtain ⟨o, ho, nt⟩ := ow.at_.some
  have lt : i < st.sl.length := (List.getElem?_eq_some_iff.mp hs).1
  have apart : Apart σ (st.put i (.fz d)) p := fun j d' hj hv => by
    by_cases hji : i = j
    · subst hji
      rw [show (st.put i (.fz d)).sl[i]? = some (.fz d) from List.getElem?_set_self lt] at hj
      cases hj
    · rw [show (st.put i (.fz d)).sl[j]? = st.sl[j]? from List.getElem?_set_ne hji] at hj
      exact hji (h.inj i j p d d' hs hj e1 hv)
  have rep : Rep K (w.frz p o) (.ref p) d := (ow.at_.mono (Wd.le_frz ow.nf) rfl).rep (by show upd w.F p o p = H p; rw [upd_same, ho])
  have s1 : Sim K e w H σ (st.put i .un) := by
    refine ⟨by rw [h.len]; exact (List.length_set ..).symm, fun j => ?_, fun j l q d1 d2 h1 h2 => ?_, h.sub, h.nt, h.fr, h.fsh, h.hand⟩
    · by_cases hji : i = j
      · subst hji
        rw [show (st.put i .un).sl[i]? = some .un from List.getElem?_set_self lt]
        trivial
      · rw [show (st.put i .un).sl[j]? = st.sl[j]? from List.getElem?_set_ne hji]
        exact h.sl j
    · have un : ∀ {j : Nat} {d' : D}, (st.put i .un).sl[j]? = some (.ow d') → st.sl[j]? = some (.ow d') := fun {j d'} z => by
        by_cases hji : i = j
        · subst hji
          rw [show (st.put i .un).sl[i]? = some .un from List.getElem?_set_self lt] at z
          cases z
        · rwa [show (st.put i .un).sl[j]? = st.sl[j]? from List.getElem?_set_ne hji] at z
      exact h.inj j l q d1 d2 (un h1) (un h2)
  have ap1 : Apart σ (st.put i .un) p := fun j d' hj hv => by
    by_cases hji : i = j
    · subst hji
      rw [show (st.put i .un).sl[i]? = some .un from List.getElem?_set_self lt] at hj
      cases hj
    · rw [show (st.put i .un).sl[j]? = st.sl[j]? from List.getElem?_set_ne hji] at hj
      exact hji (h.inj i j p d d' hs hj e1 hv)
  have s2 := s1.freeze ho nt ow.nf ow.nb ow.nh ap1
  have s3 : Sim K e (w.frz p o) H σ (st.put i (.fz d)) := by
    refine ⟨by rw [h.len]; exact (List.length_set ..).symm, fun j => ?_, fun j l q d1 d2 h1 h2 => ?_, s2.sub, s2.nt, s2.fr, s2.fsh, s2.hand⟩
    · by_cases hji : i = j
      · subst hji
        rw [show (st.put i (.fz d)).sl[i]? = some (.fz d) from List.getElem?_set_self lt]
        exact ⟨.ref p, e1, rep⟩
      · have z := s2.sl j
        rw [show (st.put i .un).sl[j]? = st.sl[j]? from List.getElem?_set_ne hji] at z
        rw [show (st.put i (.fz d)).sl[j]? = st.sl[j]? from List.getElem?_set_ne hji]
        exact z
    · have un : ∀ {j : Nat} {d' : D}, (st.put i (.fz d)).sl[j]? = some (.ow d') → st.sl[j]? = some (.ow d') := fun {j d'} z => by
        by_cases hji : i = j
        · subst hji
          rw [show (st.put i (.fz d)).sl[i]? = some (.fz d) from List.getElem?_set_self lt] at z
          cases z
        · rwa [show (st.put i (.fz d)).sl[j]? = st.sl[j]? from List.getElem?_set_ne hji] at z
      exact h.inj j l q d1 d2 (un h1) (un h2)
  refine ⟨w.frz p o, .ref p, e1, s3, ⟨Wd.le_frz ow.nf, fun a u q => ⟨u, q⟩, fun a u q _ _ => q, fun a u q ap' => ⟨?_, fun z => ?_⟩, fun _ z => .inl z⟩, rep⟩
  · intro j d' hj hv
    by_cases hji : i = j
    · subst hji
      rw [show (st.put i (.fz d)).sl[i]? = some (.fz d) from List.getElem?_set_self lt] at hj
      cases hj
    · rw [show (st.put i (.fz d)).sl[j]? = st.sl[j]? from List.getElem?_set_ne hji] at hj
      exact ap' j d' hj hv
  · show upd w.F p o a = none
    rw [upd_ne (fun q' => ap' i d hs (by rw [q']; exact e1))]
    exact z
end

/-! ### what is looked at -/
inductive View (K : Frag) (w : Wd) (H : Hp) : V → D → Prop
  | rep {x : V} {d : D} : Rep K w x d → View K w H x d
  | own {p : Addr} {d : D} : OwnAt K w H p d → View K w H (.ref p) d
theorem PdOk.mono {K : Frag} {w w' : Wd} {σ : L2.St} {x : V} {p : Pd} (h : PdOk K w σ x p) (l : w.le w') : PdOk K w' σ x p := by
  cases p with
  | val d => exact Rep.mono l h
  | slot i => exact h
theorem PdOk.view {K : Frag} {ix : Ix} {e : En ix} {w : Wd} {H : Hp} {σ : L2.St} {st : S} {x : V} {p : Pd} {d : D} (s : Sim K e w H σ st) (h : PdOk K w σ x p) (g : p.get st = some d) : View K w H x d := by
  cases p with
  | val d' => cases g; exact .rep h
  | slot i =>
    have q := s.sl i
    have h' : σ[i]? = some (some x) := h
    have g' : st.get i = some d := g
    unfold S.get at g'
    cases hs : st.sl[i]? with
    | none => rw [hs] at g'; cases g'
    | some sl =>
      rw [hs] at g' q
      cases sl with
      | un => cases g'
      | sp t => cases g'
      | fz d' =>
        obtain ⟨y, e1, r⟩ := q
        cases g'
        rw [h'] at e1; cases e1
        exact .rep r
      | ow d' =>
        obtain ⟨y, e1, o⟩ := q
        cases g'
        rw [h'] at e1; cases e1
        exact .own o.at_
section
variable {K : Frag} {w : Wd} {H : Hp} {x : V}
theorem View.lst {l : List D} (h : View K w H x (.lst l)) (sub : Same w.F H) : ∃ p xs, x = .ref p ∧ H p = some (.lst xs) ∧ Reps K w xs l := by
  cases h with
  | rep h => cases h with | lst a b => exact ⟨_, _, rfl, sub _ _ a, b⟩
  | own h => cases h with | lst a b => exact ⟨_, _, rfl, a, b⟩
theorem View.tup {l : List D} (h : View K w H x (.tup l)) (sub : Same w.F H) : ∃ p xs, x = .ref p ∧ SqT K H p xs ∧ Reps K w xs l := by
  cases h with
  | rep h => cases h with | tup a b => exact ⟨_, _, rfl, SameSqT sub a, b⟩
  | own h => cases h
theorem View.int {i : Int} (h : View K w H x (.int i)) : x = .int i := by
  cases h with
  | rep h => cases h; rfl
  | own h => cases h
theorem View.bl {i : Bool} (h : View K w H x (.bl i)) : x = .bl i := by
  cases h with
  | rep h => cases h; rfl
  | own h => cases h
theorem View.str {i : Str} (h : View K w H x (.str i)) : x = .str i := by
  cases h with
  | rep h => cases h; rfl
  | own h => cases h
theorem View.non (h : View K w H x .non) : x = .non := by
  cases h with
  | rep h => cases h; rfl
  | own h => cases h
theorem View.hand (h : View K w H x .hand) : ∃ p, x = .ref p ∧ w.ha = some p := by
  cases h with
  | rep h => cases h with | hand a => exact ⟨_, rfl, a⟩
  | own h => cases h
end
end ZZ

/-! ZD: operators, by values. -/
namespace ZZ
open L2 PyProof.Rows PySem.Spec PySem

/-- what is wanted behind an operation on values -/
def Wn (K : Frag) {ix : Ix} (e : En ix) (σ : L2.St) (st : S) (w : Wd) (H : Hp) (v : Rv) (Q : VK) : Prop :=
  ∀ x w' H', Sim K e w' H' σ st → Step σ st w H w' H' st → RvOk K e w' H' σ st H x v → Q x H'
section
variable {K : Frag} {ix : Ix} {e : En ix} {w : Wd} {H : Hp} {σ : L2.St} {st : S} {Q : VK}
theorem Wn.f {x : V} {d : D} (h : Wn K e σ st w H (.f d) Q) (s : Sim K e w H σ st) (r : Rep K w x d) : Q x H := h x w H s (Step.refl ..) r
theorem Wn.int {i : Int} (h : Wn K e σ st w H (.f (.int i)) Q) (s : Sim K e w H σ st) : Q (.int i) H := h.f s (.int i)
theorem Wn.bl {i : Bool} (h : Wn K e σ st w H (.f (.bl i)) Q) (s : Sim K e w H σ st) : Q (.bl i) H := h.f s (.bl i)
theorem Wn.str {i : Str} (h : Wn K e σ st w H (.f (.str i)) Q) (s : Sim K e w H σ st) : Q (.str i) H := h.f s (.str i)
/-- a new list -/
theorem Wn.lst {xs : List V} {ds : List D} (h : Wn K e σ st w H (.o (.lst ds)) Q) (s : Sim K e w H σ st) (r : Reps K w xs ds) {p : Addr} (n : H p = none) : Q (.ref p) (upd H p (.lst xs)) :=
  h _ w _ (s.lay n) (Step.lay s n) (own_new s n (.lst upd_same r))
/-- a new tuple -/
theorem Wn.tup {xs : List V} {ds : List D} (h : Wn K e σ st w H (.f (.tup ds)) Q) (s : Sim K e w H σ st) (r : Reps K w xs ds) {p : Addr} (n : H p = none) : Q (.ref p) (upd H p (.tup xs)) := by
  have g := s.grow (o := .tup xs) n (fun _ z => nomatch z)
  exact h _ _ _ g.1 (Step.grow s n) (.tup (.of upd_same) (r.mono g.2))
theorem Reps.replicate {xs : List V} {ds : List D} (r : Reps K w xs ds) : ∀ n : Nat, Reps K w (List.replicate n xs).flatten (List.replicate n ds).flatten
  | 0 => .nil
  | n + 1 => by
    (rw [List.replicate_succ, List.replicate_succ, List.flatten_cons, List.flatten_cons])
    exact r.append (Reps.replicate r n)
theorem line_eq : (line : Nat) = sizeLine := by rw [sizeLine_eq]; rfl
end

section
variable {X : Cx}
/-! ### text * int -/
def rMulS : R2 := fun x y H Q => ∃ z i, x = .str z ∧ y = .int i ∧ -(2 ^ 63) ≤ i ∧ i ≤ 1000 ∧ z.length ≤ 1000 ∧ Q (.str (strMul z i)) H
theorem fold_len : ∀ (l : List (Array Nat)) (a : Array Nat), (l.foldl (· ++ ·) a).size = a.size + (l.map (·.size)).sum
  | [], a => by simp
  | b :: l, a => by rw [List.foldl_cons, fold_len l (a ++ b), Array.size_append, List.map_cons, List.sum_cons]; omega
theorem op_mulS : OpR X (binaryOp .Mult) rMulS := by
  (intro pins s σ H x y v u Q I rx ry h)
  obtain ⟨z, i, rfl, rfl, h1, h2, h3, q⟩ := h
  obtain ⟨t, rfl⟩ := rx
  obtain ⟨t', rfl⟩ := ry
  have lim : z.length * i.toNat ≤ 1000000 := Nat.le_trans (Nat.mul_le_mul h3 (show i.toNat ≤ 1000 by omega)) (by decide)
  refine P.mul_str (by
    have a1 : ¬ i < -(2 ^ 63 : Int) := by omega
    have a2 : ¬ i ≥ (2 ^ 63 : Int) := by omega
    rw [decide_eq_false a1, decide_eq_false a2]; rfl) (fun a1 a2 => ?_) (fun a1 a2 => ?_) ?_
  · have b1 : (1000 : Int) ≤ (2 ^ 63 - 1) / i := by
      have hi : 0 < i := by omega
      exact Int.le_ediv_of_mul_le hi (by omega)
    omega
  · unfold Builtin.Str.tooLong
    rw [decide_eq_false_iff_not]
    have e : sizeLine = 16777216 := by rw [← line_eq]; rfl
    omega
  · unfold strMul at q
    by_cases a1 : i < 1
    · rw [if_pos a1] at q ⊢
      exact ⟨by decide, .str _, H, I.tok _, ⟨_, rfl⟩, q⟩
    · rw [if_neg a1] at q ⊢
      by_cases a2 : (i == 1 || z.length == 0) = true
      · rw [if_pos a2] at q ⊢
        (exact ⟨.str z, H, I, ⟨t, rfl⟩, q⟩)
      · rw [if_neg a2] at q ⊢
        refine ⟨?_, .str _, H, I.tok _, ⟨_, rfl⟩, q⟩
        show ((List.replicate i.toNat z.cps).foldl (· ++ ·) #[]).size ≤ sizeLine
        rw [fold_len, List.map_replicate, List.sum_replicate_nat]
        have e : sizeLine = 16777216 := by rw [← line_eq]; rfl
        have e2 : z.cps.size = z.length := rfl
        rw [e2, Nat.mul_comm]
        simp
        omega
/-! ### + -/
def rAddZ (K : Frag) : R2 := fun x y H Q =>
  (rI0 (fun i j => .int (i + j)) x y H Q ∨ (∃ i j, x = .str i ∧ y = .str j ∧ i.length + j.length ≤ sizeLine ∧ Q (.str (i ++ j)) H)) ∨ (rCat x y H Q ∨ rCatA K x y H Q)
theorem or_addZ : OpR X (binaryOp .Add) (rAddZ X.K) := (op_add.or op_add_str).or (op_cat.or op_catA)
def rMulZ (K : Frag) : R2 := fun x y H Q => ((rI CMul (fun i j => .int (i * j)) x y H Q ∨ rRep x y H Q) ∨ rRepT K x y H Q) ∨ rMulS x y H Q
theorem or_mulZ : OpR X (binaryOp .Mult) (rMulZ X.K) := ((op_mul.or op_rep).or op_repT).or op_mulS
def rOpZ (K : Frag) : Op → R2
  | .add => rAddZ K
  | .sub => rI0 fun i j => .int (i - j)
  | .mul => rMulZ K
  | .fdiv => rI CDivN fun i j => .int (i.fdiv j)
  | .mod => rI (fun _ j => j ≠ 0) fun i j => .int (i.fmod j)
  | .pow => rI CPow fun i j => .int (i ^ j.toNat)
def opOf : Op → Operator
  | .add => .Add
  | .sub => .Sub
  | .mul => .Mult
  | .fdiv => .FloorDiv
  | .mod => .Mod
  | .pow => .Pow
theorem or_opZ : ∀ o : Op, OpR X (binaryOp (opOf o)) (rOpZ X.K o)
  | .add => or_addZ
  | .sub => op_sub
  | .mul => or_mulZ
  | .fdiv => op_fdivN
  | .mod => op_modN
  | .pow => op_pow
end
section
variable {K : Frag} {ix : Ix} {e : En ix} {w : Wd} {H : Hp} {σ : L2.St} {st : S} {Q : VK} {x y : V} {dx dy : D} {v : Rv}
theorem bin_ok {o : Op} (s : Sim K e w H σ st) (hx : View K w H x dx) (hy : View K w H y dy) (h : binD o dx dy = some v) (q : Wn K e σ st w H v Q) : rOpZ K o x y H Q := by
  unfold binD at h
  split at h
  · cases h
    rw [hx.int, hy.int]
    exact .inl (.inl ⟨_, _, rfl, rfl, q.int s⟩)
  · split at h
    · rename_i hl
      cases h
      rw [hx.str, hy.str]
      exact .inl (.inr ⟨_, _, rfl, rfl, by rw [← line_eq]; exact hl, q.str s⟩)
    · cases h
  · split at h
    · rename_i hl
      cases h
      obtain ⟨p, xs, rfl, hp, rx⟩ := hx.lst s.sub
      obtain ⟨p', ys, rfl, hp', ry⟩ := hy.lst s.sub
      exact .inr (.inl ⟨p, p', xs, ys, rfl, rfl, hp, hp', by rw [← line_eq, rx.length, ry.length]; exact hl, fun a n => q.lst s (rx.append ry) n⟩)
    · cases h
  · split at h
    · rename_i hl
      cases h
      obtain ⟨p, xs, rfl, hp, rx⟩ := hx.tup s.sub
      obtain ⟨p', ys, rfl, hp', ry⟩ := hy.tup s.sub
      refine .inr (.inr ⟨p, p', xs, ys, rfl, rfl, hp, hp', by rw [← line_eq, rx.length, ry.length]; exact hl, ?_⟩)
      have fx : ∃ r, hx = .rep r := by cases hx with | rep r => exact ⟨r, rfl⟩ | own r => cases r
      have fy : ∃ r, hy = .rep r := by cases hy with | rep r => exact ⟨r, rfl⟩ | own r => cases r
      obtain ⟨fx, _⟩ := fx
      obtain ⟨fy, _⟩ := fy
      refine ⟨fun ex => ?_, fun ex ey => ?_, fun ex ey a n => q.tup s (rx.append ry) n⟩
      · subst ex
        cases rx
        exact q.f s (by simpa using fy)
      · subst ey
        cases ry
        exact q.f s (by simpa using fx)
    · cases h
  · cases h
    rw [hx.int, hy.int]
    exact ⟨_, _, rfl, rfl, q.int s⟩
  · split at h
    · rename_i hl
      cases h
      rw [hx.int, hy.int]
      refine .inl (.inl (.inl ⟨_, _, rfl, rfl, ?_, q.int s⟩))
      rw [Bool.or_eq_true, small64_iff, small64_iff] at hl
      simpa [CMul] using hl
    · cases h
  · split at h
    · rename_i hl
      cases h
      obtain ⟨p, xs, rfl, hp, rx⟩ := hx.lst s.sub
      rw [hy.int]
      exact .inl (.inl (.inr ⟨p, _, xs, rfl, rfl, hp, hl.2.1, hl.2.2, by rw [← line_eq, rx.length]; exact hl.1, fun a n => q.lst s (rx.replicate _) n⟩))
    · cases h
  · split at h
    · rename_i hl
      cases h
      obtain ⟨p, xs, rfl, hp, rx⟩ := hx.tup s.sub
      rw [hy.int]
      refine .inl (.inr ⟨p, _, xs, rfl, rfl, hp, fun ex => ?_, hl.2.1, hl.2.2.1, by rw [rx.length]; exact hl.2.2.2, fun a n => q.tup s (rx.replicate _) n⟩)
      subst ex
      cases rx
      exact hl.1 rfl
    · cases h
  · split at h
    · rename_i hl
      cases h
      rw [hx.str, hy.int]
      exact .inr ⟨_, _, rfl, rfl, hl.1, hl.2.1, hl.2.2, q.str s⟩
    · cases h
  · split at h
    · rename_i hl
      cases h
      rw [hx.int, hy.int]
      exact ⟨_, _, rfl, rfl, hl, q.int s⟩
    · cases h
  · split at h
    · rename_i hl
      cases h
      rw [hx.int, hy.int]
      exact ⟨_, _, rfl, rfl, hl, q.int s⟩
    · cases h
  · split at h
    · rename_i hl
      cases h
      rw [hx.int, hy.int]
      exact ⟨_, _, rfl, rfl, hl, q.int s⟩
    · cases h
  · cases h
end

/-! ### comparisons -/
mutual
theorem Rep.dp {K : Frag} {w : Wd} {H : Hp} (sub : Same w.F H) : ∀ {x : V} {d : D} {p : PyData}, Rep K w x d → d.pd = some p → Dp K H x p
  | _, _, _, .non, h => by cases h; exact .non
  | _, _, _, .bl b, h => by cases h; exact .bl b
  | _, _, _, .int b, h => by cases h; exact .int b
  | _, _, _, .str b, h => by cases h; exact .str b
  | _, _, _, .tup a r, h => by
    unfold D.pd at h
    obtain ⟨ps, h1, h2⟩ := Option.map_eq_some_iff.mp h
    subst h2
    exact .tup (SameSqT sub a) (Reps.dp sub r h1)
  | _, _, _, .lst a r, h => by
    unfold D.pd at h
    obtain ⟨ps, h1, h2⟩ := Option.map_eq_some_iff.mp h
    subst h2
    exact .lst (.of (sub _ _ a)) (Reps.dp sub r h1)
  | _, _, _, .dK a r, h => by cases h
  | _, _, _, .dT a r, h => by cases h
  | _, _, _, .hand a, h => by cases h
  | _, _, _, .scr a, h => by cases h
theorem Reps.dp {K : Frag} {w : Wd} {H : Hp} (sub : Same w.F H) : ∀ {x : List V} {d : List D} {p : List PyData}, Reps K w x d → D.pds d = some p → DpAll K H x p
  | _, _, _, .nil, h => (by cases h; exact .nil)
  | _, _, _, .cons a r, h => by
    unfold D.pds at h
    split at h
    · rename_i h1 h2
      cases h
      exact .cons (Rep.dp sub a h1) (Reps.dp sub r h2)
    · cases h
end
theorem View.dp {K : Frag} {w : Wd} {H : Hp} {x : V} {d : D} {p : PyData} (sub : Same w.F H) (h : View K w H x d) (e : d.pd = some p) : Dp K H x p := by
  cases h with
  | rep h => exact h.dp sub e
  | own h =>
    cases h with
    | lst a r =>
      unfold D.pd at e
      obtain ⟨ps, h1, h2⟩ := Option.map_eq_some_iff.mp e
      subst h2
      exact .lst (.of a) (r.dp sub h1)
    | dK a r => cases e
    | dT a r => cases e

def copOf : Cop → CmpOp
  | .eq => .Eq
  | .ne => .NotEq
  | .lt => .Lt
  | .le => .LtE
  | .gt => .Gt
  | .ge => .GtE
  | .is => .Is
  | .isn => .IsNot
  | .in_ => .In
  | .nin => .NotIn
def rCmpZ (K : Frag) : Cop → R2
  | .eq => fun x y H Q => rEq x y H Q ∨ rEqD K x y H Q
  | .ne => fun x y H Q => rNe x y H Q ∨ rNeD K x y H Q
  | .lt => fun x y H Q => (rI0 (fun i j => .bl (decide (i < j))) x y H Q ∨ (∃ i j, x = .str i ∧ y = .str j ∧ Q (.bl (decide (i.cps.toList < j.cps.toList))) H)) ∨ rLtT K x y H Q
  | .le => rI0 fun i j => .bl (decide (i ≤ j))
  | .gt => rI0 fun i j => .bl (decide (j < i))
  | .ge => rI0 fun i j => .bl (decide (j ≤ i))
  | .is => fun x y H Q => (y = .non ∧ Q (.bl (decide (x = .non))) H) ∨ (∃ a b, x = .bl a ∧ y = .bl b ∧ Q (.bl (decide (a = b))) H)
  | .isn => fun x y H Q => (y = .non ∧ Q (.bl (!decide (x = .non))) H) ∨ (∃ a b, x = .bl a ∧ y = .bl b ∧ Q (.bl (!decide (a = b))) H)
  | .in_ => fun x y H Q => ((∃ i j, x = .str i ∧ y = .str j ∧ Q (.bl (!(Builtin.Str.occurrences j i 0 j.length 1).isEmpty)) H) ∨ rIn K false x y H Q) ∨ rInD K x y H Q
  | .nin => fun x y H Q => ((∃ i j, x = .str i ∧ y = .str j ∧ Q (.bl (!(!(Builtin.Str.occurrences j i 0 j.length 1).isEmpty))) H) ∨ rIn K true x y H Q) ∨ rNotInD K x y H Q
theorem or_cmpZ {X : Cx} (hu : X.A.units + 65 < cLine) : ∀ o : Cop, OpR X (compareOp (copOf o)) (rCmpZ X.K o)
  | .eq => op_eq.or (op_eqD (by omega))
  | .ne => op_ne.or (op_neD (by omega))
  | .lt => (op_lt.or op_lt_str).or (op_ltT (by omega))
  | .le => op_le
  | .gt => op_gt
  | .ge => op_ge
  | .is => op_isN.or op_is_bl
  | .isn => op_notN.or op_isnot_bl
  | .in_ => (op_in_str.or op_in_seq).or (op_inD hu)
  | .nin => (op_notIn_str.or op_notIn_seq).or (op_notInD hu)

section
variable {K : Frag} {w : Wd} {H : Hp} {Q : VK} {x y : V} {dx dy : D}
theorem eq_ok (sub : Same w.F H) (hx : View K w H x dx) (hy : View K w H y dy) {b : Bool} (h : eqD dx dy = some b) (q : Q (.bl b) H) : rEq x y H Q ∨ rEqD K x y H Q := by
  unfold eqD at h
  split at h
  · cases h
    rw [hx.str, hy.str]
    refine .inl ⟨rfl, ?_⟩
    simpa using q
  · split at h
    · rename_i ex ey
      split at h
      · rename_i hs
        cases h
        exact .inr ⟨_, _, hx.dp sub ex, hy.dp sub ey, hs.1, hs.2, q⟩
      · cases h
    · cases h
theorem ne_ok (sub : Same w.F H) (hx : View K w H x dx) (hy : View K w H y dy) {b : Bool} (h : eqD dx dy = some b) (q : Q (.bl (!b)) H) : rNe x y H Q ∨ rNeD K x y H Q := by
  unfold eqD at h
  split at h
  · cases h
    rw [hx.str, hy.str]
    refine .inl ⟨rfl, ?_⟩
    simpa using q
  · split at h
    · rename_i ex ey
      split at h
      · rename_i hs
        cases h
        exact .inr ⟨_, _, hx.dp sub ex, hy.dp sub ey, hs.1, hs.2, q⟩
      · cases h
    · cases h
theorem ints_of : ∀ {xs : List V} {ds : List D} {ns : List Int}, Reps K w xs ds → D.ints ds = some ns → xs = ns.map V.int ∧ ds = ns.map D.int
  | _, _, _, .nil, h => by cases h; exact ⟨rfl, rfl⟩
  | _, d :: ds, _, .cons a r, h => by
    cases d <;> try (simp [D.ints] at h; done)
    unfold D.ints at h
    obtain ⟨ms, h1, h2⟩ := Option.map_eq_some_iff.mp h
    subst h2
    obtain ⟨e1, e2⟩ := ints_of r h1
    cases a
    subst e1 e2
    exact ⟨rfl, rfl⟩
theorem bls_of : ∀ {xs : List V} {ds : List D} {ns : List Bool}, Reps K w xs ds → D.bls ds = some ns → xs = ns.map V.bl ∧ ds = ns.map D.bl
  | _, _, _, .nil, h => by cases h; exact ⟨rfl, rfl⟩
  | _, d :: ds, _, .cons a r, h => by
    cases d <;> try (simp [D.bls] at h; done)
    unfold D.bls at h
    obtain ⟨ms, h1, h2⟩ := Option.map_eq_some_iff.mp h
    subst h2
    obtain ⟨e1, e2⟩ := bls_of r h1
    cases a
    subst e1 e2
    exact ⟨rfl, rfl⟩
theorem flat_of (h : Rep K w x dx) (f : dx.flat = true) : flatV x = true := by cases h <;> first | rfl | cases f
theorem flats_of : ∀ {xs : List V} {ds : List D}, Reps K w xs ds → ds.all D.flat = true → xs.all flatV = true
  | _, _, .nil, _ => rfl
  | _, _, .cons a r, h => by
    rw [List.all_cons, Bool.and_eq_true] at h ⊢
    exact ⟨flat_of a h.1, flats_of r h.2⟩
theorem eqF_of (hx : Rep K w x dx) (hy : Rep K w y dy) (f : dx.flat = true) (g : dy.flat = true) : eqV x y = eqF dx dy := by
  cases hx <;> first | exact Bool.noConfusion f | (cases hy <;> first | exact Bool.noConfusion g | rfl)
theorem inF_of (hx : Rep K w x dx) (f : dx.flat = true) : ∀ {xs : List V} {ds : List D}, Reps K w xs ds → ds.all D.flat = true → inV x xs = inF dx ds
  | _, _, .nil, _ => rfl
  | _, _, .cons a r, h => by
    (rw [List.all_cons, Bool.and_eq_true] at h)
    have := inF_of hx f r h.2
    unfold inV inF at this ⊢
    rw [List.any_cons, List.any_cons, this, eqF_of a hx h.1 f]
theorem View.flat (h : View K w H x dx) (f : dx.flat = true) : Rep K w x dx := by
  cases h with
  | rep h => exact h
  | own h => cases h <;> cases f
theorem in_ok (sub : Same w.F H) (hx : View K w H x dx) (hy : View K w H y dy) {b : Bool} (h : inD dx dy = some b) (q : Q (.bl b) H) : rCmpZ K .in_ x y H Q := by
  unfold inD at h
  split at h
  · split at h
    · cases h
      rw [hx.str, hy.str]
      exact .inl (.inl ⟨_, _, rfl, rfl, q⟩)
    · cases h
  · split at h
    · rename_i hf
      rw [Bool.and_eq_true] at hf
      cases h
      obtain ⟨p, xs, rfl, hp, r⟩ := hy.lst sub
      refine .inl (.inr ⟨p, xs, rfl, .inl (.of hp), flat_of (hx.flat hf.1) hf.1, flats_of r hf.2, ?_⟩)
      rw [if_neg Bool.false_ne_true, inF_of (hx.flat hf.1) hf.1 r hf.2]
      exact q
    · unfold inPD at h
      split at h
      · rename_i ex ey
        split at h
        · rename_i hs
          cases h
          refine .inr ⟨_, _, hx.dp sub ex, hy.dp sub (p := .list _) ?_, hs.1, hs.2, q⟩
          unfold D.pd
          rw [ey]; rfl
        · cases h
      · cases h
  · split at h
    · rename_i hf
      rw [Bool.and_eq_true] at hf
      cases h
      obtain ⟨p, xs, rfl, hp, r⟩ := hy.tup sub
      refine .inl (.inr ⟨p, xs, rfl, .inr hp, flat_of (hx.flat hf.1) hf.1, flats_of r hf.2, ?_⟩)
      rw [if_neg Bool.false_ne_true, inF_of (hx.flat hf.1) hf.1 r hf.2]
      exact q
    · cases h
  · cases h
theorem nin_ok (sub : Same w.F H) (hx : View K w H x dx) (hy : View K w H y dy) {b : Bool} (h : inD dx dy = some b) (q : Q (.bl (!b)) H) : rCmpZ K .nin x y H Q := by
  unfold inD at h
  split at h
  · split at h
    · cases h
      rw [hx.str, hy.str]
      exact .inl (.inl ⟨_, _, rfl, rfl, q⟩)
    · cases h
  · split at h
    · rename_i hf
      rw [Bool.and_eq_true] at hf
      cases h
      obtain ⟨p, xs, rfl, hp, r⟩ := hy.lst sub
      refine .inl (.inr ⟨p, xs, rfl, .inl (.of hp), flat_of (hx.flat hf.1) hf.1, flats_of r hf.2, ?_⟩)
      rw [if_pos rfl, inF_of (hx.flat hf.1) hf.1 r hf.2]
      exact q
    · unfold inPD at h
      split at h
      · rename_i ex ey
        split at h
        · rename_i hs
          cases h
          refine .inr ⟨_, _, hx.dp sub ex, hy.dp sub (p := .list _) ?_, hs.1, hs.2, q⟩
          unfold D.pd
          rw [ey]; rfl
        · cases h
      · cases h
  · split at h
    · rename_i hf
      rw [Bool.and_eq_true] at hf
      cases h
      obtain ⟨p, xs, rfl, hp, r⟩ := hy.tup sub
      refine .inl (.inr ⟨p, xs, rfl, .inr hp, flat_of (hx.flat hf.1) hf.1, flats_of r hf.2, ?_⟩)
      rw [if_pos rfl, inF_of (hx.flat hf.1) hf.1 r hf.2]
      exact q
    · cases h
  · cases h
theorem is_ok (hx : View K w H x dx) (hy : View K w H y dy) {b : Bool} (h : isD dx dy = some b) : (y = .non ∧ b = decide (x = .non)) ∨ (∃ a c, x = .bl a ∧ y = .bl c ∧ b = decide (a = c)) := by
  unfold isD at h
  split at h
  · cases h
    refine .inl ⟨hy.non, ?_⟩
    cases hx with
    | rep r => cases r <;> rfl
    | own r => cases r <;> rfl
  · split at h
    · cases h
      exact .inr ⟨_, _, hx.bl, hy.bl, rfl⟩
    · cases h
  · cases h
theorem cmp_ok {o : Cop} (sub : Same w.F H) (hx : View K w H x dx) (hy : View K w H y dy) {b : Bool} (h : cmpD o dx dy = some b) (q : Q (.bl b) H) : rCmpZ K o x y H Q := by
  cases o with
  | eq => exact eq_ok sub hx hy h q
  | ne =>
    obtain ⟨c, h1, h2⟩ := Option.map_eq_some_iff.mp h
    subst h2
    exact ne_ok sub hx hy h1 q
  | lt =>
    unfold cmpD at h
    unfold ltD at h
    simp only at h
    split at h
    · cases h
      rw [hx.int, hy.int]
      exact .inl (.inl ⟨_, _, rfl, rfl, q⟩)
    · cases h
      rw [hx.str, hy.str]
      exact .inl (.inr ⟨_, _, rfl, rfl, q⟩)
    · split at h
      · rename_i h1 h2
        cases h
        obtain ⟨p, xs, rfl, hp, rx⟩ := hx.tup sub
        obtain ⟨p', ys, rfl, hp', ry⟩ := hy.tup sub
        have e1 := (ints_of rx h1).1
        have e2 := (ints_of ry h2).1
        subst e1 e2
        exact .inr ⟨_, _, _, _, rfl, rfl, hp, hp', q⟩
      · cases h
    · cases h
  | le =>
    unfold cmpD at h
    simp only at h
    split at h
    · cases h
      rw [hx.int, hy.int]
      exact ⟨_, _, rfl, rfl, q⟩
    · cases h
  | gt =>
    unfold cmpD at h
    simp only at h
    split at h
    · cases h
      rw [hx.int, hy.int]
      exact ⟨_, _, rfl, rfl, q⟩
    · cases h
  | ge =>
    unfold cmpD at h
    simp only at h
    split at h
    · cases h
      rw [hx.int, hy.int]
      exact ⟨_, _, rfl, rfl, q⟩
    · cases h
  | is =>
    rcases is_ok hx hy h with ⟨h1, h2⟩ | ⟨a, c, h1, h2, h3⟩
    · subst h2; exact .inl ⟨h1, q⟩
    · subst h3; exact .inr ⟨a, c, h1, h2, q⟩
  | isn =>
    obtain ⟨c, h1, h2⟩ := Option.map_eq_some_iff.mp h
    subst h2
    rcases is_ok hx hy h1 with ⟨k1, k2⟩ | ⟨a, c, k1, k2, k3⟩
    · subst k2; exact .inl ⟨k1, q⟩
    · subst k3; exact .inr ⟨a, c, k1, k2, q⟩
  | in_ => exact in_ok sub hx hy h q
  | nin =>
    obtain ⟨c, h1, h2⟩ := Option.map_eq_some_iff.mp h
    subst h2
    exact nin_ok sub hx hy h1 q
/-- truth -/
theorem tru_of (sub : Same w.F H) (hx : View K w H x dx) {b : Bool} (h : truD dx = some b) : TruV K x H b := by
  cases dx with
  | non => cases h; rw [hx.non]; rfl
  | bl c => cases h; rw [hx.bl]; rfl
  | int i => cases h; rw [hx.int]; rfl
  | str z =>
    have h : (if z.length ≤ line then some ((z.length : Int) != 0) else none) = some b := h
    split at h
    · rename_i hl
      cases h; rw [hx.str]; exact ⟨by rw [← line_eq]; exact hl, rfl⟩
    · cases h
  | tup l =>
    cases h
    obtain ⟨p, xs, rfl, hp, rx⟩ := hx.tup sub
    refine .inr (.inl ⟨xs, hp, ?_⟩)
    cases rx <;> rfl
  | lst l =>
    cases h
    obtain ⟨p, xs, rfl, hp, rx⟩ := hx.lst sub
    refine .inl ⟨xs, .of hp, ?_⟩
    cases rx <;> rfl
  | dct l => cases h
  | hand => cases h
  | scr _ => cases h
end
end ZZ

/-! ZE: built-in functions, subscripts, slices, isinstance, by values. -/
namespace ZZ
open L2 PyProof.Rows PySem.Spec PySem

inductive Views (K : Frag) (w : Wd) (H : Hp) : List V → List D → Prop
  | nil : Views K w H [] []
  | cons {x : V} {xs : List V} {d : D} {ds : List D} : View K w H x d → Views K w H xs ds → Views K w H (x :: xs) (d :: ds)
theorem PdsOk.views {K : Frag} {ix : Ix} {e : En ix} {w : Wd} {H : Hp} {σ : L2.St} {st : S} (s : Sim K e w H σ st) : ∀ {xs : List V} {ps : List Pd} {ds : List D}, PdsOk K w σ xs ps → getAll ps st = some ds → Views K w H xs ds
  | _, _, _, .nil, h => (by cases h; exact .nil)
  | _, p :: ps, _, .cons a r, h => by
    unfold getAll at h
    split at h
    · rename_i h1 h2
      cases h
      exact .cons (PdOk.view s a h1) (PdsOk.views s r h2)
    · cases h
theorem PdsOk.mono {K : Frag} {w w' : Wd} {σ : L2.St} (l : w.le w') : ∀ {xs : List V} {ps : List Pd}, PdsOk K w σ xs ps → PdsOk K w' σ xs ps
  | _, _, .nil => .nil
  | _, _, .cons a r => .cons (PdOk.mono a l) (PdsOk.mono l r)

/-- sum of a list, of a tuple -/
def rSumS (K : Frag) : List V → Hp → VK → Prop := fun vs H Q => ∃ (a : Addr) (ns : List Int), vs = [V.ref a] ∧ (SqL K H a (ns.map V.int) ∨ SqT K H a (ns.map V.int)) ∧ Q (.int ns.sum) H
theorem sum_tup {prog : Program} {w : World} {A : Around} {E : Value → Shared → Prop} {s : Shared} {l : Addr} {its : List Value} {ns : List Int} {Q : Value → Shared → Prop} (hh : A.handled = none) (ht : s.heap.IsTuple l its.toArray) (hi : IntsAre its ns)
    (h : ∀ g tk u, (∀ b o, s.heap.get? b = some o → g.get? b = some o) → Q (.int ns.sum u) { s with heap := g, toks := tk }) : wpAny (model prog w) A (call (.builtin "sum") [.ref l]) Q E s := by
  (obtain ⟨xs, e⟩ := hi.allInts.items)
  (have hn : numsOf (intItems xs).toList = ns := by rw [← e]; exact hi.numsOf)
  rw [nums_intItems] at hn
  rw [e] at ht
  have hlt : l < s.heap.objs.size := by obtain ⟨_, z, _⟩ := ht; exact Heap.lt_size z
  refine call_sum_walkG (wpAny_pyIter_tuple ht ?_)
  refine ⟨_, _, _, _, _, _, numAt xs, rfl, Walks.tuple (A := A.in1) hh s.heap.objs.size l (Nat.ne_of_lt hlt) (intItems xs), ⟨⟨_, Heap.get?_push_size _ rfl, rfl, rfl⟩, ht.push _⟩, fun b hb => ?_, (fun _ _ => intItems_at), fun h' tk t' hk => ?_⟩
  · (show b < (s.heap.push _).objs.size)
    rw [Heap.size_push]
    (rcases List.mem_cons.mp hb with rfl | hb)
    · exact Nat.lt_succ_self _
    · (rcases List.mem_cons.mp hb with rfl | hb)
      · exact Nat.lt_succ_of_lt hlt
      · cases hb
  · have q := h h' tk t' fun b o hb => hk b o (fun z => by
      have z : b = s.heap.objs.size := by simpa using z
      rw [z] at hb
      exact absurd (Heap.lt_size hb) (Nat.lt_irrefl _)) (Heap.get?_push_of_some _ hb)
    rw [show (intItems xs).size = xs.size from by simp [intItems], preSum_eq, List.take_of_length_le (by simp), hn]
    exact q
theorem cr_sumS {X : Cx} (hc : X.calm = true) : CallR X (.builtin "sum") (rSumS X.K) := by
  (intro pins s σ H vs us Q I r h)
  (obtain ⟨a, ns, rfl, hs, q⟩ := h)
  rcases hs with hs | hs
  · exact cr_sum hc pins s σ H _ us Q I r ⟨a, ns, rfl, hs, q⟩
  · obtain ⟨its, rv, hl, _⟩ := I.tuple hs
    rw [Vals.ref1 r]
    exact sum_tup (I.ok.hd hc) hl rv.ints fun h' tk t' hk => ⟨.int _, H, I.kept hk, ⟨_, rfl⟩, q⟩
def rFn (K : Frag) : Fn → List V → Hp → VK → Prop
  | .len => fun xs H Q => ∃ x n, xs = [x] ∧ LenV K x H n ∧ Q (.int n) H
  | .all => rAll K
  | .any => rAny K
  | .sum => rSumS K
  | .min => rMin K
  | .max => rMax K
  | .min2 => fun xs H Q => ∃ i j, xs = [.int i, .int j] ∧ Q (.int (if j < i then j else i)) H
  | .max2 => fun xs H Q => ∃ i j, xs = [.int i, .int j] ∧ Q (.int (if j > i then j else i)) H
  | .abs => fun xs H Q => ∃ i, xs = [.int i] ∧ Q (.int (if i < 0 then -i else i)) H
  | .int => fun xs H Q => (∃ i, xs = [.int i] ∧ Q (.int i) H) ∨ ∃ k, xs = [.bl k] ∧ Q (.int (if k then 1 else 0)) H
  | .bool => fun xs H Q => (∃ i, xs = [.int i] ∧ Q (.bl (i != 0)) H) ∨ ∃ k, xs = [.bl k] ∧ Q (.bl k) H
  | .tuple => fun xs H Q => ∃ p ys, xs = [.ref p] ∧ ((SqL K H p ys ∧ ∀ l, H l = none → Q (.ref l) (upd H l (.tup ys))) ∨ (SqT K H p ys ∧ Q (.ref p) H))
  | .list => fun xs H Q => ∃ p ys, xs = [.ref p] ∧ (SqL K H p ys ∨ SqT K H p ys) ∧ ∀ l, H l = none → Q (.ref l) (upd H l (.lst ys))
  | .sorted => rSortedI K
  | _ => fun _ _ _ => False
def fnVal : Fn → Value
  | .len => .builtin "len"
  | .all => .builtin "all"
  | .any => .builtin "any"
  | .sum => .builtin "sum"
  | .min => .builtin "min"
  | .max => .builtin "max"
  | .min2 => .builtin "min"
  | .max2 => .builtin "max"
  | .abs => .builtin "abs"
  | .int => .type "int"
  | .bool => .type "bool"
  | .tuple => .type "tuple"
  | .list => .type "list"
  | .sorted => .builtin "sorted"
  | _ => .builtin "len"
theorem cr_fn {X : Cx} (hc : X.calm = true) (b : Fn) : CallR X (fnVal b) (rFn X.K b) := by
  cases b with
  | len => exact call_len
  | all => exact cr_all hc
  | any => exact cr_any hc
  | sum => exact cr_sumS hc
  | min => exact cr_min hc
  | max => exact cr_max hc
  | min2 => exact call_min2 hc
  | max2 => exact call_max2 hc
  | abs => exact call_abs
  | int => exact call_int1
  | bool => exact call_bool1
  | tuple => exact call_tuple_of
  | list => exact call_list_of
  | sorted => exact cr_sortedI
  | _ => exact fun pins s σ H xs us Q I r h => h.elim
theorem minI_spec {ns : List Int} {m : Int} (h : m ∈ ns) (l : ∀ y, y ∈ ns → m ≤ y) : minI ns = some m := by
  have key : ∀ (r : List Int) (a : Int), let z := r.foldl (fun a b => if b < a then b else a) a; z ∈ a :: r ∧ ∀ y ∈ a :: r, z ≤ y := by
    intro r
    induction r with
    | nil => intro a; simp
    | cons b r ih =>
      intro a
      have q := ih (if b < a then b else a)
      simp only [List.foldl_cons] at q ⊢
      obtain ⟨q1, q2⟩ := q
      refine ⟨?_, fun y hy => ?_⟩
      · rcases List.mem_cons.mp q1 with e | e
        · rw [e]; split <;> simp
        · exact List.mem_cons_of_mem _ (List.mem_cons_of_mem _ e)
      · have q0 := q2 _ List.mem_cons_self
        have hc : ∀ c, (if b < a then b else a) = c → c ≤ a ∧ c ≤ b := fun c hz => by subst hz; split <;> omega
        have hc := hc _ rfl
        (rcases List.mem_cons.mp hy with e | e)
        · subst e; omega
        · (rcases List.mem_cons.mp e with e | e)
          · subst e; omega
          · exact q2 y (List.mem_cons_of_mem _ e)
  cases ns with
  | nil => cases h
  | cons a r =>
    obtain ⟨k1, k2⟩ := key r a
    have e1 := k2 m h
    have e2 := l _ k1
    show some _ = some m
    congr 1
    omega
theorem maxI_spec {ns : List Int} {m : Int} (h : m ∈ ns) (l : ∀ y, y ∈ ns → y ≤ m) : maxI ns = some m := by
  have key : ∀ (r : List Int) (a : Int), let z := r.foldl (fun a b => if a < b then b else a) a; z ∈ a :: r ∧ ∀ y ∈ a :: r, y ≤ z := by
    intro r
    induction r with
    | nil => intro a; simp
    | cons b r ih =>
      intro a
      have q := ih (if a < b then b else a)
      simp only [List.foldl_cons] at q ⊢
      obtain ⟨q1, q2⟩ := q
      refine ⟨?_, fun y hy => ?_⟩
      · rcases List.mem_cons.mp q1 with e | e
        · rw [e]; split <;> simp
        · exact List.mem_cons_of_mem _ (List.mem_cons_of_mem _ e)
      · have q0 := q2 _ List.mem_cons_self
        have hc : ∀ c, (if a < b then b else a) = c → a ≤ c ∧ b ≤ c := fun c hz => by subst hz; split <;> omega
        have hc := hc _ rfl
        (rcases List.mem_cons.mp hy with e | e)
        · subst e; omega
        · (rcases List.mem_cons.mp e with e | e)
          · subst e; omega
          · exact q2 y (List.mem_cons_of_mem _ e)
  cases ns with
  | nil => cases h
  | cons a r =>
    obtain ⟨k1, k2⟩ := key r a
    have e1 := k2 m h
    have e2 := l _ k1
    show some _ = some m
    congr 1
    omega
theorem insI_perm (a : Int) : ∀ l : List Int, (insI a l).Perm (a :: l)
  | [] => .refl _
  | b :: l => by
    unfold insI
    split
    · exact .refl _
    · exact ((insI_perm a l).cons b).trans (List.Perm.swap a b l)
theorem sortI_perm : ∀ l : List Int, (sortI l).Perm l
  | [] => .refl _
  | a :: l => (insI_perm a _).trans ((sortI_perm l).cons a)
theorem insI_sorted (a : Int) : ∀ {l : List Int}, l.Pairwise (· ≤ ·) → (insI a l).Pairwise (· ≤ ·)
  | [], _ => by simp [insI]
  | b :: l, h => by
    unfold insI
    split
    · rename_i hab
      refine List.pairwise_cons.mpr ⟨fun y hy => ?_, h⟩
      (rcases List.mem_cons.mp hy with e | e)
      · omega
      · have := (List.pairwise_cons.mp h).1 y e; omega
    · rename_i hab
      (obtain ⟨h1, h2⟩ := List.pairwise_cons.mp h)
      refine List.pairwise_cons.mpr ⟨fun y hy => ?_, insI_sorted a h2⟩
      rcases List.mem_cons.mp ((insI_perm a l).mem_iff.mp hy) with e | e
      · omega
      · exact h1 y e
theorem sortI_sorted : ∀ l : List Int, (sortI l).Pairwise (· ≤ ·)
  | [] => .nil
  | a :: l => insI_sorted a (sortI_sorted l)
theorem sorted_same {l l' : List Int} (p : l.Perm l') (h : l.Pairwise (· ≤ ·)) (h' : l'.Pairwise (· ≤ ·)) : l = l' :=
  p.eq_of_pairwise (fun a b _ _ x y => by omega) h h'

section
variable {K : Frag} {ix : Ix} {e : En ix} {w : Wd} {H : Hp} {σ : L2.St} {st : S} {Q : VK} {v : Rv}
theorem Views.one {xs : List V} {d : D} (h : Views K w H xs [d]) : ∃ x, xs = [x] ∧ View K w H x d := by
  cases h with
  | cons a r => cases r; exact ⟨_, rfl, a⟩
theorem Views.two {xs : List V} {d d' : D} (h : Views K w H xs [d, d']) : ∃ x y, xs = [x, y] ∧ View K w H x d ∧ View K w H y d' := by
  cases h with
  | cons a r =>
    obtain ⟨y, e1, b⟩ := r.one
    subst e1
    exact ⟨_, _, rfl, a, b⟩
theorem View.tupR {K : Frag} {w : Wd} {H : Hp} {x : V} {l : List D} (h : View K w H x (.tup l)) : Rep K w x (.tup l) := by
  cases h with
  | rep h => exact h
  | own h => cases h
set_option maxHeartbeats 3900000 in
theorem fn_ok {b : Fn} (s : Sim K e w H σ st) {xs : List V} {ds : List D} (hv : Views K w H xs ds) (h : fnD b ds = some v) (q : Wn K e σ st w H v Q) : rFn K b xs H Q := by
  unfold fnD at h
  split at h
  · obtain ⟨x, rfl, hx⟩ := hv.one
    split at h
    · cases h
      obtain ⟨p, ys, rfl, hp, r⟩ := hx.lst s.sub
      exact ⟨_, ys.length, rfl, .inl ⟨ys, .of hp, rfl⟩, by rw [r.length]; exact q.int s⟩
    · cases h
      obtain ⟨p, ys, rfl, hp, r⟩ := hx.tup s.sub
      exact ⟨_, ys.length, rfl, .inr ⟨ys, hp, rfl⟩, by rw [r.length]; exact q.int s⟩
    · split at h
      · rename_i hl
        cases h
        rw [hx.str]
        exact ⟨_, _, rfl, ⟨by rw [← line_eq]; exact hl, rfl⟩, q.int s⟩
      · cases h
    · cases h
  · obtain ⟨x, rfl, hx⟩ := hv.one
    obtain ⟨bs, h1, h2⟩ := Option.map_eq_some_iff.mp h
    subst h2
    obtain ⟨p, ys, rfl, hp, r⟩ := hx.lst s.sub
    have e1 := (bls_of r h1).1
    subst e1
    exact ⟨p, bs, rfl, .of hp, q.bl s⟩
  · obtain ⟨x, rfl, hx⟩ := hv.one
    obtain ⟨bs, h1, h2⟩ := Option.map_eq_some_iff.mp h
    subst h2
    obtain ⟨p, ys, rfl, hp, r⟩ := hx.lst s.sub
    have e1 := (bls_of r h1).1
    subst e1
    exact ⟨p, bs, rfl, .of hp, q.bl s⟩
  · obtain ⟨x, rfl, hx⟩ := hv.one
    obtain ⟨l, h0, h⟩ := Option.bind_eq_some_iff.mp h
    obtain ⟨bs, h1, h2⟩ := Option.map_eq_some_iff.mp h
    subst h2
    unfold seqOf at h0
    split at h0
    · cases h0
      obtain ⟨p, ys, rfl, hp, r⟩ := hx.lst s.sub
      have e1 := (ints_of r h1).1
      subst e1
      exact ⟨p, bs, rfl, .inl (.of hp), q.int s⟩
    · cases h0
      obtain ⟨p, ys, rfl, hp, r⟩ := hx.tup s.sub
      have e1 := (ints_of r h1).1
      subst e1
      exact ⟨p, bs, rfl, .inr hp, q.int s⟩
    · cases h0
  · obtain ⟨x, rfl, hx⟩ := hv.one
    obtain ⟨bs, h1, h2⟩ := Option.bind_eq_some_iff.mp h
    obtain ⟨z, h3, h4⟩ := Option.map_eq_some_iff.mp h2
    subst h4
    obtain ⟨p, ys, rfl, hp, r⟩ := hx.lst s.sub
    have e1 := (ints_of r h1).1
    subst e1
    refine ⟨p, bs, rfl, .of hp, ?_, fun z' m1 m2 => ?_⟩
    · cases bs with
      | nil => cases h3
      | cons a r => exact Nat.succ_pos _
    · rw [minI_spec m1 m2] at h3
      cases h3
      exact q.int s
  · obtain ⟨x, rfl, hx⟩ := hv.one
    obtain ⟨bs, h1, h2⟩ := Option.bind_eq_some_iff.mp h
    obtain ⟨z, h3, h4⟩ := Option.map_eq_some_iff.mp h2
    subst h4
    obtain ⟨p, ys, rfl, hp, r⟩ := hx.lst s.sub
    have e1 := (ints_of r h1).1
    subst e1
    refine ⟨p, bs, rfl, .of hp, ?_, fun z' m1 m2 => ?_⟩
    · cases bs with
      | nil => cases h3
      | cons a r => exact Nat.succ_pos _
    · rw [maxI_spec m1 m2] at h3
      cases h3
      exact q.int s
  · obtain ⟨x, y, rfl, hx, hy⟩ := hv.two
    cases h
    rw [hx.int, hy.int]
    exact ⟨_, _, rfl, q.int s⟩
  · obtain ⟨x, y, rfl, hx, hy⟩ := hv.two
    cases h
    rw [hx.int, hy.int]
    exact ⟨_, _, rfl, q.int s⟩
  · obtain ⟨x, rfl, hx⟩ := hv.one
    cases h
    rw [hx.int]
    exact ⟨_, rfl, q.int s⟩
  · obtain ⟨x, rfl, hx⟩ := hv.one
    cases h
    rw [hx.int]
    exact .inl ⟨_, rfl, q.int s⟩
  · obtain ⟨x, rfl, hx⟩ := hv.one
    cases h
    rw [hx.bl]
    exact .inr ⟨_, rfl, q.int s⟩
  · obtain ⟨x, rfl, hx⟩ := hv.one
    cases h
    rw [hx.int]
    exact .inl ⟨_, rfl, q.bl s⟩
  · obtain ⟨x, rfl, hx⟩ := hv.one
    cases h
    rw [hx.bl]
    exact .inr ⟨_, rfl, q.bl s⟩
  · obtain ⟨x, rfl, hx⟩ := hv.one
    obtain ⟨l, h1, h2⟩ := Option.map_eq_some_iff.mp h
    subst h2
    unfold seqOf at h1
    split at h1
    · cases h1
      obtain ⟨p, ys, rfl, hp, r⟩ := hx.lst s.sub
      exact ⟨p, ys, rfl, .inl ⟨.of hp, fun a n => q.tup s r n⟩⟩
    · cases h1
      obtain ⟨p, ys, rfl, hp, r⟩ := hx.tup s.sub
      exact ⟨p, ys, rfl, .inr ⟨hp, q.f s hx.tupR⟩⟩
    · cases h1
  · obtain ⟨x, rfl, hx⟩ := hv.one
    obtain ⟨l, h1, h2⟩ := Option.map_eq_some_iff.mp h
    subst h2
    unfold seqOf at h1
    split at h1
    · cases h1
      obtain ⟨p, ys, rfl, hp, r⟩ := hx.lst s.sub
      exact ⟨p, ys, rfl, .inl (.of hp), fun a n => q.lst s r n⟩
    · cases h1
      obtain ⟨p, ys, rfl, hp, r⟩ := hx.tup s.sub
      exact ⟨p, ys, rfl, .inr hp, fun a n => q.lst s r n⟩
    · cases h1
  · obtain ⟨x, rfl, hx⟩ := hv.one
    obtain ⟨bs, h1, h2⟩ := Option.map_eq_some_iff.mp h
    subst h2
    obtain ⟨p, ys, rfl, hp, r⟩ := hx.lst s.sub
    have e1 := (ints_of r h1).1
    subst e1
    refine ⟨p, bs, rfl, .of hp, fun ns' a pm srt n => ?_⟩
    have e2 : ns' = sortI bs := sorted_same (pm.trans (sortI_perm bs).symm) srt (sortI_sorted bs)
    subst e2
    exact q.lst s (Reps.ints _) n
  · cases h

/-! ### items, slices -/
theorem atI_reps {xs : List V} {ds : List D} {i : Int} {d : D} (r : Reps K w xs ds) (h : atI ds i = some d) : ∃ x, atI xs i = some x ∧ Rep K w x d := by
  unfold atI at h ⊢
  obtain ⟨j, h1, h2⟩ := Option.bind_eq_some_iff.mp h
  rw [r.length, h1]
  exact r.got h2
def rIxZ (K : Frag) : R2 := rIx K
theorem idx_ok (s : Sim K e w H σ st) {x y : V} {dx dy d : D} (hx : View K w H x dx) (hy : View K w H y dy) (h : idxD st.hd dx dy = some d) (q : ∀ z, Rep K w z d → Q z H) : rIx K x y H Q := by
  unfold idxD at h
  split at h
  · obtain ⟨p, xs, rfl, hp, r⟩ := hx.lst s.sub
    obtain ⟨z, h1, h2⟩ := atI_reps r h
    rw [hy.int]
    exact .inl ⟨p, xs, _, z, rfl, rfl, .of hp, h1, q z h2⟩
  · obtain ⟨p, xs, rfl, hp, r⟩ := hx.tup s.sub
    obtain ⟨z, h1, h2⟩ := atI_reps r h
    rw [hy.int]
    exact .inr (.inl ⟨p, xs, _, z, rfl, rfl, hp, h1, q z h2⟩)
  · split at h
    · rename_i hl
      obtain ⟨c, h1, h2⟩ := Option.map_eq_some_iff.mp h
      subst h2
      rw [hx.str, hy.int]
      exact .inr (.inr ⟨_, _, c, rfl, rfl, by rw [← line_eq]; exact hl, h1, q _ (.str _)⟩)
    · cases h
  · obtain ⟨p, rfl, hp⟩ := hx.hand
    obtain ⟨l, h1, h2⟩ := Option.bind_eq_some_iff.mp h
    have g := s.hand
    rw [h1] at g
    obtain ⟨p', vs, k1, k2, k3, k4⟩ := g
    rw [hp] at k1
    cases k1
    obtain ⟨z, h3, h4⟩ := atI_reps k4 h2
    rw [hy.int]
    exact .inl ⟨_, vs, _, z, rfl, rfl, .of k3, h3, q z h4⟩
  · cases h
def rSlZ (K : Frag) : V → Option Int → Option Int → Hp → VK → Prop := fun x lo hi H Q => (rSlL K x lo hi H Q ∨ rSlA K x lo hi H Q) ∨ rSlS x lo hi H Q
theorem sl_Z {X : Cx} : SlR X (rSlZ X.K) := (sl_list.or sl_tupA).or sl_str
theorem cut_reps {xs : List V} {ds : List D} (r : Reps K w xs ds) (lo hi : Option Int) : Reps K w (cutV xs lo hi) (cutD ds lo hi) := by
  unfold cutV cutD
  rw [r.length]
  exact (r.drop _).take _
theorem cut_all {α : Type} (ds : List α) (lo hi : Option Int) (h : HT.sIx ds.length 0 lo = 0 ∧ HT.sIx ds.length ds.length hi = ds.length) : cutD ds lo hi = ds := by
  unfold cutD
  rw [h.1, h.2]
  simp
theorem sli_ok (s : Sim K e w H σ st) {x : V} {dx : D} {lo hi : Option Int} (hx : View K w H x dx) (e1 : sliD dx lo hi = some v) (q : Wn K e σ st w H v Q) : rSlZ K x lo hi H Q := by
  unfold sliD at e1
  split at e1
  · cases e1
    obtain ⟨p, xs, rfl, hp, r⟩ := hx.lst s.sub
    exact .inl (.inl ⟨p, xs, rfl, .of hp, fun a n => q.lst s (cut_reps r _ _) n⟩)
  · cases e1
    obtain ⟨p, xs, rfl, hp, r⟩ := hx.tup s.sub
    refine .inl (.inr ⟨p, xs, rfl, hp, fun c => ?_, fun c a n => q.tup s (cut_reps r _ _) n⟩)
    rw [r.length] at c
    rw [cut_all _ _ _ c] at q
    exact q.f s hx.tupR
  · cases e1
    rename_i ns
    have q' : ∃ p, x = .ref p ∧ SqL K H p (ns.map V.int) := by
      cases hx with
      | rep hx => cases hx with | scr a => exact ⟨_, rfl, SameSqL s.sub a⟩
      | own hx => cases hx
    obtain ⟨p, rfl, hp⟩ := q'
    exact .inl (.inl ⟨p, _, rfl, hp, fun a n => q.lst s (cut_reps (Reps.ints ns) _ _) n⟩)
  · split at e1
    · rename_i hl
      cases e1
      exact .inr ⟨_, hx.str, by rw [← line_eq]; exact hl, q.str s⟩
    · cases e1
  · cases e1
/-! ### isinstance -/
def clTy : Cl → String
  | .int => "int"
  | .bool => "bool"
  | .str => "str"
  | .tuple => "tuple"
  | .list => "list"
  | .dict => "dict"
theorem tyOf_tup {a : Addr} {xs : List V} (h : SqT K H a xs) : TyX K H (.ref a) (.type "tuple") := by
  rcases h with (h | ⟨o, h⟩) | ⟨o, its, n, h, c, _⟩
  · exact .base (.tup h)
  · exact .fTuple h
  · exact .kTuple h c
theorem isi_all (s : Sim K e w H σ st) {x : V} {dx : D} {c : Cl} {b : Bool} (hx : View K w H x dx) (h : isiD dx c = some b) : ∃ t, TyX K H x (.type t) ∧ ∀ (c : Cl) (b : Bool), isiD dx c = some b → PySem.W.kitOne K (.type t) (.type (clTy c)) = some b := by
  have kit : ∀ (c : Cl) (t : String) (b : Bool), kitB t (clTy c) = some b → PySem.W.kitOne K (.type t) (.type (clTy c)) = some b := fun c t b h => kit_ty h
  cases dx with
  | non => rw [hx.non]; refine ⟨_, .base .non, fun c b h => kit c _ _ (by cases c <;> cases h <;> decide +kernel)⟩
  | bl z => rw [hx.bl]; refine ⟨_, .base (.bl _), fun c b h => kit c _ _ (by cases c <;> cases h <;> decide +kernel)⟩
  | int z => rw [hx.int]; refine ⟨_, .base (.int _), fun c b h => kit c _ _ (by cases c <;> cases h <;> decide +kernel)⟩
  | str z => rw [hx.str]; refine ⟨_, .base (.str _), fun c b h => kit c _ _ (by cases c <;> cases h <;> decide +kernel)⟩
  | tup l =>
    obtain ⟨p, xs, rfl, hp, r⟩ := hx.tup s.sub
    refine ⟨_, tyOf_tup hp, fun c b h => kit c _ _ (by cases c <;> cases h <;> decide +kernel)⟩
  | lst l =>
    obtain ⟨p, xs, rfl, hp, r⟩ := hx.lst s.sub
    refine ⟨_, .base (.lst hp), fun c b h => kit c _ _ (by cases c <;> cases h <;> decide +kernel)⟩
  | dct l =>
    have q' : TyX K H x (.type "dict") := by
      cases hx with
      | rep hx => cases hx with
        | dK a r => exact .base (.dK (s.sub _ _ a))
        | dT a r => exact .base (.dT (s.sub _ _ a))
      | own hx => cases hx with
        | dK a r => exact .base (.dK a)
        | dT a r => exact .base (.dT a)
    refine ⟨_, q', fun c b h => kit c _ _ (by cases c <;> cases h <;> decide +kernel)⟩
  | hand => cases h
  | scr _ => cases h
theorem isi_ok (s : Sim K e w H σ st) {x : V} {dx : D} {c : Cl} {b : Bool} (hx : View K w H x dx) (h : isiD dx c = some b) : ∃ t, TyX K H x (.type t) ∧ PySem.W.kitOne K (.type t) (.type (clTy c)) = some b := by
  obtain ⟨t, h1, h2⟩ := isi_all s hx h
  exact ⟨t, h1, h2 c b h⟩
end
end ZZ

/-! ZF: expressions. -/
namespace ZZ
open L2 PyProof.Rows PySem.Spec PySem

section
variable {K : Frag} {m : Pm} {e : En m.ix} {w : Wd} {H : Hp} {σ : L2.St} {st : S}
theorem Pz.frz {r : Res Rv} {Q : D → S → Wd → Hp → Prop} (h : Pz K m e σ st w H (frz r) Q) :
    Pz K m e σ st w H r fun v st1 w1 H1 => ∀ x, RvOk K e w1 H1 σ st1 H x v → ∃ w', Sim K e w' H1 σ st1 ∧ Step σ st w H w' H1 st1 ∧ Rep K w' x v.d ∧ Q v.d st1 w' H1 := by
  cases r with
  | ok v st1 =>
    intro w1 H1 s1 t1 x r1
    obtain ⟨w', s', t', r'⟩ := r1.frz s1 t1
    exact ⟨w', s', t', r', h w' H1 s' t'⟩
  | exc x st1 => exact h
  | stuck => exact h
theorem Pz.lift {α : Type} {o : Option α} {Q : α → S → Wd → Hp → Prop} (h : Pz K m e σ st w H (lift o st) Q) : ∃ a, o = some a ∧ Pz K m e σ st w H (.ok a st) Q := by
  cases o with
  | some a => exact ⟨a, rfl, h⟩
  | none => exact (show False from h).elim
theorem Pz.no {α : Type} {Q : α → S → Wd → Hp → Prop} (h : Pz K m e σ st w H (.stuck : Res α) Q) : False := h
end
section
variable {X : Cx} {m : Pm} {e a b c : Expr} {pos : Pos} {es : List Expr}
/-- a constant -/
theorem ze_const {v : V} {d : D} (h : PE X e (tC v)) (r : ∀ w, Rep X.K w v d) : PE X e (tz X.K m fun st => .ok (.f d) st) := h.zm fun σ H Q ⟨e, w, st, s, P⟩ => P.ok s v (r w)
/-- a name -/
theorem ze_var {i : Nat} {x : Str} (hN : X.N[i]? = some x) (hv : Vis X.env.scope x) (hd : (x == ("__debug__" : Str)) = false) (hcd : (x == ("__classdict__" : Str)) = false) (G : Gm) : PE X (.Name x pos) (tz X.K m (evE G (.var i))) :=
  (pe_var hN hv hd hcd).zm fun σ H Q ⟨e, w, st, s, P⟩ => by
    unfold evE at P
    have q := s.sl i
    cases hs : st.sl[i]? with
    | none => rw [hs] at P; exact P.no.elim
    | some sl =>
      rw [hs] at P q
      cases sl with
      | un => exact P.no.elim
      | sp t => exact P.no.elim
      | fz d =>
        obtain ⟨v, e1, r⟩ := q
        exact ⟨v, e1, P.ok s v r⟩
      | ow d =>
        obtain ⟨w', v, e1, s', t', r⟩ := s.thaw hs
        exact ⟨v, e1, P.okT s' t' v r⟩
theorem zp_var {i : Nat} {x : Str} {r : Res Rv} (hN : X.N[i]? = some x) (hv : Vis X.env.scope x) (hd : (x == ("__debug__" : Str)) = false) (hcd : (x == ("__classdict__" : Str)) = false) {f : S → Res Rv} : PE X (.Name x pos) (tzP X.K m fun st => pend (.var i) (f st) st) :=
  (pe_var hN hv hd hcd).zm fun σ H Q ⟨e, w, st, s, P⟩ => by
    have P : Pz X.K m e σ st w H (match st.get i with | some _ => (.ok (.slot i) st : Res Pd) | none => .stuck) _ := P
    unfold S.get at P
    have q := s.sl i
    cases hs : st.sl[i]? with
    | none => rw [hs] at P; exact P.no.elim
    | some sl =>
      rw [hs] at P q
      cases sl with
      | un => exact P.no.elim
      | sp t => exact P.no.elim
      | fz d =>
        obtain ⟨v, e1, r⟩ := q
        exact ⟨v, e1, P.ok s v e1⟩
      | ow d =>
        obtain ⟨v, e1, r⟩ := q
        exact ⟨.ref v, e1, P.ok s (.ref v) e1⟩
def Z.isVar : Z → Bool
  | .var _ => true
  | _ => false
theorem zf_of {f : Ev Rv} (h : PE X e (tz X.K m f)) : PE X e (tzF X.K m fun st => frz (f st)) := h.zm fun σ H Q ⟨e, w, st, s, P⟩ =>
  ⟨e, w, st, s, P.frz.mono fun v st1 w1 H1 s1 t1 k x r => by
    obtain ⟨w', s', t', r', q⟩ := k x r
    exact q x r'⟩
theorem pend_not {z : Z} (h : z.isVar = false) (r : Res Rv) (st : S) : pend z r st = (frz r).bind fun d st => .ok (.val d) st := by
  cases z <;> first | (cases h; done) | (cases r <;> rfl)
theorem zp_of {z : Z} {f : Ev Rv} (hz : z.isVar = false) (h : PE X e (tz X.K m f)) : PE X e (tzP X.K m fun st => pend z (f st) st) := (zf_of h).zm fun σ H Q ⟨e, w, st, s, P⟩ => by
  have P : Pz X.K m e σ st w H (pend z (f st) st) _ := P
  rw [pend_not hz] at P
  exact ⟨e, w, st, s, P.bind.mono fun d st1 w1 H1 s1 t1 k x r => k.ok s1 x r⟩
/-- a binary operator -/
theorem ze_bin {o : Op} {pa pb : Ev Pd} (ha : PE X a (tzP X.K m pa)) (hb : PE X b (tzP X.K m pb)) : PE X (.BinOp a (opOf o) b pos) (tz X.K m fun st => (pa st).bind fun p st => (pb st).bind fun q st => match p.get st, q.get st with
    | some x, some y => lift (binD o x y) st
    | _, _ => .stuck) := (pe_op (or_opZ o) ha hb).zm fun σ H Q ⟨e, w, st, s, P⟩ => by
  refine ⟨e, w, st, s, P.bind.mono fun p st1 w1 H1 s1 t1 P1 x hx => ?_⟩
  refine ⟨e, w1, st1, s1, P1.bind.mono fun q st2 w2 H2 s2 t2 P2 y hy => ?_⟩
  split at P2
  · rename_i dx dy gx gy
    obtain ⟨v, hv, P3⟩ := P2.lift
    exact bin_ok s2 ((hx.mono t2.le).view s2 gx) (hy.view s2 gy) hv fun z w' H' s' t' r => P3.okT s' t' z (r.since (t1.trans t2).dom)
  · exact P2.no.elim
/-- a comparison: its value, its test -/
theorem ze_cmp (hu : X.A.units + 65 < cLine) {o : Cop} {pa pb : Ev Pd} (ha : PE X a (tzP X.K m pa)) (hb : PE X b (tzP X.K m pb)) (hm : behindInMarks (copOf o) b = false) : PE X (.Compare a [copOf o] [b] pos) (tz X.K m fun st => (pa st).bind fun p st => (pb st).bind fun q st => match p.get st, q.get st with
    | some x, some y => (lift (cmpD o x y) st).bind fun b st => .ok (.f (.bl b)) st
    | _, _ => .stuck) := (pe_cmpR (or_cmpZ hu o) ha hb hm).zm fun σ H Q ⟨e, w, st, s, P⟩ => by
  refine ⟨e, w, st, s, P.bind.mono fun p st1 w1 H1 s1 t1 P1 x hx => ?_⟩
  refine ⟨e, w1, st1, s1, P1.bind.mono fun q st2 w2 H2 s2 t2 P2 y hy => ?_⟩
  split at P2
  · rename_i dx dy gx gy
    obtain ⟨v, hv, P3⟩ := P2.bind.lift
    exact cmp_ok s2.sub ((hx.mono t2.le).view s2 gx) (hy.view s2 gy) hv ((P3.ok s2).ok s2 _ (.bl v))
  · exact P2.no.elim
theorem zt_cmp (hu : X.A.units + 65 < cLine) {o : Cop} {pa pb : Ev Pd} (ha : PE X a (tzP X.K m pa)) (hb : PE X b (tzP X.K m pb)) (hm : behindInMarks (copOf o) b = false) : PT X (.Compare a [copOf o] [b] pos) (tzT X.K m fun st => (pa st).bind fun p st => (pb st).bind fun q st => match p.get st, q.get st with
    | some x, some y => lift (cmpD o x y) st
    | _, _ => .stuck) := (pt_cmpR (or_cmpZ hu o) ha hb hm).zm fun σ H Q ⟨e, w, st, s, P⟩ => by
  refine ⟨e, w, st, s, P.bind.mono fun p st1 w1 H1 s1 t1 P1 x hx => ?_⟩
  refine ⟨e, w1, st1, s1, P1.bind.mono fun q st2 w2 H2 s2 t2 P2 y hy => ?_⟩
  split at P2
  · rename_i dx dy gx gy
    obtain ⟨v, hv, P3⟩ := P2.lift
    exact cmp_ok s2.sub ((hx.mono t2.le).view s2 gx) (hy.view s2 gy) hv ⟨v, rfl, P3.ok s2⟩
  · exact P2.no.elim
/-- a < b < c -/
theorem ze_cmp2 (hu : X.A.units + 65 < cLine) {o o' : Cop} {fa fb fc : Ev D} (ha : PE X a (tzF X.K m fa)) (hb : PE X b (tzF X.K m fb)) (hc : PE X c (tzF X.K m fc)) (hm : lastMarks [copOf o, copOf o'] [b, c] = false) : PE X (.Compare a [copOf o, copOf o'] [b, c] pos) (tz X.K m fun st => (fa st).bind fun x st => (fb st).bind fun y st => (lift (cmpD o x y) st).bind fun k st =>
    if k = true then (fc st).bind fun z st => (lift (cmpD o' y z) st).bind fun b st => .ok (.f (.bl b)) st else .ok (.f (.bl false)) st) := (pe_chain (or_cmpZ hu o) (or_cmpZ hu o') ha hb hc hm).zm fun σ H Q ⟨e, w, st, s, P⟩ => by
  refine ⟨e, w, st, s, P.bind.mono fun dx st1 w1 H1 s1 t1 P1 x hx => ?_⟩
  refine ⟨e, w1, st1, s1, P1.bind.mono fun dy st2 w2 H2 s2 t2 P2 y hy => ?_⟩
  obtain ⟨v, hv, P3⟩ := P2.bind.lift
  refine cmp_ok s2.sub (.rep (hx.mono t2.le)) (.rep hy) hv ⟨v, rfl, ?_⟩
  have P4 := P3.ok s2
  cases v with
  | false => exact P4.ok s2 _ (.bl false)
  | true =>
    refine ⟨e, w2, st2, s2, (Pz.bind P4).mono fun dz st3 w3 H3 s3 t3 P5 z hz => ?_⟩
    obtain ⟨v', hv', P6⟩ := P5.bind.lift
    exact cmp_ok s3.sub (.rep (hy.mono t3.le)) (.rep hz) hv' ((P6.ok s3).ok s3 _ (.bl v'))
theorem zt_cmp2 (hu : X.A.units + 65 < cLine) {o o' : Cop} {fa fb fc : Ev D} (ha : PE X a (tzF X.K m fa)) (hb : PE X b (tzF X.K m fb)) (hc : PE X c (tzF X.K m fc)) (hm : lastMarks [copOf o, copOf o'] [b, c] = false) : PT X (.Compare a [copOf o, copOf o'] [b, c] pos) (tzT X.K m fun st => (fa st).bind fun x st => (fb st).bind fun y st => (lift (cmpD o x y) st).bind fun k st =>
    if k = true then (fc st).bind fun z st => lift (cmpD o' y z) st else .ok false st) := (pt_chain (or_cmpZ hu o) (or_cmpZ hu o') ha hb hc hm).zm fun σ H Q ⟨e, w, st, s, P⟩ => by
  refine ⟨e, w, st, s, P.bind.mono fun dx st1 w1 H1 s1 t1 P1 x hx => ?_⟩
  refine ⟨e, w1, st1, s1, P1.bind.mono fun dy st2 w2 H2 s2 t2 P2 y hy => ?_⟩
  obtain ⟨v, hv, P3⟩ := P2.bind.lift
  refine cmp_ok s2.sub (.rep (hx.mono t2.le)) (.rep hy) hv ⟨v, rfl, ?_⟩
  have P4 := P3.ok s2
  cases v with
  | false => exact ⟨false, rfl, P4.ok s2⟩
  | true =>
    refine ⟨e, w2, st2, s2, (Pz.bind P4).mono fun dz st3 w3 H3 s3 t3 P5 z hz => ?_⟩
    obtain ⟨v', hv', P6⟩ := P5.lift
    exact cmp_ok s3.sub (.rep (hy.mono t3.le)) (.rep hz) hv' ⟨v', rfl, P6.ok s3⟩
/-- a value's truth as a test -/
theorem zt_val {f : Ev Rv} (h : PE X e (tz X.K m f)) (he : ∀ whole, isTrue e X.env whole = (do let v ← whole; standAt e.pos; holding [v] (truthy v))) : PT X e (tzT X.K m fun st => tru (f st)) := (pt_truth (zf_of h) he).zm fun σ H Q ⟨e, w, st, s, P⟩ => by
  refine ⟨e, w, st, s, (Pz.bind P).mono fun d st1 w1 H1 s1 t1 P1 x r => ?_⟩
  obtain ⟨k, hk, P2⟩ := P1.lift
  exact ⟨k, tru_of s1.sub (.rep r) hk, P2.ok s1⟩
theorem zt_not {f : Ev Bool} (h : PT X a (tzT X.K m f)) : PT X (.UnaryOp .Not a pos) (tzT X.K m fun st => (f st).bind fun b st => .ok (!b) st) := (pt_not h).zm fun σ H Q ⟨e, w, st, s, P⟩ =>
  ⟨e, w, st, s, P.bind.mono fun b st1 w1 H1 s1 t1 P1 => P1.ok s1⟩
theorem zw_and {f g : Ev Bool} {rest : List Expr} (h : PT X a (tzT X.K m f)) (k : PW X (.BoolOp .And (b :: rest) pos) (tzT X.K m g)) : PW X (.BoolOp .And (a :: b :: rest) pos) (tzT X.K m fun st => (f st).bind fun b st => if b = true then g st else .ok false st) := by
  refine ⟨fun wh pins s0 σ H Q I h' => (pw_and h k).run wh pins s0 σ H Q I ?_⟩
  obtain ⟨e, w, st, s, P⟩ := h'
  refine ⟨e, w, st, s, P.bind.mono fun b st1 w1 H1 s1 t1 P1 => ?_⟩
  cases b with
  | true => exact ⟨e, w1, st1, s1, P1⟩
  | false => exact P1.ok s1
theorem zw_or {f g : Ev Bool} {rest : List Expr} (h : PT X a (tzT X.K m f)) (k : PW X (.BoolOp .Or (b :: rest) pos) (tzT X.K m g)) : PW X (.BoolOp .Or (a :: b :: rest) pos) (tzT X.K m fun st => (f st).bind fun b st => if b = true then .ok true st else g st) := by
  refine ⟨fun wh pins s0 σ H Q I h' => (pw_or h k).run wh pins s0 σ H Q I ?_⟩
  obtain ⟨e, w, st, s, P⟩ := h'
  refine ⟨e, w, st, s, P.bind.mono fun b st1 w1 H1 s1 t1 P1 => ?_⟩
  cases b with
  | false => exact ⟨e, w1, st1, s1, P1⟩
  | true => exact P1.ok s1
/-- and, or, not as values -/
theorem ze_and {f : Ev D} {g : Ev Rv} {rest : List Expr} (h : PE X a (tzF X.K m f)) (k : PE X (.BoolOp .And (b :: rest) pos) (tz X.K m g)) : PE X (.BoolOp .And (a :: b :: rest) pos) (tz X.K m fun st => (f st).bind fun x st => match truD x with
    | some true => g st
    | some false => .ok (.f x) st
    | none => .stuck) := (pe_andT h k).zm fun σ H Q ⟨e, w, st, s, P⟩ => by
  refine ⟨e, w, st, s, P.bind.mono fun dx st1 w1 H1 s1 t1 P1 x r => ?_⟩
  cases hk : truD dx with
  | none => rw [hk] at P1; exact P1.no.elim
  | some k =>
    rw [hk] at P1
    refine ⟨k, tru_of s1.sub (.rep r) hk, ?_⟩
    cases k with
    | true => exact ⟨e, w1, st1, s1, P1.mono fun v st2 w2 H2 s2 t2 q x r => q x (r.since t1.dom)⟩
    | false => exact P1.ok s1 x r
theorem ze_or {f : Ev D} {g : Ev Rv} {rest : List Expr} (h : PE X a (tzF X.K m f)) (k : PE X (.BoolOp .Or (b :: rest) pos) (tz X.K m g)) : PE X (.BoolOp .Or (a :: b :: rest) pos) (tz X.K m fun st => (f st).bind fun x st => match truD x with
    | some true => .ok (.f x) st
    | some false => g st
    | none => .stuck) := (pe_orT h k).zm fun σ H Q ⟨e, w, st, s, P⟩ => by
  refine ⟨e, w, st, s, P.bind.mono fun dx st1 w1 H1 s1 t1 P1 x r => ?_⟩
  cases hk : truD dx with
  | none => rw [hk] at P1; exact P1.no.elim
  | some k =>
    rw [hk] at P1
    refine ⟨k, tru_of s1.sub (.rep r) hk, ?_⟩
    cases k with
    | false => exact ⟨e, w1, st1, s1, P1.mono fun v st2 w2 H2 s2 t2 q x r => q x (r.since t1.dom)⟩
    | true => exact P1.ok s1 x r
theorem ze_one {f : Ev Rv} {op : BoolOp} (h : PE X a (tz X.K m f)) : PE X (.BoolOp op [a] pos) (tz X.K m f) := pe_one h
theorem ze_not {f : Ev Rv} (h : PE X a (tz X.K m f)) : PE X (.UnaryOp .Not a pos) (tz X.K m fun st => (tru (f st)).bind fun b st => .ok (.f (.bl (!b))) st) := (pe_notT (zf_of h)).zm fun σ H Q ⟨e, w, st, s, P⟩ => by
  refine ⟨e, w, st, s, (Pz.bind P.bind).mono fun dx st1 w1 H1 s1 t1 P1 x r => ?_⟩
  obtain ⟨k, hk, P2⟩ := P1.lift
  exact ⟨k, tru_of s1.sub (.rep r) hk, (P2.ok s1).ok s1 _ (.bl _)⟩
theorem ze_ife {f : Ev Bool} {g h : Ev Rv} (hc : PT X c (tzT X.K m f)) (ha : PE X a (tz X.K m g)) (hb : PE X b (tz X.K m h)) : PE X (.IfExp c a b pos) (tz X.K m fun st => (f st).bind fun k st => if k = true then g st else h st) := (pe_ifExp hc ha hb).zm fun σ H Q ⟨e, w, st, s, P⟩ => by
  refine ⟨e, w, st, s, P.bind.mono fun k st1 w1 H1 s1 t1 P1 => ?_⟩
  cases k with
  | true => exact ⟨e, w1, st1, s1, P1.mono fun v st2 w2 H2 s2 t2 q x r => q x (r.since t1.dom)⟩
  | false => exact ⟨e, w1, st1, s1, P1.mono fun v st2 w2 H2 s2 t2 q x r => q x (r.since t1.dom)⟩
theorem ze_neg {f : Ev D} (h : PE X a (tzF X.K m f)) : PE X (.UnaryOp .USub a pos) (tz X.K m fun st => (f st).bind fun x st => match x with
    | .int i => .ok (.f (.int (-i))) st
    | _ => .stuck) := (pe_un un_neg h).zm fun σ H Q ⟨e, w, st, s, P⟩ => by
  refine ⟨e, w, st, s, P.bind.mono fun dx st1 w1 H1 s1 t1 P1 x r => ?_⟩
  split at P1
  · cases r
    exact ⟨_, rfl, P1.ok s1 _ (.int _)⟩
  · exact P1.no.elim
/-! ### arguments -/
theorem za_nil : PA X [] (tzA X.K m fun st => .ok [] st) := pa_nil.zm fun σ H Q ⟨e, w, st, s, P⟩ => P.ok s [] .nil
theorem za_cons {f : Ev D} {g : Ev (List D)} (h : PE X a (tzF X.K m f)) (k : PA X es (tzA X.K m g)) (hs : starEach (a :: es) X.env = (false, eval a X.env) :: starEach es X.env) : PA X (a :: es) (tzA X.K m fun st => (f st).bind fun d st => (g st).bind fun ds st => .ok (d :: ds) st) := (pa_cons h k hs).zm fun σ H Q ⟨e, w, st, s, P⟩ => by
  refine ⟨e, w, st, s, P.bind.mono fun d st1 w1 H1 s1 t1 P1 x r => ?_⟩
  refine ⟨e, w1, st1, s1, P1.bind.mono fun ds st2 w2 H2 s2 t2 P2 xs rs => ?_⟩
  exact P2.ok s2 _ (.cons (r.mono t2.le) rs)
theorem zb_nil : PA X [] (tzPs X.K m fun st => .ok [] st) := pa_nil.zm fun σ H Q ⟨e, w, st, s, P⟩ => P.ok s [] .nil
theorem zb_cons {f : Ev Pd} {g : Ev (List Pd)} (h : PE X a (tzP X.K m f)) (k : PA X es (tzPs X.K m g)) (hs : starEach (a :: es) X.env = (false, eval a X.env) :: starEach es X.env) : PA X (a :: es) (tzPs X.K m fun st => (f st).bind fun d st => (g st).bind fun ds st => .ok (d :: ds) st) := (pa_cons h k hs).zm fun σ H Q ⟨e, w, st, s, P⟩ => by
  refine ⟨e, w, st, s, P.bind.mono fun d st1 w1 H1 s1 t1 P1 x r => ?_⟩
  refine ⟨e, w1, st1, s1, P1.bind.mono fun ds st2 w2 H2 s2 t2 P2 xs rs => ?_⟩
  exact P2.ok s2 _ (.cons (r.mono t2.le) rs)
/-! ### displays -/
theorem ze_tup {x1} {f : Ev (List D)} (h : PA X es (tzA X.K m f)) : PE X (.Tuple es x1 pos) (tz X.K m fun st => (f st).bind fun ds st => if ds.length ≤ line then .ok (.f (.tup ds)) st else .stuck) := (pe_tup h).zm fun σ H Q ⟨e, w, st, s, P⟩ => by
  refine ⟨e, w, st, s, P.bind.mono fun ds st1 w1 H1 s1 t1 P1 xs rs => ?_⟩
  split at P1
  · rename_i hl
    refine ⟨by rw [rs.length, ← line_eq]; exact hl, fun p n => ?_⟩
    have g := s1.grow (o := .tup xs) n (fun _ z => nomatch z)
    exact P1.okT g.1 (Step.grow s1 n) _ (.tup (.of upd_same) (rs.mono g.2))
  · exact P1.no.elim
theorem ze_lst {f : Ev (List D)} (h : PA X es (tzA X.K m f)) : PE X (.List es pos) (tz X.K m fun st => (f st).bind fun ds st => if ds.length ≤ line then .ok (.o (.lst ds)) st else .stuck) := (pe_lst h).zm fun σ H Q ⟨e, w, st, s, P⟩ => by
  refine ⟨e, w, st, s, P.bind.mono fun ds st1 w1 H1 s1 t1 P1 xs rs => ?_⟩
  split at P1
  · rename_i hl
    refine ⟨by rw [rs.length, ← line_eq]; exact hl, fun p n => ?_⟩
    exact P1.okT (s1.lay n) (Step.lay s1 n) _ ((own_new s1 n (.lst upd_same rs)).since t1.dom)
  · exact P1.no.elim
/-! ### subscripts, slices, built-ins -/
theorem ze_idx {pa pb : Ev Pd} (ha : PE X a (tzP X.K m pa)) (hb : PE X b (tzP X.K m pb)) (hs : PlainIx b) : PE X (.Subscript a b pos) (tz X.K m fun st => (pa st).bind fun p st => (pb st).bind fun q st => match p.get st, q.get st with
    | some x, some y => (lift (idxD st.hd x y) st).bind fun d st => .ok (.f d) st
    | _, _ => .stuck) := (pe_ix ix_seq ha hb hs).zm fun σ H Q ⟨e, w, st, s, P⟩ => by
  refine ⟨e, w, st, s, P.bind.mono fun p st1 w1 H1 s1 t1 P1 x hx => ?_⟩
  refine ⟨e, w1, st1, s1, P1.bind.mono fun q st2 w2 H2 s2 t2 P2 y hy => ?_⟩
  split at P2
  · rename_i dx dy gx gy
    obtain ⟨d, hd, P3⟩ := P2.bind.lift
    exact idx_ok s2 ((hx.mono t2.le).view s2 gx) (hy.view s2 gy) hd fun z r => (P3.ok s2).ok s2 z r
  · exact P2.no.elim
def tzO (K : Frag) (m : Pm) (f : Ev (Option Int)) : TO := fun σ H Q => ∃ e w st, Sim K e w H σ st ∧ Pz K m e σ st w H (f st) fun o st' w' H' => Q o H'
theorem zo_none : PO X none (tzO X.K m fun st => .ok none st) := by
  refine ⟨fun pins s σ H Q I h => po_none.run pins s σ H Q I ?_⟩
  obtain ⟨e, w, st, s', P⟩ := h
  exact P.ok s'
theorem zo_some {f : Ev D} (h : PE X a (tzF X.K m f)) : PO X (some a) (tzO X.K m fun st => (f st).bind fun d st => match d with
    | .int i => .ok (some i) st
    | _ => .stuck) := by
  refine ⟨fun pins s σ H Q I h' => (po_some h).run pins s σ H Q I ?_⟩
  obtain ⟨e, w, st, s', P⟩ := h'
  refine ⟨e, w, st, s', P.bind.mono fun d st1 w1 H1 s1 t1 P1 x r => ?_⟩
  split at P1
  · cases r
    exact ⟨_, rfl, P1.ok s1⟩
  · exact P1.no.elim
theorem ze_sli {pa : Ev Pd} {f g : Ev (Option Int)} {lo hi : Option Expr} {p2 : Pos} (ha : PE X a (tzP X.K m pa)) (hl : PO X lo (tzO X.K m f)) (hh : PO X hi (tzO X.K m g)) : PE X (.Subscript a (.Slice lo hi none p2) pos) (tz X.K m fun st => (pa st).bind fun p st => (f st).bind fun l st => (g st).bind fun h st => match p.get st with
    | some x => lift (sliD x l h) st
    | none => .stuck) := (pe_slice sl_Z ha hl hh).zm fun σ H Q ⟨e, w, st, s, P⟩ => by
  refine ⟨e, w, st, s, P.bind.mono fun p st1 w1 H1 s1 t1 P1 x hx => ?_⟩
  refine ⟨e, w1, st1, s1, P1.bind.mono fun l st2 w2 H2 s2 t2 P2 => ?_⟩
  refine ⟨e, w2, st2, s2, P2.bind.mono fun h st3 w3 H3 s3 t3 P3 => ?_⟩
  split at P3
  · rename_i dx gx
    obtain ⟨v, hv, P4⟩ := P3.lift
    exact sli_ok s3 ((hx.mono (Wd.le_trans t2.le t3.le)).view s3 gx) hv fun z w' H' s' t' r => P4.okT s' t' z (r.since (t1.trans (t2.trans t3)).dom)
  · exact P3.no.elim
/-- f(x, ..), f a built-in -/
theorem ze_fn (hc : X.calm = true) {b : Fn} {x : Str} {g : Ev (List Pd)} {p : Pos} (hg : Gl X x) (hm : X.mg x = none) (hv : bootBuiltins x = some (fnVal b)) (ha : PA X (e :: es) (tzPs X.K m g)) (hn : x ≠ "__name__") (hdb : (x == ("__debug__" : Str)) = false)
    (he : starEach (e :: es) X.env = (false, eval e X.env) :: starEach es X.env) (hpl : (backTo pos (starEach es X.env)).any (·.1) = false) : PE X (.Call (.Name x p) (e :: es) [] pos) (tz X.K m fun st => (g st).bind fun ps st => match getAll ps st with
    | some ds => lift (fnD b ds) st
    | none => .stuck) := by
  have key : PE X (.Call (.Name x p) (e :: es) [] pos) (tCB (rFn X.K b) (tzPs X.K m g)) := by
    have hcr := cr_fn hc b
    cases b <;> first
      | exact pe_callB hcr hg hm hv ha hn hdb he hpl
      | exact pe_callTy hcr hg hm hv ha hn hdb he hpl
  refine key.zm fun σ H Q ⟨e, w, st, s, P⟩ => ?_
  refine ⟨e, w, st, s, P.bind.mono fun ps st1 w1 H1 s1 t1 P1 xs hx => ?_⟩
  split at P1
  · rename_i ds gx
    obtain ⟨v, hv, P4⟩ := P1.lift
    exact fn_ok s1 (hx.views s1 gx) hv fun z w' H' s' t' r => P4.okT s' t' z (r.since t1.dom)
  · exact P1.no.elim
end
end ZZ

/-! ZG: statements. -/
namespace ZZ
open L2 PyProof.Rows PySem.Spec PySem

structure SStep {ix : Ix} (e : En ix) (w w' : Wd) : Prop where
  le : w.le w'
  hfr : ∀ a, w'.ha = some a → w.ha = some a ∨ lv e.B a = none
theorem SStep.refl {ix : Ix} (e : En ix) (w : Wd) : SStep e w w := ⟨Wd.le_refl w, fun _ h => .inl h⟩
theorem SStep.trans {ix : Ix} {e : En ix} {a b c : Wd} (h : SStep e a b) (k : SStep e b c) : SStep e a c := ⟨Wd.le_trans h.le k.le, fun x q => (k.hfr x q).elim (fun z => h.hfr x z) .inr⟩
theorem Step.s {K : Frag} {ix : Ix} {e : En ix} {σ : L2.St} {st st' : S} {w w' : Wd} {H H' : Hp} (t : Step σ st w H w' H' st') (s : Sim K e w H σ st) : SStep e w w' := ⟨t.le, fun a q => (t.hfr a q).elim .inl fun n => .inr (s.nb n)⟩
/-- a value handed back -/
def RvR (K : Frag) {ix : Ix} (e : En ix) (w : Wd) (H : Hp) (x : V) : Rv → Prop
  | .f d => Rep K w x d
  | .o d => ∃ p, x = .ref p ∧ Own K e w H p d
theorem RvOk.r {K : Frag} {ix : Ix} {e : En ix} {w : Wd} {H : Hp} {σ : L2.St} {st : S} {H0 : Hp} {x : V} {v : Rv} (h : RvOk K e w H σ st H0 x v) : RvR K e w H x v := by
  cases v with
  | f d => exact h
  | o d =>
    obtain ⟨p, e1, o, _⟩ := h
    exact ⟨p, e1, o⟩
def PzS (K : Frag) (m : Pm) (e : En m.ix) (w : Wd) (D : Ends) : SR → Prop
  | .nx st' => ∀ σ' w' H', Sim K e w' H' σ' st' → SStep e w w' → D.nx σ' H'
  | .brk st' => ∀ σ' w' H', Sim K e w' H' σ' st' → SStep e w w' → D.bk σ' H'
  | .cnt st' => ∀ σ' w' H', Sim K e w' H' σ' st' → SStep e w w' → D.ct σ' H'
  | .ret v st' => ∀ x σ' w' H', Sim K e w' H' σ' st' → SStep e w w' → RvR K e w' H' x v → D.rt x H'
  | .exc x st' => ∀ cls d σ' w' H', Sim K e w' H' σ' st' → SStep e w w' → m.X K cls d x w' H' → m.wx cls d σ' H'
  | .stuck => False
def tzS (K : Frag) (m : Pm) (f : S → SR) : TS := fun D σ H => ∃ e w st, Sim K e w H σ st ∧ PzS K m e w D (f st)
section
variable {K : Frag} {m : Pm} {e : En m.ix} {σ : L2.St} {st : S} {w w' : Wd} {H : Hp} {D D' : Ends} {r : SR}
theorem PzS.shift (h : PzS K m e w D r) (t : SStep e w w') : PzS K m e w' D r := by
  cases r with
  | nx st' => exact fun σ' w2 H' s k => h σ' w2 H' s (t.trans k)
  | brk st' => exact fun σ' w2 H' s k => h σ' w2 H' s (t.trans k)
  | cnt st' => exact fun σ' w2 H' s k => h σ' w2 H' s (t.trans k)
  | ret v st' => exact fun x σ' w2 H' s k => h x σ' w2 H' s (t.trans k)
  | exc x st' => exact fun c d σ' w2 H' s k => h c d σ' w2 H' s (t.trans k)
  | stuck => exact h
/-- an expression, then a statement -/
theorem PzS.s {α : Type} {r : Res α} {k : α → S → SR} (s : Sim K e w H σ st) (h : PzS K m e w D (r.s k)) : Pz K m e σ st w H r fun a st1 w1 H1 => PzS K m e w1 D (k a st1) := by
  cases r with
  | ok a st1 => exact fun w1 H1 s1 t1 => PzS.shift h (t1.s s)
  | exc x st1 => exact fun c d w1 H1 s1 t1 q => h c d σ w1 H1 s1 (t1.s s) q
  | stuck => exact h
theorem PzS.seq {k : S → SR} (h : PzS K m e w D (r.seq k)) : PzS K m e w { D with nx := fun σ' H' => ∃ w' st', Sim K e w' H' σ' st' ∧ SStep e w w' ∧ r = .nx st' ∧ PzS K m e w' D (k st') } r := by
  cases r with
  | nx st' => exact fun σ' w2 H' s t => ⟨w2, st', s, t, rfl, PzS.shift h t⟩
  | brk st' => exact h
  | cnt st' => exact h
  | ret v st' => exact h
  | exc x st' => exact h
  | stuck => exact h
theorem PzS.ends (h : PzS K m e w D r) (k1 : ∀ σ H, D.nx σ H → D'.nx σ H) (k2 : ∀ σ H, D.bk σ H → D'.bk σ H) (k3 : ∀ σ H, D.ct σ H → D'.ct σ H) (k4 : ∀ x H, D.rt x H → D'.rt x H) : PzS K m e w D' r := by
  cases r with
  | nx st' => exact fun σ' w2 H' s t => k1 _ _ (h σ' w2 H' s t)
  | brk st' => exact fun σ' w2 H' s t => k2 _ _ (h σ' w2 H' s t)
  | cnt st' => exact fun σ' w2 H' s t => k3 _ _ (h σ' w2 H' s t)
  | ret v st' => exact fun x σ' w2 H' s t q => k4 _ _ (h x σ' w2 H' s t q)
  | exc x st' => exact h
  | stuck => exact h
theorem PzS.no (h : PzS K m e w D .stuck) : False := h
theorem PzS.nx (h : PzS K m e w D (.nx st)) (s : Sim K e w H σ st) : D.nx σ H := h σ w H s (SStep.refl ..)
end
/-! ### a name's place is filled -/
section
variable {K : Frag} {ix : Ix} {e : En ix} {σ : L2.St} {st : S} {w w' : Wd} {H : Hp}
theorem get_put_self {i : Nat} {s : Slot} (h : i < st.sl.length) : (st.put i s).sl[i]? = some s := List.getElem?_set_self h
theorem get_put_ne {i j : Nat} {s : Slot} (h : i ≠ j) : (st.put i s).sl[j]? = st.sl[j]? := List.getElem?_set_ne h
theorem Sim.put (s : Sim K e w H σ st) {i : Nat} {x : V} {sl : Slot} (ok : SlotOk K e w H (some (some x)) (some sl)) (ap : ∀ p d, sl = .ow d → x = .ref p → ∀ j d', j ≠ i → st.sl[j]? = some (.ow d') → σ[j]? ≠ some (some (.ref p))) : Sim K e w H (σ.set i (some x)) (st.put i sl) := by
  by_cases hi : i < st.sl.length
  · have hi' : i < σ.length := by rw [s.len]; exact hi
    refine ⟨by show (σ.set i (some x)).length = (st.sl.set i sl).length; rw [List.length_set, List.length_set]; exact s.len, fun j => ?_, fun j l p d d' h1 h2 h3 h4 => ?_, s.sub, s.nt, s.fr, s.fsh, s.hand⟩
    · by_cases hj : i = j
      · subst hj
        rw [List.getElem?_set_self hi', get_put_self hi]
        exact ok
      · rw [List.getElem?_set_ne hj, get_put_ne hj]
        exact s.sl j
    · have self_ne : ∀ (j l : Nat) (d d' : D), j = i → l ≠ i → (st.put i sl).sl[j]? = some (.ow d) → (st.put i sl).sl[l]? = some (.ow d') → (σ.set i (some x))[j]? = some (some (.ref p)) → (σ.set i (some x))[l]? = some (some (.ref p)) → False := fun j l d d' e1 e2 h1 h2 h3 h4 => by
        subst e1
        rw [get_put_self hi] at h1
        rw [List.getElem?_set_self hi'] at h3
        rw [get_put_ne (Ne.symm e2)] at h2
        rw [List.getElem?_set_ne (Ne.symm e2)] at h4
        exact ap p d (Option.some.inj h1) (Option.some.inj (Option.some.inj h3)) l d' e2 h2 h4
      by_cases hj : j = i
      · by_cases hl : l = i
        · rw [hj, hl]
        · exact (self_ne j l d d' hj hl h1 h2 h3 h4).elim
      · by_cases hl : l = i
        · exact (self_ne l j d' d hl hj h2 h1 h4 h3).elim
        · rw [get_put_ne (Ne.symm hj)] at h1
          rw [get_put_ne (Ne.symm hl)] at h2
          rw [List.getElem?_set_ne (Ne.symm hj)] at h3
          rw [List.getElem?_set_ne (Ne.symm hl)] at h4
          exact s.inj j l p d d' h1 h2 h3 h4
  · have e1 : σ.set i (some x) = σ := List.set_eq_of_length_le (by rw [s.len]; omega)
    have e2 : st.put i sl = st := by
      unfold S.put
      rw [List.set_eq_of_length_le (by omega)]
    rw [e1, e2]
    exact s
theorem Sim.put_f (s : Sim K e w H σ st) {i : Nat} {x : V} {d : D} (r : Rep K w x d) : Sim K e w H (σ.set i (some x)) (st.put i (.fz d)) := s.put ⟨x, rfl, r⟩ fun _ _ h => nomatch h
theorem Sim.put_v (s : Sim K e w H σ st) {i : Nat} {x : V} {v : Rv} {H0 : Hp} (r : RvOk K e w H σ st H0 x v) : Sim K e w H (σ.set i (some x)) (st.put i v.slot) := by
  cases v with
  | f d => exact s.put_f r
  | o d =>
    obtain ⟨p, rfl, o, ap, _⟩ := r
    refine s.put ⟨p, rfl, o⟩ fun p' d' h1 h2 j d2 hj h3 h4 => ?_
    cases h2
    exact ap j d2 h3 h4
end
section
variable {X : Cx} {m : Pm} {a b c : Expr} {pos : Pos} {es : List Expr} {s : Stmt} {ss : List Stmt}
theorem zs_nil : PSs X [] (tzS X.K m fun st => .nx st) := pss_nil.zm fun D σ H ⟨e, w, st, s, P⟩ => P.nx s
theorem zs_cons {f g : S → SR} (h : PS X s (tzS X.K m f)) (k : PSs X ss (tzS X.K m g)) : PSs X (s :: ss) (tzS X.K m fun st => (f st).seq g) := (pss_cons h k).zm fun D σ H ⟨e, w, st, s, P⟩ =>
  ⟨e, w, st, s, P.seq.ends (fun σ' H' ⟨w', st', s', t', _, P'⟩ => ⟨e, w', st', s', P'⟩) (fun _ _ z => z) (fun _ _ z => z) (fun _ _ z => z)⟩
theorem zs_expr {f : Ev Rv} (h : PE X a (tz X.K m f)) (hs : swapsWith a none pos.line X.env = pure false) : PS X (.Expr a pos) (tzS X.K m fun st => (f st).s fun _ st => .nx st) := (ps_expr h hs).zm fun D σ H ⟨e, w, st, s, P⟩ =>
  ⟨e, w, st, s, (P.s s).mono fun v st1 w1 H1 s1 t1 P1 x r => P1.nx s1⟩
theorem zs_pass : PS X (.Pass pos) (tzS X.K m fun st => .nx st) := ps_pass.zm fun D σ H ⟨e, w, st, s, P⟩ => P.nx s
theorem zs_brk : PS X (.Break pos) (tzS X.K m fun st => .brk st) := ps_break.zm fun D σ H ⟨e, w, st, s, P⟩ => P σ w H s (SStep.refl ..)
theorem zs_cnt : PS X (.Continue pos) (tzS X.K m fun st => .cnt st) := ps_continue.zm fun D σ H ⟨e, w, st, s, P⟩ => P σ w H s (SStep.refl ..)
theorem zs_retn : PS X (.Return none pos) (tzS X.K m fun st => .ret (.f .non) st) := ps_retN.zm fun D σ H ⟨e, w, st, s, P⟩ => P .non σ w H s (SStep.refl ..) .non
theorem zs_ret {f : Ev Rv} (h : PE X a (tz X.K m f)) : PS X (.Return (some a) pos) (tzS X.K m fun st => (f st).s fun v st => .ret v st) := (ps_ret h).zm fun D σ H ⟨e, w, st, s, P⟩ =>
  ⟨e, w, st, s, (P.s s).mono fun v st1 w1 H1 s1 t1 P1 x r => P1 x σ w1 H1 s1 (SStep.refl ..) r.r⟩
theorem zs_retv {i : Nat} {x : Str} {r : S → Res Rv} {p : Pos} (hN : X.N[i]? = some x) (hv : Vis X.env.scope x) (hd : (x == ("__debug__" : Str)) = false) (hcd : (x == ("__classdict__" : Str)) = false) : PS X (.Return (some (.Name x p)) pos) (tzS X.K m fun st => retZ (.var i) (r st) st) := (ps_ret (pe_var hN hv hd hcd)).zm fun D σ H ⟨e, w, st, s, P⟩ => by
  have P : PzS X.K m e w D (match st.sl[i]? with
    | some (.ow d) => .ret (.o d) st
    | some (.fz d) => .ret (.f d) st
    | _ => .stuck) := P
  have q := s.sl i
  cases hs : st.sl[i]? with
  | none => rw [hs] at P; exact P.no.elim
  | some sl =>
    rw [hs] at P q
    cases sl with
    | un => exact P.no.elim
    | sp t => exact P.no.elim
    | fz d =>
      obtain ⟨v, e1, r⟩ := q
      exact ⟨v, e1, P v σ w H s (SStep.refl ..) r⟩
    | ow d =>
      obtain ⟨p, e1, r⟩ := q
      exact ⟨.ref p, e1, P (.ref p) σ w H s (SStep.refl ..) ⟨p, rfl, r⟩⟩
theorem zs_if {f : Ev Bool} {g h : S → SR} {t e : List Stmt} (hc : PT X c (tzT X.K m f)) (ht : PSs X t (tzS X.K m g)) (he : PSs X e (tzS X.K m h)) : PS X (.If c t e pos) (tzS X.K m fun st => (f st).s fun b st => if b = true then g st else h st) := (ps_if hc ht he).zm fun D σ H ⟨e, w, st, s, P⟩ => by
  refine ⟨e, w, st, s, (P.s s).mono fun b st1 w1 H1 s1 t1 P1 => ?_⟩
  cases b with
  | true => exact ⟨e, w1, st1, s1, P1⟩
  | false => exact ⟨e, w1, st1, s1, P1⟩
/-- a name is stored -/
theorem zs_set {i : Nat} {x : Str} {f : Ev Rv} {pos' : Pos} (hN : X.N.Nodup) (hi : X.N[i]? = some x) (hx : Loc X.env.scope x) (h : PE X a (tz X.K m f)) (hs : swapsWith a (some (.Name x pos')) pos.line X.env = pure false) (hf : X.fn x = true ∨ X.env.scope.names.lookup x = some .local) :
    PS X (.Assign [.Name x pos'] a pos) (tzS X.K m fun st => (f st).s fun v st => .nx (st.put i v.slot)) := (ps_set hN hi hx h hs hf).zm fun D σ H ⟨e, w, st, s, P⟩ => by
  refine ⟨e, w, st, s, (P.s s).mono fun v st1 w1 H1 s1 t1 P1 x r => ?_⟩
  exact P1.nx (s1.put_v r)
/-! ### targets -/
mutual
def Tg.at_ : Tg → List Nat
  | .nm i => [i]
  | .tp l => Tg.ats l
def Tg.ats : List Tg → List Nat
  | [] => []
  | t :: ts => t.at_ ++ Tg.ats ts
end
/-- only the places l are changed -/
def Upd (σ σ' : L2.St) (l : List Nat) : Prop := σ'.length = σ.length ∧ ∀ j : Nat, j ∉ l → σ'[j]? = σ[j]?
theorem Upd.refl (σ : L2.St) (l : List Nat) : Upd σ σ l := ⟨rfl, fun _ _ => rfl⟩
theorem Upd.trans {σ σ' σ'' : L2.St} {l l' : List Nat} (a : Upd σ σ' l) (b : Upd σ' σ'' l') : Upd σ σ'' (l ++ l') := ⟨b.1.trans a.1, fun j h => by
  rw [List.mem_append, not_or] at h
  exact (b.2 j h.2).trans (a.2 j h.1)⟩
theorem Upd.set (σ : L2.St) (i : Nat) (x : Option V) : Upd σ (σ.set i x) [i] := ⟨List.length_set .., fun j h => by
  have h' : i ≠ j := fun z => h (by simp [z])
  exact List.getElem?_set_ne h'⟩
def tzG (K : Frag) (ix : Ix) (t : Tg) : TG := fun v σ H Q => ∃ (e : En ix), ∃ w st d st', Sim K e w H σ st ∧ Rep K w v d ∧ asg t d st = some st' ∧ ∀ σ', Sim K e w H σ' st' → Upd σ σ' t.at_ → Q σ' H
def tzGs (K : Frag) (ix : Ix) (ts : List Tg) : TGs := fun vs σ H Q => ∃ (e : En ix), ∃ w st ds st', Sim K e w H σ st ∧ Reps K w vs ds ∧ asgs ts ds st = some st' ∧ ∀ σ', Sim K e w H σ' st' → Upd σ σ' (Tg.ats ts) → Q σ' H
theorem _root_.L2.PG.zm {X : Cx} {a : Expr} {t t' : TG} (h : PG X a t) (k : ∀ v σ H Q, t' v σ H Q → t v σ H Q) : PG X a t' := ⟨fun pins s σ H v u Q I r q => h.run pins s σ H v u Q I r (k v σ H Q q)⟩
theorem zg_nm {i : Nat} {x : Str} (hN : X.N.Nodup) (hi : X.N[i]? = some x) (hx : Loc X.env.scope x) (hf : X.fn x = true ∨ X.env.scope.names.lookup x = some .local) : PG X (.Name x pos) (tzG X.K m.ix (.nm i)) := (pg_name hN hi hx hf).zm fun v σ H Q ⟨e, w, st, d, st', s, r, ha, q⟩ => by
  have ha : some (st.put i (.fz d)) = some st' := ha
  cases ha
  exact q _ (s.put_f r) (Upd.set ..)
theorem zgs_nil : PGs X [] (tzGs X.K m.ix []) := by
  refine ⟨fun pins s σ H v u Q I r h => pgs_nil.run pins s σ H v u Q I r ?_⟩
  obtain ⟨e, w, st, ds, st', s', rs, ha, q⟩ := h
  cases ds with
  | nil =>
    cases rs
    cases ha
    exact ⟨rfl, q _ s' (Upd.refl ..)⟩
  | cons d ds => cases ha
theorem zgs_cons {t : Tg} {ts : List Tg} (h : PG X a (tzG X.K m.ix t)) (k : PGs X es (tzGs X.K m.ix ts)) (hs : (assignEach (a :: es) X.env).map (·.2) = assign a X.env :: (assignEach es X.env).map (·.2)) : PGs X (a :: es) (tzGs X.K m.ix (t :: ts)) := by
  refine ⟨fun pins s σ H v u Q I r h' => (pgs_cons h k hs).run pins s σ H v u Q I r ?_⟩
  obtain ⟨e, w, st, ds, st', s', rs, ha, q⟩ := h'
  cases ds with
  | nil => cases rs; cases ha
  | cons d ds =>
    cases rs
    rename_i r rs
    have ha : (match asg t d st with | some st' => asgs ts ds st' | none => none) = some st' := ha
    cases h1 : asg t d st with
    | none => rw [h1] at ha; cases ha
    | some st1 =>
      rw [h1] at ha
      exact ⟨_, _, rfl, e, w, st, d, st1, s', r, h1, fun σ1 s1 u1 => ⟨e, w, st1, ds, st', s1, rs, ha, fun σ2 s2 u2 => q σ2 s2 (u1.trans u2)⟩⟩
theorem asgs_len : ∀ {ts : List Tg} {ds : List D} {st st' : S}, asgs ts ds st = some st' → ds.length = ts.length
  | [], [], _, _, _ => rfl
  | [], _ :: _, _, _, h => by cases h
  | _ :: _, [], _, _, h => by cases h
  | t :: ts, d :: ds, st, st', h => by
    have h : (match asg t d st with | some st' => asgs ts ds st' | none => none) = some st' := h
    cases h1 : asg t d st with
    | none => (rw [h1] at h; cases h)
    | some st1 =>
      rw [h1] at h
      rw [List.length_cons, List.length_cons, asgs_len h]
theorem zg_tp {k : Nat} {ts : List Tg} (hc : X.calm = true) (h : PGs X es (tzGs X.K m.ix ts)) (hn : (assignEach es X.env).length = ts.length) (hst : (assignEach es X.env).findIdx? (·.1) = none) : PG X (.Tuple es k pos) (tzG X.K m.ix (.tp ts)) := (pg_tup hc h hn hst).zm fun v σ H Q ⟨e, w, st, d, st', s, r, ha, q⟩ => by
  cases d with
  | tup ds =>
    have ha : asgs ts ds st = some st' := ha
    cases r with
    | tup hq rs => exact ⟨_, _, rfl, SameSqT s.sub hq, by rw [rs.length, asgs_len ha], e, w, st, ds, st', s, rs, ha, q⟩
  | _ => cases ha
/-- a tuple is taken apart into names -/
theorem zs_sett {f : Ev Rv} {l : List Tg} {tg : Expr} (h : PE X a (tz X.K m f)) (hg : PG X tg (tzG X.K m.ix (.tp l))) (hs : swapsWithSole [tg] a pos.line X.env = pure false) (hw : swappedStores [tg] a X.env = pure none) (h1 : (assignEach [tg] X.env).map (·.2) = [assign tg X.env]) :
    PS X (.Assign [tg] a pos) (tzS X.K m fun st => (frz (f st)).s fun d st => match asg (.tp l) d st with
    | some st => .nx st
    | none => .stuck) := (ps_asg (zf_of h) hg hs hw h1).zm fun D σ H ⟨e, w, st, s, P⟩ => by
  refine ⟨e, w, st, s, (P.s s).mono fun d st1 w1 H1 s1 t1 P1 x r => ?_⟩
  cases h2 : asg (.tp l) d st1 with
  | none => rw [h2] at P1; exact P1.no.elim
  | some st2 =>
    rw [h2] at P1
    exact ⟨e, w1, st1, d, st2, s1, r, h2, fun σ' s' _ => P1.nx s'⟩
end
end ZZ

/-! ZH: stores at once, stores into lists, loops. -/
namespace ZZ
open L2 PyProof.Rows PySem.Spec PySem

/-- values in a row; the own ones are unlike -/
inductive RvsOk (K : Frag) {ix : Ix} (e : En ix) (w : Wd) (H : Hp) (σ : L2.St) (st : S) : Hp → List V → List Rv → Prop
  | nil {H0 : Hp} : RvsOk K e w H σ st H0 [] []
  | cons {H0 H1 : Hp} {x : V} {v : Rv} {xs : List V} {vs : List Rv} : RvOk K e w H σ st H0 x v → (∀ a o, lv H0 a = some o → ∃ o', lv H1 a = some o') → (∀ p d, x = .ref p → v = .o d → ∃ o, lv H1 p = some o) → RvsOk K e w H σ st H1 xs vs → RvsOk K e w H σ st H0 (x :: xs) (v :: vs)
section
variable {K : Frag} {m : Pm} {e : En m.ix} {σ : L2.St} {st st' : S} {w w' : Wd} {H H' H0 : Hp}
theorem RvOk.step {x : V} {v : Rv} (r : RvOk K e w H σ st H0 x v) (t : Step σ st w H w' H' st') : RvOk K e w' H' σ st' H0 x v := by
  cases v with
  | f d => exact Rep.mono t.le r
  | o d =>
    obtain ⟨p, e1, o, ap, n⟩ := r
    obtain ⟨ob, hb, ho⟩ := o.at_.lv
    have k := t.keep p ob ho ap o.nh
    obtain ⟨a1, a2⟩ := t.ap p ob ho ap
    exact ⟨p, e1, ⟨a2 o.nf, o.nb, t.nh ho o.nh, o.at_.mono t.le ((lv_out k).trans hb.symm)⟩, a1, n⟩
theorem RvsOk.step : ∀ {H0 : Hp} {xs : List V} {vs : List Rv}, RvsOk K e w H σ st H0 xs vs → Step σ st w H w' H' st' → RvsOk K e w' H' σ st' H0 xs vs
  | _, _, _, .nil, _ => .nil
  | _, _, _, .cons r d n q, t => .cons (r.step t) d n (RvsOk.step q t)
theorem Apart.put {p : Addr} (a : Apart σ st p) (s : σ.length = st.sl.length) {i : Nat} {x : V} {v : Rv} (h : ∀ d, v = .o d → x ≠ .ref p) : Apart (σ.set i (some x)) (st.put i v.slot) p := fun j d hj hv => by
  by_cases e1 : i = j
  · subst e1
    by_cases hi : i < st.sl.length
    · rw [get_put_self hi] at hj
      rw [List.getElem?_set_self (by rw [s]; exact hi)] at hv
      cases v with
      | f d => cases hj
      | o d' => exact h d' rfl (Option.some.inj (Option.some.inj hv))
    · have z : (st.put i v.slot).sl[i]? = none := List.getElem?_eq_none (by show (st.sl.set i v.slot).length ≤ i; rw [List.length_set]; omega)
      rw [z] at hj; cases hj
  · rw [get_put_ne e1] at hj
    rw [List.getElem?_set_ne e1] at hv
    exact a j d hj hv
theorem RvOk.put {x y : V} {v u : Rv} {H1 : Hp} (r : RvOk K e w H σ st H1 y u) (s : σ.length = st.sl.length) {i : Nat} (n : ∀ p d, x = .ref p → v = .o d → ∃ o, lv H1 p = some o) : RvOk K e w H (σ.set i (some x)) (st.put i v.slot) H1 y u := by
  cases u with
  | f d => exact r
  | o d =>
    obtain ⟨p, e1, o, ap, hn⟩ := r
    refine ⟨p, e1, o, ap.put s fun d' h1 h2 => ?_, hn⟩
    obtain ⟨ob, z⟩ := n p d' h2 h1
    rw [hn] at z; cases z
theorem RvsOk.put {x : V} {v : Rv} : ∀ {H1 : Hp} {xs : List V} {vs : List Rv}, RvsOk K e w H σ st H1 xs vs → σ.length = st.sl.length → ∀ {i : Nat}, (∀ p d, x = .ref p → v = .o d → ∃ o, lv H1 p = some o) → RvsOk K e w H (σ.set i (some x)) (st.put i v.slot) H1 xs vs
  | _, _, _, .nil, _, _, _ => .nil
  | _, _, _, .cons r d n q, s, i, k => .cons (r.put s k) d n (RvsOk.put q s fun p d' e1 e2 => by
    obtain ⟨o, z⟩ := k p d' e1 e2
    exact d p o z)
end
def tzRs (K : Frag) (m : Pm) (f : Ev (List Rv)) : TA := fun σ H Q => ∃ e w st, Sim K e w H σ st ∧ Pz K m e σ st w H (f st) fun vs st' w' H' => ∀ xs, RvsOk K e w' H' σ st' H xs vs → Q xs H'
section
variable {X : Cx} {m : Pm} {a b c : Expr} {pos : Pos} {es : List Expr}
theorem zr_nil : PA X [] (tzRs X.K m fun st => .ok [] st) := pa_nil.zm fun σ H Q ⟨e, w, st, s, P⟩ => P.ok s [] .nil
theorem zr_cons {f : Ev Rv} {g : Ev (List Rv)} (h : PE X a (tz X.K m f)) (k : PA X es (tzRs X.K m g)) (hs : starEach (a :: es) X.env = (false, eval a X.env) :: starEach es X.env) : PA X (a :: es) (tzRs X.K m fun st => (f st).bind fun d st => (g st).bind fun ds st => .ok (d :: ds) st) := (pa_cons h k hs).zm fun σ H Q ⟨e, w, st, s, P⟩ => by
  refine ⟨e, w, st, s, P.bind.mono fun d st1 w1 H1 s1 t1 P1 x r => ?_⟩
  refine ⟨e, w1, st1, s1, P1.bind.mono fun ds st2 w2 H2 s2 t2 P2 xs rs => ?_⟩
  refine P2.ok s2 _ (.cons (r.step t2) t1.dom (fun p d' e1 e2 => ?_) rs)
  subst e2
  obtain ⟨p', e3, o, _⟩ := r
  subst e1
  cases e3
  obtain ⟨ob, _, z⟩ := o.at_.lv
  exact ⟨ob, z⟩
theorem zs_par2 {i j : Nat} {x y : Str} {f : Ev (List Rv)} {px py pt : Pos} {kt k2 pt2} (hc : X.calm = true) (hN : X.N.Nodup) (hi : X.N[i]? = some x) (hj : X.N[j]? = some y) (hij : i ≠ j)
    (hx : X.env.scope.names.lookup x = some .local) (hy : X.env.scope.names.lookup y = some .local) (ha : PA X [a, b] (tzRs X.K m f))
    (hsw : swappedStores [.Tuple [.Name x px, .Name y py] kt pt] (.Tuple [a, b] k2 pt2) X.env = pure (some [x, y]))
    (hs : swapsWithSole [.Tuple [.Name x px, .Name y py] kt pt] (.Tuple [a, b] k2 pt2) pos.line X.env = pure false) :
    PS X (.Assign [.Tuple [.Name x px, .Name y py] kt pt] (.Tuple [a, b] k2 pt2) pos) (tzS X.K m fun st => (f st).s fun vs st => match putAll st [i, j] vs with
    | some st => .nx st
    | none => .stuck) := (ps_par hc hN hi hj hij hx hy ha hsw hs).zm fun D σ H ⟨e, w, st, s, P⟩ => by
  refine ⟨e, w, st, s, (P.s s).mono fun vs st1 w1 H1 s1 t1 P1 xs rs => ?_⟩
  cases rs with
  | nil => exact P1.no.elim
  | cons r d n q =>
    cases q with
    | nil => exact P1.no.elim
    | cons r2 d2 n2 q2 =>
      cases q2 with
      | cons => exact P1.no.elim
      | nil => exact ⟨_, _, rfl, P1.nx ((s1.put_v r).put_v (r2.put s1.len n))⟩
theorem zs_par3 {i j l : Nat} {x y z : Str} {f : Ev (List Rv)} {px py pz pt : Pos} {kt k2 pt2} (hc : X.calm = true) (hN : X.N.Nodup) (hi : X.N[i]? = some x) (hj : X.N[j]? = some y) (hl : X.N[l]? = some z) (hij : i ≠ j) (hil : i ≠ l) (hjl : j ≠ l)
    (hx : X.env.scope.names.lookup x = some .local) (hy : X.env.scope.names.lookup y = some .local) (hz : X.env.scope.names.lookup z = some .local) (ha : PA X [a, b, c] (tzRs X.K m f))
    (hsw : swappedStores [.Tuple [.Name x px, .Name y py, .Name z pz] kt pt] (.Tuple [a, b, c] k2 pt2) X.env = pure (some [x, y, z]))
    (hs : swapsWithSole [.Tuple [.Name x px, .Name y py, .Name z pz] kt pt] (.Tuple [a, b, c] k2 pt2) pos.line X.env = pure false) :
    PS X (.Assign [.Tuple [.Name x px, .Name y py, .Name z pz] kt pt] (.Tuple [a, b, c] k2 pt2) pos) (tzS X.K m fun st => (f st).s fun vs st => match putAll st [i, j, l] vs with
    | some st => .nx st
    | none => .stuck) := (ps_par3 hc hN hi hj hl hij hil hjl hx hy hz ha hsw hs).zm fun D σ H ⟨e, w, st, s, P⟩ => by
  refine ⟨e, w, st, s, (P.s s).mono fun vs st1 w1 H1 s1 t1 P1 xs rs => ?_⟩
  cases rs with
  | nil => exact P1.no.elim
  | cons r d n q =>
    cases q with
    | nil => exact P1.no.elim
    | cons r2 d2 n2 q2 =>
      cases q2 with
      | nil => exact P1.no.elim
      | cons r3 d3 n3 q3 =>
        cases q3 with
        | cons => exact P1.no.elim
        | nil =>
          have s2 := s1.put_v (i := i) r
          have n' : ∀ p d, _ = V.ref p → _ = Rv.o d → ∃ o, _ = some o := fun p d' e1 e2 => by
            obtain ⟨o, z⟩ := n p d' e1 e2
            exact d2 p o z
          exact ⟨_, _, _, rfl, P1.nx ((s2.put_v (r2.put s1.len n)).put_v ((r3.put s1.len n').put s2.len n2))⟩
/-! ### what an own list is made into -/
theorem Sim.ownUpd {K : Frag} {ix : Ix} {e : En ix} {σ : L2.St} {st : S} {w : Wd} {H : Hp} (s : Sim K e w H σ st) {i : Nat} {p : Addr} {d d' : ZZ.D} {o : HO} (hs : st.sl[i]? = some (.ow d)) (hp : σ[i]? = some (some (.ref p))) (at_ : OwnAt K w (upd H p o) p d') :
    Sim K e w (upd H p o) σ (st.put i (.ow d')) ∧ Step σ st w H w (upd H p o) (st.put i (.ow d')) := by
  have lt : i < st.sl.length := (List.getElem?_eq_some_iff.mp hs).1
  have q := s.sl i
  rw [hs] at q
  obtain ⟨p', e1, ow⟩ := q
  rw [hp] at e1; cases e1
  obtain ⟨ob, hob, nt⟩ := ow.at_.some
  have ne : ∀ {a u}, w.F a = some u → a ≠ p := fun {a u} h z => by rw [z, ow.nf] at h; cases h
  have un : ∀ {j : Nat} {d2 : ZZ.D}, (st.put i (.ow d')).sl[j]? = some (.ow d2) → ∃ d3, st.sl[j]? = some (.ow d3) := fun {j d2} h => by
    by_cases hj : i = j
    · subst hj; exact ⟨d, hs⟩
    · rw [get_put_ne hj] at h; exact ⟨d2, h⟩
  refine ⟨⟨by show σ.length = (st.sl.set i _).length; rw [List.length_set]; exact s.len, fun j => ?_, fun j l q d1 d2 h1 h2 h3 h4 => ?_, fun b u h => ?_, s.nt, ⟨fun a u h h1 => ?_, fun a u h => ?_, s.fr.hb, fun t => ow.at_.tabs (s.fr.tab t)⟩, s.fsh, s.hand.mono (Wd.le_refl w) rfl fun a ea => ⟨(s.hand_some ea).1, ?_⟩⟩,
    ⟨Wd.le_refl w, fun a u h => ?_, fun a u h ap _ => ?_, fun a u h ap => ⟨fun j d2 h1 h2 => ?_, id⟩, fun _ z => .inl z⟩⟩
  · by_cases hj : i = j
    · subst hj
      rw [get_put_self lt]
      exact ⟨p, hp, ow.nf, ow.nb, ow.nh, at_⟩
    · rw [get_put_ne hj]
      have z := s.sl j
      cases h : st.sl[j]? with
      | none => trivial
      | some sl =>
        rw [h] at z
        cases sl with
        | un => trivial
        | sp t => exact z
        | fz d2 => exact z
        | ow d2 =>
          obtain ⟨p2, e2, o2⟩ := z
          have np : p2 ≠ p := fun z => hj (s.inj i j p d d2 hs h hp (z ▸ e2))
          exact ⟨p2, e2, o2.nf, o2.nb, o2.nh, o2.at_.mono (Wd.le_refl w) (upd_ne np)⟩
  · obtain ⟨d3, h1⟩ := un h1
    obtain ⟨d4, h2⟩ := un h2
    exact s.inj j l q d3 d4 h1 h2 h3 h4
  · rw [upd_ne (ne h)]; exact s.sub b u h
  · have np : a ≠ p := fun z => by rw [z, ow.nb] at h; cases h
    rw [lv_ne np]; exact s.fr.keep a u h h1
  · have np : a ≠ p := fun z => by rw [z, ow.nb] at h; cases h
    obtain ⟨u', h'⟩ := s.fr.dom a u h
    exact ⟨u', by rw [lv_ne np]; exact h'⟩
  · have np : a ≠ p := fun z => ow.nh (z ▸ ea)
    exact upd_ne np
  · by_cases np : a = p
    · exact ⟨o, by rw [np]; exact lv_some upd_same (by cases at_ with | lst h r => exact (by rw [upd_same] at h; cases h; exact fun _ z => nomatch z) | dK h r => exact (by rw [upd_same] at h; cases h; exact fun _ z => nomatch z) | dT h r => exact (by rw [upd_same] at h; cases h; exact fun _ z => nomatch z))⟩
    · exact ⟨u, by rw [lv_ne np]; exact h⟩
  · have np : a ≠ p := fun z => ap i d hs (z ▸ hp)
    rw [lv_ne np]; exact h
  · obtain ⟨d3, h1⟩ := un h1
    exact ap j d3 h1 h2
theorem Sim.own_get {K : Frag} {ix : Ix} {e : En ix} {σ : L2.St} {st : S} {w : Wd} {H : Hp} (s : Sim K e w H σ st) {i : Nat} {l : List ZZ.D} (hs : st.sl[i]? = some (.ow (.lst l))) : ∃ p vs, σ[i]? = some (some (.ref p)) ∧ H p = some (.lst vs) ∧ Reps K w vs l := by
  have q := s.sl i
  rw [hs] at q
  obtain ⟨p, e1, ow⟩ := q
  cases ow.at_ with
  | lst h r => exact ⟨p, _, e1, h, r⟩
/-- the hand's content is changed -/
theorem Sim.handUpd {K : Frag} {ix : Ix} {e : En ix} {σ : L2.St} {st : S} {w : Wd} {H : Hp} (s : Sim K e w H σ st) {h : Addr} {vs : List V} {ds : List ZZ.D} (hh : w.ha = some h) (r : Reps K w vs ds) :
    Sim K e w (upd H h (.lst vs)) σ ⟨st.sl, some ds⟩ := by
  obtain ⟨nf, ob, hob, nt⟩ := s.hand_some hh
  have ne : ∀ {a u}, w.F a = some u → a ≠ h := fun {a u} q z => by rw [z, nf] at q; cases q
  refine ⟨s.len, fun j => ?_, s.inj, fun b u q => ?_, s.nt, ⟨fun a u q h1 => ?_, fun a u q => ?_, s.fr.hb, fun t => ?_⟩, s.fsh, h, vs, hh, nf, upd_same, r⟩
  · have z := s.sl j
    show SlotOk K e w (upd H h (.lst vs)) σ[j]? st.sl[j]?
    cases hj : st.sl[j]? with
    | none => trivial
    | some sl =>
      rw [hj] at z
      cases sl with
      | un => trivial
      | sp t => exact z
      | fz d2 => exact z
      | ow d2 =>
        obtain ⟨p2, e2, o2⟩ := z
        exact ⟨p2, e2, o2.nf, o2.nb, o2.nh, o2.at_.mono (Wd.le_refl w) (upd_ne fun z => o2.nh (z ▸ hh))⟩
  · rw [upd_ne (ne q)]; exact s.sub b u q
  · rw [lv_ne fun (z : a = h) => h1 (by rw [z]; exact hh)]; exact s.fr.keep a u q h1
  · obtain ⟨u', q'⟩ := s.fr.dom a u q
    by_cases np : a = h
    · exact ⟨.lst vs, by rw [np]; exact lv_lst⟩
    · exact ⟨u', by rw [lv_ne np]; exact q'⟩
  · have q := s.hand
    cases hd : st.hd with
    | none => rw [hd] at q; rw [show w.ha = none from q] at hh; cases hh
    | some ds' =>
      rw [hd] at q
      obtain ⟨h', vs', e1, _, e2, _⟩ := q
      rw [hh] at e1; cases e1
      exact tabs_upd (s.fr.tab t) e2 (fun _ z => nomatch z) (fun _ z => nomatch z)
theorem Sim.get_some {K : Frag} {ix : Ix} {e : En ix} {σ : L2.St} {st : S} {w : Wd} {H : Hp} (s : Sim K e w H σ st) {i : Nat} {d : ZZ.D} (h : st.get i = some d) : ∃ x, σ[i]? = some (some x) ∧ View K w H x d := by
  have q := s.sl i
  unfold S.get at h
  cases hs : st.sl[i]? with
  | none => (rw [hs] at h; cases h)
  | some sl =>
    rw [hs] at h q
    cases sl with
    | un => cases h
    | sp t => cases h
    | fz d' =>
      obtain ⟨x, e1, r⟩ := q
      cases h
      exact ⟨x, e1, .rep r⟩
    | ow d' =>
      obtain ⟨p, e1, o⟩ := q
      cases h
      exact ⟨_, e1, .own o.at_⟩
def notStar : Expr → Bool
  | .Starred _ _ => false
  | _ => true
theorem star_cons {env : Env} (h : notStar a = true) : starEach (a :: es) env = (false, eval a env) :: starEach es env := by cases a <;> first | rfl | cases h
theorem star_any {env : Env} {p : Pos} : ∀ {es : List Expr}, es.all notStar = true → (backTo p (starEach es env)).any (·.1) = false
  | [], _ => rfl
  | a :: es, h => by
    (rw [List.all_cons, Bool.and_eq_true] at h)
    rw [star_cons h.1]
    exact star_any h.2
theorem few_one {env : Env} {p : Pos} (h : notStar a = true) : ((backTo p (starEach [a] env)).all (fun x => !x.1) && (backToKw p (keywordEach [] env)).all (fun x => x.1.isSome)
      && decide ([a].length + ([] : List Keyword).length + (if ([] : List Keyword).isEmpty then 0 else 1) < 30)) = true := by
  rw [star_cons h]; rfl
theorem ze_append {x : Str} {p1 apos cpos : Pos} {to te : TE} (ho : PE X (.Name x p1) to) (h : PE X a te) (hn : notStar a = true) (hline : (apos.endLine == cpos.line) = true) : PE X (.Call (.Attribute (.Name x p1) "append" apos) [a] [] cpos) (tBM X.K "list" rAppend to (tCons te tNil)) :=
  pe_bm PySem.F.plainAttrs_list PySem.F.slot_list_append PySem.F.type_list_append mt_append ho (pa_cons h pa_nil (star_cons hn)) rfl (few_one hn) hline (star_cons hn) rfl
theorem ze_extend {x : Str} {p1 apos cpos : Pos} {to te : TE} (ho : PE X (.Name x p1) to) (h : PE X a te) (hn : notStar a = true) (hline : (apos.endLine == cpos.line) = true) : PE X (.Call (.Attribute (.Name x p1) "extend" apos) [a] [] cpos) (tBM X.K "list" rExtend to (tCons te tNil)) :=
  pe_bm PySem.F.plainAttrs_list PySem.F.slot_list_extend PySem.F.type_list_extend mt_extend ho (pa_cons h pa_nil (star_cons hn)) rfl (few_one hn) hline (star_cons hn) rfl
theorem zs_app {i : Nat} {f : Ev ZZ.D} {x : Str} {p1 apos cpos : Pos} (hN : X.N[i]? = some x) (hv : Vis X.env.scope x) (hd : (x == ("__debug__" : Str)) = false) (hcd : (x == ("__classdict__" : Str)) = false) (h : PE X a (tzF X.K m f)) (hn : notStar a = true) (hline : (apos.endLine == cpos.line) = true) :
    PS X (.Expr (.Call (.Attribute (.Name x p1) "append" apos) [a] [] cpos) pos) (tzS X.K m fun st => if st.ownL i = true then (f st).s fun v st => match appD st i v with
      | some st => .nx st
      | none => .stuck
    else .stuck) := (ps_expr (ze_append (pe_var hN hv hd hcd) h hn hline) rfl).zm fun D σ H ⟨e, w, st, s, P⟩ => by
  dsimp only at P
  split at P
  · rename_i ho
    unfold S.ownL at ho
    split at ho
    · rename_i l hs
      obtain ⟨p, vs, h1, h2, r⟩ := s.own_get hs
      refine ⟨.ref p, h1, .inl ⟨rfl, vs, .of h2⟩, e, w, st, s, (P.s s).mono fun d st1 w1 H1 s1 t1 P1 y ry => ?_⟩
      cases h3 : appD st1 i d with
      | none => rw [h3] at P1; exact P1.no.elim
      | some st2 =>
        rw [h3] at P1
        unfold appD at h3
        split at h3
        · rename_i l1 hs1
          split at h3
          · rename_i hl
            cases h3
            obtain ⟨p', vs1, k1, k2, r1⟩ := s1.own_get hs1
            rw [h1] at k1; cases k1
            have u := s1.ownUpd hs1 h1 (o := .lst (vs1 ++ [y])) (.lst upd_same (r1.append (.cons ry .nil)))
            exact ⟨p, vs1, y, rfl, rfl, k2, by rw [← line_eq, r1.length]; exact hl, P1 _ _ _ u.1 (u.2.s s1)⟩
          · cases h3
        · cases h3
    · cases ho
  · exact P.no.elim
theorem zs_ext {i : Nat} {f : Ev ZZ.D} {x : Str} {p1 apos cpos : Pos} (hN : X.N[i]? = some x) (hv : Vis X.env.scope x) (hd : (x == ("__debug__" : Str)) = false) (hcd : (x == ("__classdict__" : Str)) = false) (h : PE X a (tzF X.K m f)) (hn : notStar a = true) (hline : (apos.endLine == cpos.line) = true) :
    PS X (.Expr (.Call (.Attribute (.Name x p1) "extend" apos) [a] [] cpos) pos) (tzS X.K m fun st => if st.ownL i = true then (f st).s fun v st => match extD st i v with
      | some st => .nx st
      | none => .stuck
    else .stuck) := (ps_expr (ze_extend (pe_var hN hv hd hcd) h hn hline) rfl).zm fun D σ H ⟨e, w, st, s, P⟩ => by
  dsimp only at P
  split at P
  · rename_i ho
    unfold S.ownL at ho
    split at ho
    · rename_i l hs
      obtain ⟨p, vs, h1, h2, r⟩ := s.own_get hs
      refine ⟨.ref p, h1, .inl ⟨rfl, vs, .of h2⟩, e, w, st, s, (P.s s).mono fun d st1 w1 H1 s1 t1 P1 y ry => ?_⟩
      cases h3 : extD st1 i d with
      | none => rw [h3] at P1; exact P1.no.elim
      | some st2 =>
        rw [h3] at P1
        unfold extD at h3
        split at h3
        · rename_i l1 l2 hs1
          split at h3
          · rename_i hl
            cases h3
            obtain ⟨p', vs1, k1, k2, r1⟩ := s1.own_get hs1
            rw [h1] at k1; cases k1
            cases ry with
            | lst hb rb =>
              rename_i b ys
              have u := s1.ownUpd hs1 h1 (o := .lst (vs1 ++ ys)) (.lst upd_same (r1.append rb))
              exact ⟨p, b, vs1, ys, rfl, rfl, k2, s1.sub _ _ hb, by rw [← line_eq, r1.length, rb.length]; exact hl, P1 _ _ _ u.1 (u.2.s s1)⟩
          · cases h3
        · cases h3
    · cases ho
  · exact P.no.elim
/-- x[i] = v -/
theorem zs_seti {i : Nat} {f g : Ev ZZ.D} {x : Str} {p1 tpos : Pos} (hN : X.N[i]? = some x) (hv : Vis X.env.scope x) (hd : (x == ("__debug__" : Str)) = false) (hcd : (x == ("__classdict__" : Str)) = false) (h : PE X a (tzF X.K m f)) (hi : PE X b (tzF X.K m g))
    (hpg : ∀ {to ti : TE}, PE X (.Name x p1) to → PE X b ti → PG X (.Subscript (.Name x p1) b tpos) (gSub to ti rSetL))
    (hs : swapsWithSole [.Subscript (.Name x p1) b tpos] a pos.line X.env = pure false) (hw : swappedStores [.Subscript (.Name x p1) b tpos] a X.env = pure none) (h1 : (assignEach [.Subscript (.Name x p1) b tpos] X.env).map (·.2) = [assign (.Subscript (.Name x p1) b tpos) X.env]) :
    PS X (.Assign [.Subscript (.Name x p1) b tpos] a pos) (tzS X.K m fun st => (f st).s fun v st => match st.get i with
    | some _ => (g st).s fun k st => match setD st i k v with
      | some st => .nx st
      | none => .stuck
    | none => .stuck) := (ps_asg h (hpg (pe_var hN hv hd hcd) hi) hs hw h1).zm fun D σ H ⟨e, w, st, s, P⟩ => by
  refine ⟨e, w, st, s, (P.s s).mono fun d st1 w1 H1 s1 t1 P1 y ry => ?_⟩
  cases hg : st1.get i with
  | none => rw [hg] at P1; exact P1.no.elim
  | some d0 =>
    rw [hg] at P1
    obtain ⟨z, hz, vz⟩ := s1.get_some hg
    refine ⟨z, hz, e, w1, st1, s1, (P1.s s1).mono fun k st2 w2 H2 s2 t2 P2 kx rk => ?_⟩
    cases h3 : setD st2 i k d with
    | none => rw [h3] at P2; exact P2.no.elim
    | some st3 =>
      rw [h3] at P2
      unfold setD at h3
      split at h3
      · rename_i l j hs1
        split at h3
        · rename_i j' hj
          cases h3
          obtain ⟨p', vs1, k1, k2, r1⟩ := s2.own_get hs1
          rw [hz] at k1; cases k1
          cases rk
          have u := s2.ownUpd hs1 hz (o := .lst (vs1.set j' y)) (.lst upd_same (r1.set j' (ry.mono t2.le)))
          exact ⟨p', vs1, _, j', rfl, rfl, k2, by rw [r1.length]; exact hj, P2 _ _ _ u.1 (u.2.s s2)⟩
        · cases h3
      · rename_i j hs1
        split at h3
        · rename_i l hl
          split at h3
          · rename_i j' hj
            cases h3
            have q := s2.sl i
            rw [hs1] at q
            obtain ⟨x', e1, r'⟩ := q
            rw [hz] at e1; cases e1
            cases rk
            cases r' with
            | hand hh =>
              have g := s2.hand
              rw [hl] at g
              obtain ⟨h', vs, k1, k2, k3, k4⟩ := g
              rw [hh] at k1; cases k1
              exact ⟨_, vs, _, j', rfl, rfl, k3, by rw [k4.length]; exact hj, P2 _ _ _ (s2.handUpd hh (k4.set j' (ry.mono t2.le))) (SStep.refl ..)⟩
          · cases h3
        · cases h3
      · cases h3
end
end ZZ

/-! ZI: loops, what is gone over, comprehensions. -/
namespace ZZ
open PySem PySem.Spec PyProof.Rows L2 RZ

section
variable {X : Cx} {m : Pm} {a b c : Expr} {pos : Pos} {es : List Expr}
def rAugZ : Op → R2
  | .add => fun x y H Q => rI0 (fun i j => .int (i + j)) x y H Q ∨ (∃ i j, x = .str i ∧ y = .str j ∧ i.length + j.length ≤ sizeLine ∧ Q (.str (i ++ j)) H)
  | .sub => rI0 fun i j => .int (i - j)
  | .mul => rI CMul fun i j => .int (i * j)
  | _ => fun _ _ _ _ => False
def augOk : Op → Bool
  | .add => true
  | .sub => true
  | .mul => true
  | _ => false
theorem or_augZ : ∀ {o : Op}, augOk o = true → OpR X (inplaceOp (opOf o)) (rAugZ o)
  | .add, _ => iop_add.or iop_add_str
  | .sub, _ => iop_sub
  | .mul, _ => iop_mul
  | .fdiv, h => by cases h
  | .mod, h => by cases h
  | .pow, h => by cases h
/-- x op= e -/
theorem aug_ok {K : Frag} {w : Wd} {H : Hp} {Q : VK} {x y : V} {o : Op} {dx dy d : D} (hx : View K w H x dx) (hy : View K w H y dy) (h : augD o dx dy = some d) (q : ∀ z, Rep K w z d → Q z H) : rAugZ o x y H Q := by
  unfold augD at h
  split at h
  · cases h
    rw [hx.int, hy.int]
    exact .inl ⟨_, _, rfl, rfl, q _ (.int _)⟩
  · cases h
    rw [hx.int, hy.int]
    exact ⟨_, _, rfl, rfl, q _ (.int _)⟩
  · split at h
    · rename_i hl
      cases h
      rw [hx.str, hy.str]
      exact .inr ⟨_, _, rfl, rfl, by rw [← line_eq]; exact hl, q _ (.str _)⟩
    · cases h
  · split at h
    · rename_i hl
      cases h
      rw [hx.int, hy.int]
      refine ⟨_, _, rfl, rfl, ?_, q _ (.int _)⟩
      rw [Bool.or_eq_true, small64_iff, small64_iff] at hl
      simpa [CMul] using hl
    · cases h
  · cases h
theorem zs_aug {i : Nat} {x : Str} {o : Op} {f : Ev D} {pos' : Pos} (ho : augOk o = true) (hN : X.N.Nodup) (hi : X.N[i]? = some x) (hx : Loc X.env.scope x) (h : PE X a (tzF X.K m f)) (hf : X.fn x = true ∨ X.env.scope.names.lookup x = some .local) :
    PS X (.AugAssign (.Name x pos') (opOf o) a pos) (tzS X.K m fun st => match st.get i with
    | some x => (f st).s fun y st => match augD o x y with
      | some v => .nx (st.put i (.fz v))
      | none => .stuck
    | none => .stuck) := (ps_aug (ti := rAugZ o) hN hi hx h (or_augZ ho) hf).zm fun D σ H ⟨e, w, st, s, P⟩ => by
  cases hg : st.get i with
  | none =>
    have P : PzS X.K m e w D (match st.get i with
      | some x => (f st).s fun y st => match augD o x y with
        | some v => .nx (st.put i (.fz v))
        | none => .stuck
      | none => .stuck) := P
    rw [hg] at P; exact P.no.elim
  | some d0 =>
    have P : PzS X.K m e w D (match st.get i with
      | some x => (f st).s fun y st => match augD o x y with
        | some v => .nx (st.put i (.fz v))
        | none => .stuck
      | none => .stuck) := P
    rw [hg] at P
    obtain ⟨z, hz, vz⟩ := s.get_some hg
    refine ⟨z, hz, e, w, st, s, (P.s s).mono fun d st1 w1 H1 s1 t1 P1 y ry => ?_⟩
    cases h3 : augD o d0 d with
    | none => rw [h3] at P1; exact P1.no.elim
    | some v =>
      rw [h3] at P1
      have vz' : View X.K w1 H1 z d0 := by
        cases vz with
        | rep r => exact .rep (r.mono t1.le)
        | own r => cases d0 <;> first | (cases r; done) | (exfalso; unfold augD at h3; cases o <;> cases h3)
      exact aug_ok (Q := fun z' H' => D.nx (σ.set i (some z')) H') vz' (.rep ry) h3 fun z' r => P1.nx (s1.put_f r)
/-- the hand is taken up -/
theorem Sim.hold {K : Frag} {ix : Ix} {e : En ix} {σ : L2.St} {st : S} {w : Wd} {H H0 : Hp} {x : V} {ds : List D} (s : Sim K e w H σ st) (hd : st.hd = none) (r : RvOk K e w H σ st H0 x (.o (.lst ds))) (i : Nat) :
    ∃ w', Sim K e w' H (σ.set i (some x)) ⟨st.sl.set i (.fz .hand), some ds⟩ ∧ SStep e w w' := by
  obtain ⟨p, rfl, o, ap, _⟩ := r
  have hn : w.ha = none := by
    have q := s.hand
    rw [hd] at q
    exact q
  have le : w.le ⟨some p, w.F⟩ := ⟨Same.refl _, fun h q => (by rw [hn] at q; cases q)⟩
  cases o.at_ with
  | lst hp rs =>
    rename_i vs
    refine ⟨⟨some p, w.F⟩, ?_, le, fun a q => .inr (by cases q; exact o.nb)⟩
    have s1 : Sim K e ⟨some p, w.F⟩ H σ ⟨st.sl, some ds⟩ := by
      refine ⟨s.len, fun j => ?_, s.inj, s.sub, s.nt, ⟨fun a u q h1 => s.fr.keep a u q (by rw [hn]; exact fun z => nomatch z), s.fr.dom, fun a u q z => (by cases z; rw [o.nb] at q; cases q), s.fr.tab⟩, s.fsh, p, vs, rfl, o.nf, hp, rs.mono le⟩
      have z := s.sl j
      show SlotOk K e ⟨some p, w.F⟩ H σ[j]? st.sl[j]?
      cases hj : st.sl[j]? with
      | none => trivial
      | some sl =>
        rw [hj] at z
        cases sl with
        | un => trivial
        | sp t => exact SpOk.mono z le
        | fz d => obtain ⟨y, e1, r⟩ := z; exact ⟨y, e1, r.mono le⟩
        | ow d =>
          obtain ⟨p2, e2, o2⟩ := z
          refine ⟨p2, e2, o2.nf, o2.nb, fun q => ?_, o2.at_.mono le rfl⟩
          have q : (some p : Option Addr) = some p2 := q
          cases q
          exact ap j d hj e2
    exact s1.put_f (st := ⟨st.sl, some ds⟩) (w := ⟨some p, w.F⟩) (.hand rfl)
theorem zs_hnd {i : Nat} {x : Str} {f : Ev Rv} {pos' : Pos} (hN : X.N.Nodup) (hi : X.N[i]? = some x) (hx : Loc X.env.scope x) (h : PE X a (tz X.K m f)) (hs : swapsWith a (some (.Name x pos')) pos.line X.env = pure false) (hf : X.fn x = true ∨ X.env.scope.names.lookup x = some .local) :
    PS X (.Assign [.Name x pos'] a pos) (tzS X.K m fun st => (f st).s fun v st => match v, st.hd with
    | .o (.lst ds), none => .nx ⟨st.sl.set i (.fz .hand), some ds⟩
    | _, _ => .stuck) := (ps_set hN hi hx h hs hf).zm fun D σ H ⟨e, w, st, s, P⟩ => by
  refine ⟨e, w, st, s, (P.s s).mono fun v st1 w1 H1 s1 t1 P1 x r => ?_⟩
  split at P1
  · rename_i ds hd
    obtain ⟨w', s', t'⟩ := s1.hold hd r i
    exact P1 _ w' _ s' t'
  · exact P1.no.elim
end

/-! ### what is gone over -/
def Yields (K : Frag) (w : Wd) (H : Hp) (x : V) (H' : Hp) (d : D) : Prop :=
  (H' = H ∧ Rep K w x d) ∨ ∃ T xs dl, x = .ref T ∧ H T = none ∧ H' = upd H T (.tup xs) ∧ d = .tup dl ∧ Reps K w xs dl
structure WalkD (K : Frag) (w : Wd) (J : It) (ds : List D) : Prop where
  ex : ∃ (G : Hp → Prop) (Y : Nat → Hp → V → Hp → Prop), Walk J ds.length G Y ∧ (∀ w2 H2, w.le w2 → Same w2.F H2 → G H2) ∧
    ∀ i w2 H2 x H3, i < ds.length → w.le w2 → Same w2.F H2 → Y i H2 x H3 → ∃ d, ds[i]? = some d ∧ Yields K w2 H2 x H3 d
theorem Yields.sim {K : Frag} {ix : Ix} {e : En ix} {σ : L2.St} {st : S} {w : Wd} {H H' : Hp} {x : V} {d : D} (y : Yields K w H x H' d) (s : Sim K e w H σ st) : ∃ w', Sim K e w' H' σ st ∧ Step σ st w H w' H' st ∧ Rep K w' x d := by
  rcases y with ⟨e1, r⟩ | ⟨T, xs, dl, rfl, n, e1, rfl, rs⟩
  · subst e1; exact ⟨w, s, Step.refl .., r⟩
  · subst e1
    have g := s.grow (o := .tup xs) n (fun _ z => nomatch z)
    exact ⟨_, g.1, Step.grow s n, .tup (.of upd_same) (rs.mono g.2)⟩
def tzI (K : Frag) (m : Pm) (f : Ev (List D)) : TI := fun σ H R => ∃ e w st, Sim K e w H σ st ∧ Pz K m e σ st w H (f st) fun ds st' w' H' => ∀ J, WalkD K w' J ds → R J H'
theorem _root_.L2.PI.zm {X : Cx} {tg iter : Expr} {t t' : TI} (h : PI X tg iter t) (k : ∀ σ H R, t' σ H R → t σ H R) : PI X tg iter t' := ⟨fun pins s σ H R I q => h.run pins s σ H R I (k σ H R q)⟩
section
variable {K : Frag} {w : Wd}
theorem walkD_list {a : Addr} {xs : List V} {ds : List D} (h : w.F a = some (.lst xs)) (r : Reps K w xs ds) : WalkD K w (Itl K a) ds :=
  ⟨fun H => SqL K H a xs, YAt xs, by rw [← r.length]; exact walk_list, fun w2 H2 l sub => .of (sub _ _ (l.1 _ _ h)), fun i w2 H2 x H3 hi l sub y => by
    obtain ⟨e1, e2⟩ := y
    obtain ⟨d, h1, h2⟩ := r.get e2
    exact ⟨d, h1, .inl ⟨e1, h2.mono l⟩⟩⟩
theorem walkD_tup {a : Addr} {xs : List V} {ds : List D} (h : SqT K w.F a xs) (r : Reps K w xs ds) : WalkD K w (Itt K a) ds :=
  ⟨fun H => SqT K H a xs, YAt xs, by rw [← r.length]; exact walk_tup, fun w2 H2 l sub => SameSqT sub (SameSqT l.1 h), fun i w2 H2 x H3 hi l sub y => by
    obtain ⟨e1, e2⟩ := y
    obtain ⟨d, h1, h2⟩ := r.get e2
    exact ⟨d, h1, .inl ⟨e1, h2.mono l⟩⟩⟩
theorem walkD_str {z : Str} : WalkD K w (Its z) (z.cps.toList.map fun c => .str ⟨#[c]⟩) :=
  ⟨_, _, by rw [List.length_map, Array.length_toList]; exact walk_str, fun _ _ _ _ => trivial, fun i w2 H2 x H3 hi l sub y => by
    obtain ⟨e1, c, e2, e3⟩ := y
    subst e3
    refine ⟨.str ⟨#[c]⟩, ?_, .inl ⟨e1, .str _⟩⟩
    rw [List.getElem?_map, Array.getElem?_toList, e2]; rfl⟩
theorem rangeI_get {lo hi : Int} {i : Nat} (h : i < (hi - lo).toNat) : (rangeI lo hi)[i]? = some (lo + (i : Int)) := by
  unfold rangeI
  rw [List.getElem?_map, List.getElem?_range h]; rfl
theorem rangeI_len (lo hi : Int) : (rangeI lo hi).length = (hi - lo).toNat := by unfold rangeI; rw [List.length_map, List.length_range]
theorem walkD_rng {lo hi : Int} : WalkD K w (Itr lo (hi - lo).toNat) ((rangeI lo hi).map .int) :=
  ⟨_, _, by rw [List.length_map, rangeI_len]; exact walk_range, fun _ _ _ _ => trivial, fun i w2 H2 x H3 hi' l sub y => by
    rw [List.length_map, rangeI_len] at hi'
    obtain ⟨e1, e2⟩ := y
    subst e2
    refine ⟨.int (lo + (i : Int)), ?_, .inl ⟨e1, .int _⟩⟩
    rw [List.getElem?_map, rangeI_get hi']; rfl⟩
theorem walkD_enum {a : Addr} {xs : List V} {ds : List D} (h : w.F a = some (.lst xs)) (r : Reps K w xs ds) : WalkD K w (Ite K a) (ds.zipIdx.map fun p => .tup [.int p.2, p.1]) :=
  ⟨fun H => SqL K H a xs, YPair (fun i => some (.int (i : Nat))) (fun i => xs[i]?), by rw [List.length_map, List.length_zipIdx, ← r.length]; exact walk_enum, fun w2 H2 l sub => .of (sub _ _ (l.1 _ _ h)), fun i w2 H2 x H3 hi l sub y => by
    obtain ⟨T, x1, y1, e1, n, e2, e3, e4⟩ := y
    cases e3
    obtain ⟨d, h1, h2⟩ := r.get e4
    refine ⟨.tup [.int (i : Int), d], ?_, .inr ⟨T, _, _, e1, n, e2, rfl, .cons (.int _) (.cons (h2.mono l) .nil)⟩⟩
    rw [List.getElem?_map, List.getElem?_zipIdx, h1]
    simp⟩
theorem zip_get {ds es : List D} {i : Nat} {d d' : D} (h : ds[i]? = some d) (h' : es[i]? = some d') : ((ds.zip es).map fun p => D.tup [p.1, p.2])[i]? = some (.tup [d, d']) := by
  have q : (ds.zip es)[i]? = some (d, d') := List.getElem?_zip_eq_some.mpr ⟨h, h'⟩
  rw [List.getElem?_map, q]; rfl
theorem walkD_zip {a b : Addr} {xs ys : List V} {ds es : List D} (h : w.F a = some (.lst xs)) (r : Reps K w xs ds) (h' : w.F b = some (.lst ys)) (r' : Reps K w ys es) : WalkD K w (Itz K a b) ((ds.zip es).map fun p => .tup [p.1, p.2]) :=
  ⟨fun H => SqL K H a xs ∧ SqL K H b ys, YPair (fun i => xs[i]?) (fun i => ys[i]?), walk_zip (by rw [List.length_map, List.length_zip, r.length, r'.length]), fun w2 H2 l sub => ⟨.of (sub _ _ (l.1 _ _ h)), .of (sub _ _ (l.1 _ _ h'))⟩, fun i w2 H2 x H3 hi l sub y => by
    obtain ⟨T, x1, y1, e1, n, e2, e3, e4⟩ := y
    obtain ⟨d, h1, h2⟩ := r.get e3
    obtain ⟨d', h1', h2'⟩ := r'.get e4
    exact ⟨_, zip_get h1 h1', .inr ⟨T, _, _, e1, n, e2, rfl, .cons (h2.mono l) (.cons (h2'.mono l) .nil)⟩⟩⟩
theorem walk_zipT {K : Frag} {a b : Addr} {xs ys : List V} {n : Nat} (hn : n = min xs.length ys.length) : Walk (ItzT K a b) n (fun H => SqT K H a xs ∧ SqT K H b ys) (YPair (fun i => xs[i]?) (fun i => ys[i]?)) := by
  subst hn
  (refine ⟨fun i _ hi q => ?_, fun _ q => ⟨xs, ys, q.1, q.2, by omega⟩, fun i H v H' _ q y => ?_⟩)
  · (have h1 : i < xs.length := by omega)
    (have h2 : i < ys.length := by omega)
    (exact ⟨xs, ys, xs[i], ys[i], q.1, q.2, by simp [h1], by simp [h2]⟩)
  · obtain ⟨T, x, y, h1, h2, h3, h4, h5⟩ := y
    exact ⟨T, x, y, h1, h2, h3, h4 xs q.1, h5 ys q.2⟩
theorem walkD_zipT {a b : Addr} {xs ys : List V} {ds es : List D} (h : SqT K w.F a xs) (r : Reps K w xs ds) (h' : SqT K w.F b ys) (r' : Reps K w ys es) : WalkD K w (ItzT K a b) ((ds.zip es).map fun p => .tup [p.1, p.2]) :=
  ⟨fun H => SqT K H a xs ∧ SqT K H b ys, YPair (fun i => xs[i]?) (fun i => ys[i]?), walk_zipT (by rw [List.length_map, List.length_zip, r.length, r'.length]), fun w2 H2 l sub => ⟨SameSqT sub (SameSqT l.1 h), SameSqT sub (SameSqT l.1 h')⟩, fun i w2 H2 x H3 hi l sub y => by
    obtain ⟨T, x1, y1, e1, n, e2, e3, e4⟩ := y
    obtain ⟨d, h1, h2⟩ := r.get e3
    obtain ⟨d', h1', h2'⟩ := r'.get e4
    exact ⟨_, zip_get h1 h1', .inr ⟨T, _, _, e1, n, e2, rfl, .cons (h2.mono l) (.cons (h2'.mono l) .nil)⟩⟩⟩
end
section
variable {X : Cx} {m : Pm} {a b c tg : Expr} {pos : Pos} {es : List Expr}
def iAny (K : Frag) (tl : TE) : TI := fun σ H R => tl σ H fun x H1 => (∃ a, x = .ref a ∧ (∃ xs, SqL K H1 a xs) ∧ R (Itl K a) H1) ∨ (∃ a, x = .ref a ∧ (∃ xs, SqT K H1 a xs) ∧ R (Itt K a) H1) ∨ ∃ z, x = .str z ∧ R (Its z) H1
theorem pi_any {l : Expr} {tl : TE} (hl : PE X l tl) : PI X tg l (iAny X.K tl) := by
  (refine ⟨fun pins s σ H R I h => ?_⟩)
  (refine thn (hl.run pins s σ H _ I h) fun v s1 ⟨x, H1, I1, r1, q1⟩ => ?_)
  rcases q1 with ⟨a, e, ⟨xs, hq⟩, q⟩ | ⟨a, e, ⟨xs, hq⟩, q⟩ | ⟨x, ex, q⟩
  · subst e
    cases r1
    (obtain ⟨its, rv, p, hz⟩ := I1.list hq)
    (refine wpAny_pyIter_list p.isList ?_)
    (refine ⟨s1.heap.objs.size, [s1.heap.objs.size], _, _, H1, rfl, I1.kept (t' := s1.toks) fun b o e => Heap.get?_push_of_some _ e, turn_list a _, ⟨_, Heap.get?_push_size _ rfl, rfl, rfl⟩, fun b hb => ?_, q⟩)
    (have e : b = s1.heap.objs.size := by simpa using hb)
    subst e
    (exact I1.fpOk (Nat.le_refl _) (I1.hok.fresh (Nat.le_refl _)))
  · subst e
    cases r1
    (obtain ⟨its, rv, p, hz⟩ := I1.tuple hq)
    (refine wpAny_pyIter_tuple (show s1.heap.IsTuple a its.toArray from p) ?_)
    (refine ⟨s1.heap.objs.size, [s1.heap.objs.size], _, _, H1, rfl, I1.kept (t' := s1.toks) fun b o e => Heap.get?_push_of_some _ e, turn_tuple a _, ⟨_, Heap.get?_push_size _ rfl, rfl, rfl⟩, fun b hb => ?_, q⟩)
    (have e : b = s1.heap.objs.size := by simpa using hb)
    subst e
    (exact I1.fpOk (Nat.le_refl _) (I1.hok.fresh (Nat.le_refl _)))
  · subst ex
    obtain ⟨t, rfl⟩ := r1
    (cases ha : x.cps.all (· < 128))
    · (exact wpAny_pyIter_wide ha (pi_one (tk := s1.toks) I1 _ (turn_str _ x t "str_iterator" (.inr rfl)) ⟨_, Heap.get?_push_size _ rfl, rfl, rfl⟩ q))
    · (exact wpAny_pyIter_ascii ha (pi_one (tk := s1.toks) I1 _ (turn_str _ x t "str_ascii_iterator" (.inl rfl)) ⟨_, Heap.get?_push_size _ rfl, rfl, rfl⟩ q))
theorem zi_val {f : Ev D} (h : PE X a (tzF X.K m f)) : PI X tg a (tzI X.K m fun st => iterE .val ((f st).bind fun d st => .ok [d] st)) := (pi_any h).zm fun σ H R ⟨e, w, st, s, P⟩ => by
  refine ⟨e, w, st, s, P.bind.bind.mono fun d st1 w1 H1 s1 t1 P1 x r => ?_⟩
  have P2 := P1.ok s1
  obtain ⟨ds, hd, P3⟩ := P2.lift
  have P4 := P3.ok s1
  cases d with
  | lst l =>
    cases hd
    cases r with
    | lst h r => exact .inl ⟨_, rfl, ⟨_, .of (s1.sub _ _ h)⟩, P4 _ (walkD_list h r)⟩
  | tup l =>
    cases hd
    cases r with
    | tup h r => exact .inr (.inl ⟨_, rfl, ⟨_, SameSqT s1.sub h⟩, P4 _ (walkD_tup h r)⟩)
  | str z =>
    cases hd
    cases r
    exact .inr (.inr ⟨_, rfl, P4 _ walkD_str⟩)
  | _ => cases hd
theorem Reps.one {K : Frag} {w : Wd} {xs : List V} {d : D} (h : Reps K w xs [d]) : ∃ x, xs = [x] ∧ Rep K w x d := by
  cases h with
  | cons a r => cases r; exact ⟨_, rfl, a⟩
theorem Reps.two {K : Frag} {w : Wd} {xs : List V} {d d' : D} (h : Reps K w xs [d, d']) : ∃ x y, xs = [x, y] ∧ Rep K w x d ∧ Rep K w y d' := by
  cases h with
  | cons a r =>
    obtain ⟨y, e1, b⟩ := r.one
    subst e1
    exact ⟨_, _, rfl, a, b⟩
theorem iter_rng1 {xs l : List D} (h : iterD .rng1 xs = some l) : ∃ j, xs = [.int j] ∧ okR j = true ∧ l = (rangeI 0 j).map .int := by
  unfold iterD at h
  split at h <;> first | (rename_i hk; cases hk; done) | skip
  · split at h
    · rename_i ho
      cases h
      exact ⟨_, rfl, ho, rfl⟩
    · cases h
  · cases h
theorem iter_rng2 {xs l : List D} (h : iterD .rng2 xs = some l) : ∃ i j, xs = [.int i, .int j] ∧ okR i = true ∧ okR j = true ∧ l = (rangeI i j).map .int := by
  unfold iterD at h
  split at h <;> first | (rename_i hk; cases hk; done) | skip
  · split at h
    · rename_i ho
      cases h
      rw [Bool.and_eq_true] at ho
      exact ⟨_, _, rfl, ho.1, ho.2, rfl⟩
    · cases h
  · cases h
theorem iter_zip {xs l : List D} (h : iterD .zip xs = some l) : ∃ a b, (xs = [.lst a, .lst b] ∨ xs = [.tup a, .tup b]) ∧ l = (a.zip b).map fun p => .tup [p.1, p.2] := by
  unfold iterD at h
  split at h <;> first | (rename_i hk; cases hk; done) | skip
  · cases h; exact ⟨_, _, .inl rfl, rfl⟩
  · cases h; exact ⟨_, _, .inr rfl, rfl⟩
  · cases h
theorem okR_iff {i : Int} (h : okR i = true) : -(2 ^ 62) ≤ i ∧ i < 2 ^ 62 := by
  unfold okR at h
  rw [decide_eq_true_eq] at h
  omega
theorem zi_rng1 {f : Ev (List D)} {p : Pos} (hg : Gl X "range") (hm : X.mg "range" = none) (ha : PA X [a] (tzA X.K m f)) (hs : notStar a = true) : PI X tg (.Call (.Name "range" p) [a] [] pos) (tzI X.K m fun st => iterE .rng1 (f st)) := (pi_range1 hg hm ha (star_cons hs)).zm fun σ H R ⟨e, w, st, s, P⟩ => by
  refine ⟨e, w, st, s, P.bind.mono fun ds st1 w1 H1 s1 t1 P1 xs r => ?_⟩
  obtain ⟨l, hd, P3⟩ := P1.lift
  have P4 := P3.ok s1
  obtain ⟨j, rfl, ho, rfl⟩ := iter_rng1 hd
  obtain ⟨x, rfl, r1⟩ := r.one
  cases r1
  have q := walkD_rng (K := X.K) (w := w1) (lo := 0) (hi := j)
  rw [Int.sub_zero] at q
  exact ⟨j, rfl, (okR_iff ho).1, (okR_iff ho).2, P4 _ q⟩
theorem zi_rng2 {f : Ev (List D)} {p : Pos} (hg : Gl X "range") (hm : X.mg "range" = none) (ha : PA X [a, b] (tzA X.K m f)) (hs : notStar a = true) (hs2 : notStar b = true) : PI X tg (.Call (.Name "range" p) [a, b] [] pos) (tzI X.K m fun st => iterE .rng2 (f st)) := (pi_range2 hg hm ha (by rw [star_cons hs, star_cons hs2]; rfl) (star_cons hs2)).zm fun σ H R ⟨e, w, st, s, P⟩ => by
  refine ⟨e, w, st, s, P.bind.mono fun ds st1 w1 H1 s1 t1 P1 xs r => ?_⟩
  obtain ⟨l, hd, P3⟩ := P1.lift
  have P4 := P3.ok s1
  obtain ⟨i, j, rfl, ho, ho2, rfl⟩ := iter_rng2 hd
  obtain ⟨x, y, rfl, r1, r2⟩ := r.two
  cases r1
  cases r2
  exact ⟨i, j, rfl, ⟨(okR_iff ho).1, (okR_iff ho).2, (okR_iff ho2).1, (okR_iff ho2).2⟩, P4 _ walkD_rng⟩
theorem zi_zip {f : Ev (List D)} {elts : List Expr} {kk : Nat} {p tpos : Pos} (hg : Gl X "zip") (hm : X.mg "zip" = none) (ha : PA X [a, b] (tzA X.K m f)) (hs : notStar a = true) (hs2 : notStar b = true) : PI X (.Tuple elts kk tpos) (.Call (.Name "zip" p) [a, b] [] pos) (tzI X.K m fun st => iterE .zip (f st)) := (pi_zipA hg hm ha (star_cons hs) (star_any (by simp [hs2]))).zm fun σ H R ⟨e, w, st, s, P⟩ => by
  refine ⟨e, w, st, s, P.bind.mono fun ds st1 w1 H1 s1 t1 P1 xs r => ?_⟩
  obtain ⟨l, hd, P3⟩ := P1.lift
  have P4 := P3.ok s1
  obtain ⟨la, lb, rfl | rfl, rfl⟩ := iter_zip hd
  · obtain ⟨x, y, rfl, r1, r2⟩ := r.two
    cases r1 with
    | lst h q1 => cases r2 with
      | lst h' q2 => exact ⟨_, _, _, _, rfl, .inl ⟨.of (s1.sub _ _ h), .of (s1.sub _ _ h'), P4 _ (walkD_zip h q1 h' q2)⟩⟩
  · obtain ⟨x, y, rfl, r1, r2⟩ := r.two
    cases r1 with
    | tup h q1 => cases r2 with
      | tup h' q2 => exact ⟨_, _, _, _, rfl, .inr ⟨SameSqT s1.sub h, SameSqT s1.sub h', P4 _ (walkD_zipT h q1 h' q2)⟩⟩
/-- for -/
theorem zs_for {t : Tg} {f : Ev (List D)} {g : S → SR} {iter : Expr} {body : List Stmt} (hp : PassesOwn (model X.prog X.w) X.A X.env X.xe) (hc : X.calm = true) (hi : PI X tg iter (tzI X.K m f)) (hg : PG X tg (tzG X.K m.ix t)) (hb : PSs X body (tzS X.K m g)) (hs : ∀ x, foldedSetIterable iter X.env x = pure x) :
    PS X (.For tg iter body [] pos) (tzS X.K m fun st => (f st).s fun ds st => frRun t g ds st) := (ps_for hp hc hi hg hb hs).zm fun De σ H ⟨e, w, st, s, P⟩ => by
  refine ⟨e, w, st, s, (P.s s).mono fun ds st1 w1 H1 s1 t1 P1 J ⟨G, Y, hw, hG, hY⟩ => ?_⟩
  refine for_it hw (fun i σ' H' => ∃ w' st', Sim X.K e w' H' σ' st' ∧ w1.le w' ∧ PzS X.K m e w' De (frRun t g (ds.drop i) st')) ⟨w1, st1, s1, Wd.le_refl _, P1⟩ (fun i σ' H' hi ⟨w', st', s', l, _⟩ => hG w' H' l s'.sub) ?_ ?_
  · rintro i x σ' H' H'' hi ⟨w', st', s', l, P'⟩ y
    obtain ⟨d, hd, yd⟩ := hY i w' H' x H'' hi l s'.sub y
    obtain ⟨w2, s2, t2, r⟩ := yd.sim s'
    have e1 : ds.drop i = d :: ds.drop (i + 1) := by
      obtain ⟨h1, h2⟩ := List.getElem?_eq_some_iff.mp hd
      (rw [List.drop_eq_getElem_cons h1, h2])
    rw [e1] at P'
    have P' : PzS X.K m e w' De (match asg t d st' with
      | none => .stuck
      | some st1 => match g st1 with
        | .nx st2 => frRun t g (ds.drop (i + 1)) st2
        | .cnt st2 => frRun t g (ds.drop (i + 1)) st2
        | .brk st2 => .nx st2
        | r => r) := P'
    cases ha : asg t d st' with
    | none => rw [ha] at P'; exact P'.no.elim
    | some st2 =>
      rw [ha] at P'
      dsimp only at P'
      refine ⟨e, w2, st', d, st2, s2, r, ha, fun σ2 s2' _ => ⟨e, w2, st2, s2', ?_⟩⟩
      have P2 := P'.shift (t2.s s')
      cases hgs : g st2 with
      | nx st3 => rw [hgs] at P2; exact fun σ3 w3 H3 s3 t3 => ⟨w3, st3, s3, Wd.le_trans l (Wd.le_trans t2.le t3.le), P2.shift t3⟩
      | cnt st3 => rw [hgs] at P2; exact fun σ3 w3 H3 s3 t3 => ⟨w3, st3, s3, Wd.le_trans l (Wd.le_trans t2.le t3.le), P2.shift t3⟩
      | brk st3 => rw [hgs] at P2; exact fun σ3 w3 H3 s3 t3 => P2 σ3 w3 H3 s3 t3
      | ret v st3 => rw [hgs] at P2; exact P2
      | exc x st3 => rw [hgs] at P2; exact P2
      | stuck => rw [hgs] at P2; exact P2
  · rintro σ' H' ⟨w', st', s', l, P'⟩
    rw [List.drop_length] at P'
    exact P'.nx s'
/-- while -/
theorem zs_while {f : Ev Bool} {g : S → SR} {body : List Stmt} (n : Nat) (hp : PassesOwn (model X.prog X.w) X.A X.env X.xe) (hc : PT X c (tzT X.K m f)) (hb : PSs X body (tzS X.K m g)) :
    PS X (.While c body [] pos) (tzS X.K m fun st => whRun f g n st) := (ps_while hp hc hb).zm fun De σ H ⟨e, w, st, s, P⟩ => by
  refine ⟨fun n σ' H' => ∃ w' st', Sim X.K e w' H' σ' st' ∧ PzS X.K m e w' De (whRun f g n st'), ⟨n, w, st, s, P⟩, ?_⟩
  rintro n σ' H' ⟨w', st', s', P'⟩
  cases n with
  | zero => exact P'.no.elim
  | succ n =>
    refine ⟨e, w', st', s', (P'.s s').mono fun b st1 w1 H1 s1 t1 P1 => ?_⟩
    cases b with
    | false => exact P1.nx s1
    | true =>
      refine ⟨fun σ2 H2 => ∃ w2 st2, Sim X.K e w2 H2 σ2 st2 ∧ PzS X.K m e w2 De (whRun f g n st2), fun σ2 H2 q => ⟨n, Nat.lt_succ_self n, q⟩, e, w1, st1, s1, ?_⟩
      have P1 : PzS X.K m e w1 De (match g st1 with
        | .nx st2 => whRun f g n st2
        | .cnt st2 => whRun f g n st2
        | .brk st2 => .nx st2
        | r => r) := P1
      cases hgs : g st1 with
      | nx st3 => rw [hgs] at P1; exact fun σ3 w3 H3 s3 t3 => ⟨w3, st3, s3, P1.shift t3⟩
      | cnt st3 => rw [hgs] at P1; exact fun σ3 w3 H3 s3 t3 => ⟨w3, st3, s3, P1.shift t3⟩
      | brk st3 => rw [hgs] at P1; exact fun σ3 w3 H3 s3 t3 => P1 σ3 w3 H3 s3 t3
      | ret v st3 => rw [hgs] at P1; exact P1
      | exc x st3 => rw [hgs] at P1; exact P1
      | stuck => rw [hgs] at P1; exact P1
end
end ZZ

/-! ZE1: enumerate over a tuple, over a text. -/
namespace ZZ
open L2 PyProof.Rows PySem.Spec PySem
open AutoSeq1
    (wpAny_loadPart')
theorem meets_enumT (l : Addr) (items : Array Value) (n : Nat) (dct : Option Addr) (sl : Array (Option Value)) :
    Meets (Builtin.«enumerate.__new__» ⟨[.type "enumerate", .ref l], []⟩) (fun _ R s => s.heap.get? l = some { cls := .type "tuple", dict := dct, data := .seq items n, slots := sl } ∧
      R (.ok (.ret (.ref (s.heap.push { cls := .type "tuple_iterator", data := .fields #[.ref l, .int 0 0] }).objs.size)))
        { s with heap := (s.heap.push { cls := .type "tuple_iterator", data := .fields #[.ref l, .int 0 0] }).push { cls := .type "enumerate", data := .fields #[.none, .bool false, .ref s.heap.objs.size, rawInt 0, .none, .none] } }) :=
  .of_wp fun prog
      w A R s h => by
    (obtain ⟨hp, g, d, tk, os⟩ := s; obtain ⟨hl, h⟩ := h)
    have hsub := sub_enumerate
    have hL : Heap.IsTuple (Shared.heap ⟨hp, g, d, tk, os⟩) l items := ⟨_, hl, rfl, n, rfl⟩
    wp_walk using
        wpAny_loadPart' hl
    (refine wpAny_stack_any fun st => wpAny_pure ?_)
    split
    · rename_i c _ _ _ _ _
      (cases (c == Value.type "enumerate"))
      · wp_walk using wpAny_loadPart' hl, wpAny_pyIter_tuple hL
        exact ⟨_, rfl, h⟩
      · wp_walk using wpAny_loadPart' hl, wpAny_pyIter_tuple hL
        exact ⟨_, rfl, h⟩
    · wp_walk using wpAny_loadPart' hl, wpAny_pyIter_tuple hL
      exact ⟨_, rfl, h⟩
theorem call_enumT {prog : Program} {w : World} {A : Around} {E : Value → Shared → Prop} {s : Shared} {l : Addr} {items : Array Value} {Q : Value → Shared → Prop} (hL : s.heap.IsTuple l items)
    (h : ∀ h', IsEnum h' (s.heap.objs.size + 1) s.heap.objs.size 0 .none → h'.IsTupleIter s.heap.objs.size l 0 → h'.objs.size = s.heap.objs.size + 2 →
      (∀ b o, s.heap.get? b = some o → h'.get? b = some
          o) → Q (.ref (s.heap.objs.size + 1)) { s with heap := h' }) :
    wpAny (model prog w) A (call (.type
        "enumerate") [.ref l]) Q E s := by
  (obtain ⟨⟨c, dct, dt, sl⟩, hl, hc, n, hd⟩ := hL)
  replace hc : c = .type "tuple" := hc
  replace hd : dt =
      .seq items n := hd
  subst hc hd
  refine callType_new F.called_enumerate (by decide) (F.typeCall_enumerate_1
      _) (F.newCall_enumerate_1 _) (fun obj => F.args_object_init_2 obj _) F.entry_enumerate_new
    (meets_enumT l items n dct sl) ⟨hl, ?_⟩
  have hz : (s.heap.push { cls := .type "tuple_iterator", data := .fields #[.ref l, .int 0 0] }).objs.size = s.heap.objs.size + 1 := Heap.size_push ..
  show _ ∧ _
  rw [hz]
  have he : IsEnum ((s.heap.push { cls := .type "tuple_iterator", data := .fields #[.ref l, .int 0 0] }).push
      { cls := .type "enumerate", data := .fields #[.none, .bool false, .ref s.heap.objs.size,
          rawInt 0, .none, .none] }) (s.heap.objs.size + 1) s.heap.objs.size 0 .none := by
    have := Heap.get?_push_size (s.heap.push { cls := .type "tuple_iterator", data := .fields #[.ref l, .int 0 0] })
      (o := { cls := .type "enumerate", data := .fields #[.none, .bool
          false, .ref s.heap.objs.size, rawInt 0, .none, .none] }) rfl
    rw [hz] at this; exact this
  (refine ⟨⟨_, he, rfl⟩, h _ he ⟨_, Heap.get?_push_of_some _ (Heap.get?_push_size _ rfl), rfl, rfl⟩ (by rw [Heap.size_push, hz]) fun b o x => Heap.get?_push_of_some _ (Heap.get?_push_of_some _ x)⟩)
/-- the tuple at a, its items in new pairs -/
def IteT (K : Frag) (a : Addr) : It :=
  ⟨fun i H => ∃ (xs : List V) (x : V), SqT K H a xs ∧ xs[i]? = some x, fun i H v H' => ∃ T x, v = .ref T ∧ H T = none ∧ H' = upd H T (.tup [.int (i : Nat), x]) ∧ ∀ xs, SqT K H a xs → xs[i]? = some x, fun i H => ∃ xs : List V, SqT K H a xs ∧ xs.length ≤ i⟩
def IteS (z : Str) : It :=
  ⟨fun i H => i < z.cps.size, fun i H v H' => ∃ T c, v = .ref T ∧ H T = none ∧ H' = upd H T (.tup [.int (i : Nat), .str ⟨#[c]⟩]) ∧ z.cps[i]? = some c, fun i H => z.cps.size ≤ i⟩
theorem turn_enumT {P : Program} {w : World} {K : Frag} {elts : List Expr} {kk : Nat} {tpos : Pos} (a e it : Addr) :
    Turn P w K (.Tuple elts kk tpos) (IteT K a) [e, it] e (fun i h => (∃ old, IsEnum h e it ((i : Nat) : Int) old) ∧ h.IsTupleIter it a i ∧ e ≠ it) where
  mem := by simp
  obj := fun i h st b hb => by
    (obtain ⟨⟨old, he⟩, ⟨o, ho, hc, hd⟩, _⟩ := st)
    (have e' : b = e ∨ b = it := by simpa using hb)
    rcases e' with z | z
    · (rw [z]; exact ⟨_, he, fun v q => nomatch q⟩)
    · (rw [z]; exact ⟨o, ho, fun v q => by rw [hd] at q; cases q⟩)
  keep := fun i h h' st k => let ⟨⟨old, he⟩, hi, hne⟩ := st; ⟨⟨old,
      k e (by simp) _ he⟩, hi.at fun o q => k it (by simp) o q, hne⟩
  item := by
    (intro X hP hw hK hc i pins s σ H E I hf st hg)
    subst hP hw hK
    (obtain ⟨⟨old, he⟩, hit, hne⟩ := st)
    obtain ⟨xs, x, hq, hx⟩ := hg
    (obtain ⟨its, rv, p, hz⟩ := I.tuple hq)
    (obtain ⟨u, hu, ru⟩ := rv.get hx)
    (have hel : e < s.heap.objs.size := Heap.lt_size he)
    (have hil : it < s.heap.objs.size := by obtain ⟨_, q, _⟩ := hit; exact Heap.lt_size q)
    have p' : s.heap.IsTuple a its.toArray := p
    have n1 : a ≠ it := fun z => by
      obtain ⟨o, h1, h2, _⟩ := hit
      obtain ⟨o', h3, h4, _⟩ := p'
      rw [z, h1] at h3; cases h3
      rw [h2] at h4; injection h4 with h5; exact absurd h5 (by decide)
    have n2 : e ≠ a := fun z => by
      obtain ⟨o', h3, h4, _⟩ := p'
      rw [← z, he] at h3; cases h3
      injection h4 with h5; exact absurd h5 (by decide)
    have hlt : i < its.toArray.size := by
      have := (List.getElem?_eq_some_iff.mp hu).1
      simpa using this
    refine wpAny_pyNext_enum_itemD (Draws.tuple (A := X.A.in1) (I.ok.hd hc) it a n1 its.toArray) he ⟨hit, p'⟩ hlt hne (by simp [hne, n2]) fun y h' tk hy ho hst hT hsz hk => ?_
    have ey : y = u := by
      have q : its[i]? = some y := by simpa using hy
      rw [hu] at q; exact (Option.some.inj q).symm
    subst ey
    obtain ⟨hit', _⟩ := hst
    refine ⟨_, rfl, wpAny_letOwnedTupleGo_enum (s := { s with heap := h', toks := tk + 1 }) ho fun h'' he' sb => ?_⟩
    have hT2 : h''.get? s.heap.objs.size = some { cls := .type "tuple", data := .seq #[.int i tk, y] } := (sb.2 _ (Nat.ne_of_gt hel)).trans hT
    have new : ObjOk X.prog X.w (upd H s.heap.objs.size (.tup [.int (i
        : Nat), x])) h'' s.heap.objs.size (.tup [.int (i : Nat), x]) :=
      ⟨by show 2 ≤ sizeLine; decide, [.int i tk, y], .cons ⟨_, rfl⟩ (.cons ru .nil), ⟨_, hT2, rfl, _, rfl⟩⟩
    have I1 : Inv X pins σ (upd H s.heap.objs.size (.tup [.int (i : Nat), x])) { s with heap := h'', toks := tk + 1 } :=
      I.turnedNew (ch := [e, it]) (fun b ob hb q => (sb.2 b (fun z => hb (by simp [z]))).trans
          (hk b ob (fun z => hb (by simp [z])) (fun z => hb (by simp [z])) q)) hf (Nat.le_refl _) new
    refine ⟨.ref s.heap.objs.size, _, I1, rfl, ⟨_, x, rfl, I.hok.fresh (Nat.le_refl _), rfl, fun ys hy => by rw [I.tuple_inj hy hq]; exact hx⟩, ⟨⟨y, ?_⟩, hit'.at fun o q => (sb.2 it (Ne.symm hne)).trans q, hne⟩, fun b hb => ?_⟩
    · (have e1 : ((i + 1 : Nat) : Int) = (i : Int) + 1 := by omega)
      rw [e1]; exact he'
    · have hb' : b <
          s.heap.objs.size := by
        (have e' : b = e ∨ b = it := by simpa using hb)
        rcases e' with z | z
        · rw [z]; exact hel
        · rw [z]; exact hil
      (rw [upd_ne (Nat.ne_of_lt hb')])
      exact (hf b hb).1
  done := by
    (intro X hP hw hK hc i pins s σ H E I hf st hg)
    subst hP hw hK
    (obtain ⟨⟨old, he⟩, hit, hne⟩ := st)
    obtain ⟨xs, hq, hx⟩ := hg
    (obtain ⟨its, rv, p, hz⟩ := I.tuple hq)
    (obtain ⟨f0, f1, f2, f3, f4, f5⟩ := hf it (by simp))
    have hl := rv.length
    have p' : s.heap.IsTuple a its.toArray := p
    (have hT : s.TypeIs (.ref e) "enumerate" := ⟨_, he, rfl⟩)
    unfold pyNext
    refine wpAny_bind (wpAny_attempt (wpAny_callSpecial?_slot
        (name := Str.ofString "__next__") hT F.slot_enumerate_next
      (wpAny_call_entry F.slot_enumerate_next hT
          F.entry_enumerate_next ?_ (F.args_enumerate_next_1 _))))
    (show wpAny _ _ (field (.ref e) 2 >>= _) _ _ _)
    (refine wpAny_bind (wpAny_field he rfl (x := .ref it) rfl ?_))
    refine wpAny_bind (wpAny_nextOf_tuple_end (A := X.A.in1) (I.ok.hd hc) hit p' (by simp; omega) fun h' x' eb hx' => ?_)
    obtain ⟨o, ho, hcl⟩ := hx'
    refine wpAny_bind (wpAny_isInstance (T := "StopIteration") (b := true) ⟨o, ho, hcl⟩ isSubtype_stop ?_)
    exact wpAny_pure ⟨rfl, I.turned (t' := s.toks) (fun b o hb q => eb b o hb q) f0 f1 f3 f4 f5⟩
  self := fun A i s Q E st h => let ⟨⟨_,
      he⟩, _⟩ := st; wpAny_pyIter_enum he h
theorem strIter_at {h h' : Heap} {it : Addr} {n : String} {z : Str} {t : Tok} {i : Nat} (st : h.IsStrIter it n z t i) (k : ∀ o, h.get? it = some o → h'.get? it = some o) : h'.IsStrIter it n z t i := by
  obtain ⟨o, h1, h2⟩ := st
  exact ⟨o, k o h1, h2⟩
theorem turn_enumS {P : Program} {w : World} {K : Frag} {elts : List Expr} {kk : Nat} {tpos : Pos} (z : Str) (t : Tok) (e it : Addr) :
    Turn P w K (.Tuple elts kk tpos) (IteS z) [e, it] e (fun i h => (∃ old, IsEnum h e it ((i : Nat) : Int) old) ∧ h.IsStrIter it (strIterType z) z t i ∧ e ≠ it) where
  mem := by simp
  obj := fun i h st b hb => by
    (obtain ⟨⟨old, he⟩, ⟨o, ho, hc, hd⟩, _⟩ := st)
    (have e' : b = e ∨ b = it := by simpa using hb)
    rcases e' with z | z
    · (rw [z]; exact ⟨_, he, fun v q => nomatch q⟩)
    · (rw [z]; exact ⟨o, ho, fun v q => by rw [hd] at q; cases q⟩)
  keep := fun i h h' st k => let ⟨⟨old, he⟩, hi, hne⟩ := st; ⟨⟨old, k e (by simp) _ he⟩, strIter_at hi fun o q => k it (by simp) o q, hne⟩
  item := by
    (intro X hP hw hK hc i pins s σ H E I hf st hg)
    subst hP hw hK
    (obtain ⟨⟨old, he⟩, hit, hne⟩ := st)
    (have hel : e < s.heap.objs.size := Heap.lt_size he)
    (have hil : it < s.heap.objs.size := by obtain ⟨_, q, _⟩ := hit; exact Heap.lt_size q)
    refine wpAny_pyNext_enum_itemD (Draws.text (A := X.A.in1) (I.ok.hd hc) it z t) he hit hg hne (by simp [hne]) fun y h' tk hy ho hst hT hsz hk => ?_
    obtain ⟨c, u, hcz, rfl⟩ := hy
    refine ⟨_, rfl, wpAny_letOwnedTupleGo_enum (s := { s with heap := h', toks := tk + 1 }) ho fun h'' he' sb => ?_⟩
    have hT2 : h''.get? s.heap.objs.size = some { cls := .type "tuple", data := .seq #[.int i tk, .str ⟨#[c]⟩ u] } := (sb.2 _ (Nat.ne_of_gt hel)).trans hT
    have new : ObjOk X.prog X.w (upd H s.heap.objs.size (.tup [.int (i : Nat), .str ⟨#[c]⟩])) h'' s.heap.objs.size (.tup [.int (i : Nat), .str ⟨#[c]⟩]) :=
      ⟨by show 2 ≤ sizeLine; decide, [.int i tk, .str ⟨#[c]⟩ u], .cons ⟨_, rfl⟩ (.cons ⟨_, rfl⟩ .nil), ⟨_, hT2, rfl, _, rfl⟩⟩
    have I1 : Inv X pins σ (upd H s.heap.objs.size (.tup [.int (i : Nat), .str ⟨#[c]⟩])) { s with heap := h'', toks := tk + 1 } :=
      I.turnedNew (ch := [e, it]) (fun b ob hb q => (sb.2 b (fun z => hb (by simp [z]))).trans
          (hk b ob (fun z => hb (by simp [z])) (fun z => hb (by simp [z])) q)) hf (Nat.le_refl _) new
    refine ⟨.ref s.heap.objs.size, _, I1, rfl, ⟨_, c, rfl, I.hok.fresh (Nat.le_refl _), rfl, hcz⟩, ⟨⟨Value.str ⟨#[c]⟩ u, ?_⟩, strIter_at hst (fun o q => (sb.2 it (Ne.symm hne)).trans q), hne⟩, fun b hb => ?_⟩
    · (have e1 : ((i + 1 : Nat) : Int) = (i : Int) + 1 := by omega)
      rw [e1]; exact he'
    · have hb' : b <
          s.heap.objs.size := by
        (have e' : b = e ∨ b = it := by simpa using hb)
        rcases e' with z | z
        · rw [z]; exact hel
        · rw [z]; exact hil
      (rw [upd_ne (Nat.ne_of_lt hb')])
      exact (hf b hb).1
  done := by
    (intro X hP hw hK hc i pins s σ H E I hf st hg)
    subst hP hw hK
    (obtain ⟨⟨old, he⟩, hit, hne⟩ := st)
    (obtain ⟨f0, f1, f2, f3, f4, f5⟩ := hf it (by simp))
    (have hT : s.TypeIs (.ref e) "enumerate" := ⟨_, he, rfl⟩)
    unfold pyNext
    refine wpAny_bind (wpAny_attempt (wpAny_callSpecial?_slot
        (name := Str.ofString "__next__") hT F.slot_enumerate_next
      (wpAny_call_entry F.slot_enumerate_next hT
          F.entry_enumerate_next ?_ (F.args_enumerate_next_1 _))))
    (show wpAny _ _ (field (.ref e) 2 >>= _) _ _ _)
    (refine wpAny_bind (wpAny_field he rfl (x := .ref it) rfl ?_))
    have hx : z.cps[i]? = none := Array.getElem?_eq_none hg
    cases ha : z.cps.all (· < 128)
    · rw [strIterType, ha] at hit
      exact wpAny_bind (wpAny_nextOf_wide_end (A := X.A.in1) (I.ok.hd hc) hit hx fun h' x' eb hx' => by
        obtain ⟨o, ho, hcl⟩ := hx'
        refine wpAny_bind (wpAny_isInstance (T := "StopIteration") (b := true) ⟨o, ho, hcl⟩ isSubtype_stop ?_)
        exact wpAny_pure ⟨rfl, I.turned (t' := s.toks) (fun b o hb q => eb b o hb q) f0 f1 f3 f4 f5⟩)
    · rw [strIterType, ha] at hit
      exact wpAny_bind (wpAny_nextOf_ascii_end (A := X.A.in1) (I.ok.hd hc) hit hx fun h' x' eb hx' => by
        obtain ⟨o, ho, hcl⟩ := hx'
        refine wpAny_bind (wpAny_isInstance (T := "StopIteration") (b := true) ⟨o, ho, hcl⟩ isSubtype_stop ?_)
        exact wpAny_pure ⟨rfl, I.turned (t' := s.toks) (fun b o hb q => eb b o hb q) f0 f1 f3 f4 f5⟩)
  self := fun A i s Q E st h => let ⟨⟨_,
      he⟩, _⟩ := st; wpAny_pyIter_enum he h

def iEnumA (K : Frag) (ta : TA) : TI := fun σ H R => ta σ H fun vs H1 => (∃ a xs, vs = [.ref a] ∧ SqL K H1 a xs ∧ R (Ite K a) H1) ∨ (∃ a xs, vs = [.ref a] ∧ SqT K H1 a xs ∧ R (IteT K a) H1) ∨ ∃ z, vs = [.str z] ∧ R (IteS z) H1
theorem pi_enumA {X : Cx} {e : Expr} {ta : TA} {p pos tpos : Pos} {elts : List Expr} {kk : Nat} (hg : Gl X "enumerate") (hm : X.mg "enumerate" = none) (ha : PA X [e] ta) (hs : starEach [e] X.env = [(false, eval e X.env)] := by rfl) :
    PI X (.Tuple elts kk tpos) (.Call (.Name "enumerate" p) [e] [] pos) (iEnumA X.K ta) := by
  (refine ⟨fun pins s σ H R I h => ?_⟩)
  (refine Call_ (ld_blt I hg hm boot_enumerate (PyProof.Rows.callWith_type1 (thn (ha.run pos pins s σ H _ I h) fun us s1 ⟨vs, H1, I1, r1, q1⟩ => ?_) hs rfl)))
  have two : ∀ b, b ∈ [s1.heap.objs.size + 1, s1.heap.objs.size] → FpOk X pins H1 b := fun b hb => by
    (have e' : b = s1.heap.objs.size + 1 ∨ b = s1.heap.objs.size := by simpa using hb)
    have hle :
        s1.heap.objs.size ≤ b := by
      rcases e' with z | z
      · (rw [z]; exact Nat.le_add_right _ _)
      · rw [z]; exact Nat.le_refl _
    (exact I1.fpOk hle (I1.hok.fresh hle))
  rcases q1 with ⟨a, xs, rfl, hq, q⟩ | ⟨a, xs, rfl, hq, q⟩ | ⟨z, rfl, q⟩
  · cases r1 with
    | cons r rr =>
      cases rr
      cases r
      (obtain ⟨its, rv, p', hz⟩ := I1.list hq)
      (refine call_enumerate_list p'.isList fun h' he hit hsz hk => wpAny_pyIter_enum he ?_)
      exact ⟨s1.heap.objs.size + 1, [s1.heap.objs.size + 1, s1.heap.objs.size], _, _, H1, rfl, I1.kept (t' := s1.toks) hk, turn_enum a (s1.heap.objs.size + 1) s1.heap.objs.size, ⟨⟨.none, he⟩, hit, Nat.succ_ne_self _⟩, two, q⟩
  · cases r1 with
    | cons r rr =>
      cases rr
      cases r
      obtain ⟨its, rv, p', hz⟩ := I1.tuple hq
      refine call_enumT (items := its.toArray) p' fun h' he hit hsz hk => wpAny_pyIter_enum he ?_
      exact ⟨s1.heap.objs.size + 1, [s1.heap.objs.size + 1, s1.heap.objs.size], _, _, H1, rfl, I1.kept (t' := s1.toks) hk, turn_enumT a (s1.heap.objs.size + 1) s1.heap.objs.size, ⟨⟨.none, he⟩, hit, Nat.succ_ne_self _⟩, two, q⟩
  · cases r1 with
    | cons r rr =>
      cases rr
      obtain ⟨t, rfl⟩ := r
      refine call_enumerate_str fun h' he hit hsz hk => wpAny_pyIter_enum he ?_
      exact ⟨s1.heap.objs.size + 1, [s1.heap.objs.size + 1, s1.heap.objs.size], _, _, H1, rfl, I1.kept (t' := s1.toks) hk, turn_enumS z t (s1.heap.objs.size + 1) s1.heap.objs.size, ⟨⟨.none, he⟩, hit, Nat.succ_ne_self _⟩, two, q⟩
section
variable {K : Frag} {w : Wd}
theorem walk_enumT {a : Addr} {xs : List V} : Walk (IteT K a) xs.length (fun H => SqT K H a xs) (YPair (fun i => some (.int (i : Nat))) (fun i => xs[i]?)) := by
  (refine ⟨fun i _ hi q => ⟨xs, xs[i], q, by simp [hi]⟩, fun _ q => ⟨xs, q, Nat.le_refl _⟩, fun i H v H' _ q y => ?_⟩)
  (obtain ⟨T, x, h1, h2, h3, h4⟩ := y)
  (exact ⟨T, .int (i : Nat), x, h1, h2, h3, rfl, h4 xs q⟩)
theorem walk_enumS {z : Str} : Walk (IteS z) z.cps.size (fun _ => True) (YPair (fun i => some (.int (i : Nat))) (fun i => z.cps[i]?.map fun c => V.str ⟨#[c]⟩)) := by
  refine ⟨fun i _ hi _ => hi, fun _ _ => Nat.le_refl _, fun i H v H' _ q y => ?_⟩
  obtain ⟨T, c, h1, h2, h3, h4⟩ := y
  exact ⟨T, .int (i : Nat), _, h1, h2, h3, rfl, by show (z.cps[i]?).map _ = _; rw [h4]; rfl⟩
theorem enum_get {ds : List D} {i : Nat} {d : D} (h : ds[i]? = some d) : (ds.zipIdx.map fun p => D.tup [.int p.2, p.1])[i]? = some (.tup [.int (i : Int), d]) := by
  rw [List.getElem?_map, List.getElem?_zipIdx, h]
  simp
theorem walkD_enumT {a : Addr} {xs : List V} {ds : List D} (h : SqT K w.F a xs) (r : Reps K w xs ds) : WalkD K w (IteT K a) (ds.zipIdx.map fun p => .tup [.int p.2, p.1]) :=
  ⟨fun H => SqT K H a xs, YPair (fun i => some (.int (i : Nat))) (fun i => xs[i]?), by rw [List.length_map, List.length_zipIdx, ← r.length]; exact walk_enumT, fun w2 H2 l sub => SameSqT sub (SameSqT l.1 h), fun i w2 H2 x H3 hi l sub y => by
    obtain ⟨T, x1, y1, e1, n, e2, e3, e4⟩ := y
    cases e3
    obtain ⟨d, h1, h2⟩ := r.get e4
    exact ⟨_, enum_get h1, .inr ⟨T, _, _, e1, n, e2, rfl, .cons (.int _) (.cons (h2.mono l) .nil)⟩⟩⟩
theorem walkD_enumS {z : Str} : WalkD K w (IteS z) ((z.cps.toList.map fun c => D.str ⟨#[c]⟩).zipIdx.map fun p => .tup [.int p.2, p.1]) :=
  ⟨fun _ => True, YPair (fun i => some (.int (i : Nat))) (fun i => z.cps[i]?.map fun c => V.str ⟨#[c]⟩), by rw [List.length_map, List.length_zipIdx, List.length_map, Array.length_toList]; exact walk_enumS, fun w2 H2 l sub => True.intro, fun i w2 H2 x H3 hi l sub y => by
    obtain ⟨T, x1, y1, e1, n, e2, e3, e4⟩ := y
    cases e3
    obtain ⟨c, h1, rfl⟩ := Option.map_eq_some_iff.mp e4
    exact ⟨_, enum_get (d := .str ⟨#[c]⟩) (by rw [List.getElem?_map, Array.getElem?_toList, h1]; rfl), .inr ⟨T, _, _, e1, n, e2, rfl, .cons (.int _) (.cons (.str _) .nil)⟩⟩⟩
end
theorem iter_enum {xs l : List D} (h : iterD .enum xs = some l) : (∃ a, xs = [.lst a] ∧ l = a.zipIdx.map fun p => .tup [.int p.2, p.1]) ∨ (∃ a, xs = [.tup a] ∧ l = a.zipIdx.map fun p => .tup [.int p.2, p.1]) ∨
    ∃ z : Str, xs = [.str z] ∧ l = (z.cps.toList.map fun c => D.str ⟨#[c]⟩).zipIdx.map fun p => .tup [.int p.2, p.1] := by
  match xs, h with
  | [.lst a], h => cases h; exact .inl ⟨_, rfl, rfl⟩
  | [.tup a], h => cases h; exact .inr (.inl ⟨_, rfl, rfl⟩)
  | [.str z], h => cases h; exact .inr (.inr ⟨_, rfl, rfl⟩)
  | [.non], h => cases h
  | [.bl _], h => cases h
  | [.int _], h => cases h
  | [.dct _], h => cases h
  | [.hand], h => cases h
  | [.scr _], h => cases h
  | [], h => cases h
  | _ :: _ :: _, h => cases h
theorem zi_enum {X : Cx} {m : Pm} {a : Expr} {pos : Pos} {f : Ev (List D)} {elts : List Expr} {kk : Nat} {p tpos : Pos} (hg : Gl X "enumerate") (hm : X.mg "enumerate" = none) (ha : PA X [a] (tzA X.K m f)) (hs : notStar a = true) : PI X (.Tuple elts kk tpos) (.Call (.Name "enumerate" p) [a] [] pos) (tzI X.K m fun st => iterE .enum (f st)) := (pi_enumA hg hm ha (star_cons hs)).zm fun σ H R ⟨e, w, st, s, P⟩ => by
  refine ⟨e, w, st, s, P.bind.mono fun ds st1 w1 H1 s1 t1 P1 xs r => ?_⟩
  obtain ⟨l, hd, P3⟩ := P1.lift
  have P4 := P3.ok s1
  rcases iter_enum hd with ⟨j, rfl, rfl⟩ | ⟨j, rfl, rfl⟩ | ⟨j, rfl, rfl⟩
  · obtain ⟨x, rfl, r1⟩ := r.one
    cases r1 with
    | lst h r => exact .inl ⟨_, _, rfl, .of (s1.sub _ _ h), P4 _ (walkD_enum h r)⟩
  · obtain ⟨x, rfl, r1⟩ := r.one
    cases r1 with
    | tup h r => exact .inr (.inl ⟨_, _, rfl, SameSqT s1.sub h, P4 _ (walkD_enumT h r)⟩)
  · obtain ⟨x, rfl, r1⟩ := r.one
    cases r1 with
    | str => exact .inr (.inr ⟨_, rfl, P4 _ walkD_enumS⟩)
end ZZ

/-! ZJ: list comprehensions. -/
namespace ZZ
open L2 PyProof.Rows PySem.Spec PySem

/-- as Step, the slots may turn -/
structure Step2 (σ : L2.St) (st : S) (w : Wd) (H : Hp) (σ' : L2.St) (w' : Wd) (H' : Hp) (st' : S) : Prop where
  le : w.le w'
  dom : ∀ a o, lv H a = some o → ∃ o', lv H' a = some o'
  keep : ∀ a o, lv H a = some o → Apart σ st a → w.ha ≠ some a → lv H' a = some o
  ap : ∀ a o, lv H a = some o → Apart σ st a → Apart σ' st' a ∧ (w.F a = none → w'.F a = none)
  hfr : ∀ a, w'.ha = some a → w.ha = some a ∨ lv H a = none
section
variable {K : Frag} {ix : Ix} {e : En ix} {σ σ' σ'' : L2.St} {st st' st'' : S} {w w' w'' : Wd} {H H' H'' : Hp}
theorem Step2.nh (t : Step2 σ st w H σ' w' H' st') {a : Addr} {o : HO} (h : lv H a = some o) (n : w.ha ≠ some a) : w'.ha ≠ some a := fun z => by
  rcases t.hfr a z with q | q
  · exact n q
  · rw [h] at q; cases q
theorem Step2.trans (a : Step2 σ st w H σ' w' H' st') (b : Step2 σ' st' w' H' σ'' w'' H'' st'') : Step2 σ st w H σ'' w'' H'' st'' :=
  ⟨Wd.le_trans a.le b.le, fun c o h => by
    obtain ⟨o', h'⟩ := a.dom c o h
    exact b.dom c o' h', fun c o h1 h2 h3 => b.keep c o (a.keep c o h1 h2 h3) (a.ap c o h1 h2).1 (a.nh h1 h3),
   fun c o h1 h2 => by
    obtain ⟨q1, q2⟩ := a.ap c o h1 h2
    obtain ⟨o', h'⟩ := a.dom c o h1
    obtain ⟨r1, r2⟩ := b.ap c o' h' q1
    exact ⟨r1, fun z => r2 (q2 z)⟩, fun c h => by
    rcases b.hfr c h with q | q
    · exact a.hfr c q
    · cases z : lv H c with
      | none => exact .inr rfl
      | some o =>
        obtain ⟨o', z'⟩ := a.dom c o z
        rw [q] at z'; cases z'⟩
theorem Step.two (t : Step σ st w H w' H' st') : Step2 σ st w H σ w' H' st' := ⟨t.le, t.dom, t.keep, t.ap, t.hfr⟩
theorem Step2.one (t : Step2 σ st w H σ w' H' st') : Step σ st w H w' H' st' := ⟨t.le, t.dom, t.keep, t.ap, t.hfr⟩
/-- slots alone turn, no more own ones -/
theorem Step2.slots (h : ∀ a, Apart σ st a → Apart σ' st' a) : Step2 σ st w H σ' w H st' := ⟨Wd.le_refl w, fun _ o h => ⟨o, h⟩, fun _ _ h _ _ => h, fun a _ _ q => ⟨h a q, id⟩, fun _ h => .inl h⟩
/-! ### wiped -/
theorem wipeS_len (st : S) : ∀ l : List Nat, (wipeS st l).sl.length = st.sl.length
  | [] => rfl
  | i :: l => by
    show ((wipeS st l).sl.set i .un).length = _
    rw [List.length_set, wipeS_len st l]
theorem wipeS_hd (st : S) : ∀ l : List Nat, (wipeS st l).hd = st.hd
  | [] => rfl
  | i :: l => wipeS_hd st l
theorem wipeS_out {st : S} {j : Nat} : ∀ {l : List Nat}, j ∉ l → (wipeS st l).sl[j]? = st.sl[j]?
  | [], _ => rfl
  | i :: l, h => by
    have h1 : i ≠ j := fun e => h (by rw [e]; exact List.mem_cons_self)
    have h2 : j ∉ l := fun m => h (List.mem_cons_of_mem _ m)
    show ((wipeS st l).sl.set i .un)[j]? = _
    rw [List.getElem?_set_ne h1]
    exact wipeS_out h2
theorem wipeS_in {st : S} {j : Nat} : ∀ {l : List Nat} {s : Slot}, j ∈ l → (wipeS st l).sl[j]? = some s → s = .un
  | i :: l, s, h, e => by
    have e : ((wipeS st l).sl.set i .un)[j]? = some s := e
    by_cases hij : i = j
    · subst hij
      by_cases hl : i < (wipeS st l).sl.length
      · rw [List.getElem?_set_self hl] at e; cases e; rfl
      · rw [List.getElem?_eq_none (by rw [List.length_set]; omega)] at e; cases e
    · rw [List.getElem?_set_ne hij] at e
      (rcases List.mem_cons.mp h with q | q)
      · exact absurd q.symm hij
      · exact wipeS_in q e
theorem wipe_out' {σ : L2.St} {j : Nat} : ∀ {l : List Nat}, j ∉ l → (wipe σ l)[j]? = σ[j]? := fun h => wipe_out h
theorem Sim.wipe (s : Sim K e w H σ st) (l : List Nat) : Sim K e w H (wipe σ l) (wipeS st l) := by
  refine ⟨by rw [wipe_length, wipeS_len]; exact s.len, fun j => ?_, fun i j p d d' h1 h2 h3 h4 => ?_, s.sub, s.nt, s.fr, s.fsh, by rw [wipeS_hd]; exact s.hand⟩
  · by_cases h : j ∈ l
    · cases e1 : (wipeS st l).sl[j]? with
      | none => trivial
      | some sl => rw [wipeS_in h e1]; trivial
    · rw [wipeS_out h, wipe_out' h]
      exact s.sl j
  · have hi : i ∉ l := fun z => by have := wipeS_in z h1; cases this
    have hj : j ∉ l := fun z => by have := wipeS_in z h2; cases this
    rw [wipeS_out hi] at h1
    rw [wipeS_out hj] at h2
    rw [wipe_out' hi] at h3
    rw [wipe_out' hj] at h4
    exact s.inj i j p d d' h1 h2 h3 h4
theorem Apart.wipe {a : Addr} (h : Apart σ st a) (l : List Nat) : Apart (wipe σ l) (wipeS st l) a := fun j d h1 h2 => by
  have hj : j ∉ l := fun z => by have := wipeS_in z h1; cases this
  rw [wipeS_out hj] at h1
  rw [wipe_out' hj] at h2
  exact h j d h1 h2
theorem wipe_upd {σ σ' : L2.St} {l : List Nat} (u : Upd σ σ' l) {vs : List Nat} (h : ∀ i ∈ l, i ∈ vs) : wipe σ' vs = wipe σ vs := by
  have e1 : ∀ (vs : List Nat) (j : Nat), (wipe σ' vs)[j]? = (wipe σ vs)[j]? ∨ (j ∈ l ∧ j ∉ vs) := by
    intro vs
    induction vs with
    | nil =>
      intro j
      by_cases hj : j ∈ l
      · exact .inr ⟨hj, by simp⟩
      · exact .inl (u.2 j hj)
    | cons v vs ih =>
      intro j
      show ((wipe σ' vs).set v none)[j]? = ((wipe σ vs).set v none)[j]? ∨ _
      by_cases hv : v = j
      · subst hv
        refine .inl ?_
        have e2 : (wipe σ' vs).length = (wipe σ vs).length := by rw [wipe_length, wipe_length]; exact u.1
        by_cases hl : v < (wipe σ vs).length
        · rw [List.getElem?_set_self hl, List.getElem?_set_self (by omega)]
        · rw [List.getElem?_eq_none (by rw [List.length_set]; omega), List.getElem?_eq_none (by rw [List.length_set]; omega)]
      · rw [List.getElem?_set_ne hv, List.getElem?_set_ne hv]
        rcases ih j with q | ⟨q1, q2⟩
        · exact .inl q
        · exact .inr ⟨q1, by simp only [List.mem_cons, not_or]; exact ⟨fun z => hv z.symm, q2⟩⟩
  (refine List.ext_getElem? fun j => ?_)
  rcases e1 vs j with q | ⟨q1, q2⟩
  · exact q
  · exact absurd (h j q1) q2
theorem wipe_in : ∀ (σ : L2.St) (l : List Nat) (j : Nat), j ∈ l → (wipe σ l)[j]? = if j < σ.length then some none else none := by
  intro σ l j hj
  induction l with
  | nil => cases hj
  | cons v l ih =>
    show ((wipe σ l).set v none)[j]? = _
    by_cases hv : v = j
    · subst hv
      by_cases hl : v < (wipe σ l).length
      · rw [List.getElem?_set_self hl]; rw [wipe_length] at hl; rw [if_pos hl]
      · rw [List.getElem?_eq_none (by rw [List.length_set]; omega)]; rw [wipe_length] at hl; rw [if_neg hl]
    · rw [List.getElem?_set_ne hv]
      exact ih ((List.mem_cons.mp hj).resolve_left fun z => hv z.symm)
theorem wipe_wipe (σ : L2.St) (vs : List Nat) : wipe (wipe σ vs) vs = wipe σ vs := by
  (refine List.ext_getElem? fun j => ?_)
  by_cases hj : j ∈ vs
  · rw [wipe_in _ _ _ hj, wipe_in _ _ _ hj, wipe_length]
  · rw [wipe_out' hj, wipe_out' hj]
/-! ### unwiped -/
theorem unwipe_len (sl : List Slot) (st : S) : ∀ l : List Nat, (unwipe sl st l).sl.length = st.sl.length
  | [] => rfl
  | i :: l => by
    show ((unwipe sl st l).sl.set i _).length = _
    rw [List.length_set, unwipe_len sl st l]
theorem unwipe_hd (sl : List Slot) (st : S) : ∀ l : List Nat, (unwipe sl st l).hd = st.hd
  | [] => rfl
  | i :: l => unwipe_hd sl st l
theorem unwipe_out {sl : List Slot} {st : S} {j : Nat} : ∀ {l : List Nat}, j ∉ l → (unwipe sl st l).sl[j]? = st.sl[j]?
  | [], _ => rfl
  | i :: l, h => by
    have h1 : i ≠ j := fun e => h (by rw [e]; exact List.mem_cons_self)
    have h2 : j ∉ l := fun m => h (List.mem_cons_of_mem _ m)
    show ((unwipe sl st l).sl.set i _)[j]? = _
    rw [List.getElem?_set_ne h1]
    exact unwipe_out h2
theorem unwipe_in {sl : List Slot} {st : S} {j : Nat} : ∀ {l : List Nat} {s : Slot}, j ∈ l → (unwipe sl st l).sl[j]? = some s → s = (sl.getD j .un).keepF
  | i :: l, s, h, e => by
    have e : ((unwipe sl st l).sl.set i (sl.getD i .un).keepF)[j]? = some s := e
    by_cases hij : i = j
    · subst hij
      by_cases hl : i < (unwipe sl st l).sl.length
      · rw [List.getElem?_set_self hl] at e; cases e; rfl
      · rw [List.getElem?_eq_none (by rw [List.length_set]; omega)] at e; cases e
    · rw [List.getElem?_set_ne hij] at e
      (rcases List.mem_cons.mp h with q | q)
      · exact absurd q.symm hij
      · exact unwipe_in q e
theorem keepF_ow {s : Slot} {d : D} (h : s.keepF = .ow d) : False := by cases s <;> cases h
theorem Sim.unwipe {st0 : S} {w0 : Wd} {H0 : Hp} (s0 : Sim K e w0 H0 σ st0) (l : List Nat) (s : Sim K e w H (L2.wipe σ l) (wipeS st l)) (le : w0.le w) : Sim K e w H σ (ZZ.unwipe st0.sl st l) := by
  have hl : σ.length = st.sl.length := by have := s.len; rwa [wipe_length, wipeS_len] at this
  refine ⟨by rw [unwipe_len]; exact hl, fun j => ?_, fun i j p d d' h1 h2 h3 h4 => ?_, s.sub, s.nt, s.fr, s.fsh, by rw [unwipe_hd]; have := s.hand; rwa [wipeS_hd] at this⟩
  · by_cases h : j ∈ l
    · cases e1 : (ZZ.unwipe st0.sl st l).sl[j]? with
      | none => trivial
      | some sl =>
        rw [unwipe_in h e1]
        have q := s0.sl j
        (rw [List.getD_eq_getElem?_getD])
        cases hj : st0.sl[j]? with
        | none => trivial
        | some sj =>
          rw [hj] at q
          cases sj with
          | un => trivial
          | sp t => trivial
          | ow d => trivial
          | fz d =>
            obtain ⟨x, e2, r⟩ := q
            exact ⟨x, e2, r.mono le⟩
    · rw [unwipe_out h]
      have q := s.sl j
      rwa [wipeS_out h, wipe_out' h] at q
  · have hi : i ∉ l := fun z => keepF_ow (unwipe_in z h1).symm
    have hj : j ∉ l := fun z => keepF_ow (unwipe_in z h2).symm
    rw [unwipe_out hi] at h1
    rw [unwipe_out hj] at h2
    exact s.inj i j p d d' (by rw [wipeS_out hi]; exact h1) (by rw [wipeS_out hj]; exact h2) (by rw [wipe_out' hi]; exact h3) (by rw [wipe_out' hj]; exact h4)
theorem Apart.unwipe {a : Addr} {sl : List Slot} {l : List Nat} (h : Apart (L2.wipe σ l) (wipeS st l) a) : Apart σ (ZZ.unwipe sl st l) a := fun j d h1 h2 => by
  have hj : j ∉ l := fun z => keepF_ow (unwipe_in z h1).symm
  rw [unwipe_out hj] at h1
  exact h j d (by rw [wipeS_out hj]; exact h1) (by rw [wipe_out' hj]; exact h2)
/-! ### what is set by a target is frozen -/
mutual
theorem asg_ow : ∀ {t : Tg} {d : D} {st st' : S}, asg t d st = some st' → ∀ {j : Nat} {x : D}, st'.sl[j]? = some (.ow x) → j ∉ t.at_ ∧ st.sl[j]? = some (.ow x)
  | .nm i, d, st, st', h, j, x, hj => by
    have h : some (st.put i (.fz d)) = some st' := h
    cases h
    by_cases e1 : i = j
    · subst e1
      by_cases hi : i < st.sl.length
      · rw [get_put_self hi] at hj; cases hj
      · have z : (st.put i (.fz d)).sl[i]? = none := List.getElem?_eq_none (by show (st.sl.set i _).length ≤ i; rw [List.length_set]; omega)
        rw [z] at hj; cases hj
    · rw [get_put_ne e1] at hj
      exact ⟨by unfold Tg.at_; simp; exact fun z => e1 z.symm, hj⟩
  | .tp l, .tup ds, st, st', h, j, x, hj => by
    have h : asgs l ds st = some st' := h
    unfold Tg.at_
    exact asgs_ow h hj
  | .tp l, .non, _, _, h, _, _, _ => by cases h
  | .tp l, .bl _, _, _, h, _, _, _ => by cases h
  | .tp l, .int _, _, _, h, _, _, _ => by cases h
  | .tp l, .str _, _, _, h, _, _, _ => by cases h
  | .tp l, .lst _, _, _, h, _, _, _ => by cases h
  | .tp l, .dct _, _, _, h, _, _, _ => by cases h
  | .tp l, .hand, _, _, h, _, _, _ => by cases h
  | .tp l, .scr _, _, _, h, _, _, _ => by cases h
theorem asgs_ow : ∀ {ts : List Tg} {ds : List D} {st st' : S}, asgs ts ds st = some st' → ∀ {j : Nat} {x : D}, st'.sl[j]? = some (.ow x) → j ∉ Tg.ats ts ∧ st.sl[j]? = some (.ow x)
  | [], [], st, st', h, j, x, hj => by cases h; exact ⟨by unfold Tg.ats; simp, hj⟩
  | [], _ :: _, _, _, h, _, _, _ => by cases h
  | _ :: _, [], _, _, h, _, _, _ => by cases h
  | t :: ts, d :: ds, st, st', h, j, x, hj => by
    have h : (match asg t d st with | some st' => asgs ts ds st' | none => none) = some st' := h
    cases h1 : asg t d st with
    | none => (rw [h1] at h; cases h)
    | some st1 =>
      rw [h1] at h
      obtain ⟨q1, q2⟩ := asgs_ow h hj
      obtain ⟨r1, r2⟩ := asg_ow h1 q2
      exact ⟨by unfold Tg.ats; rw [List.mem_append, not_or]; exact ⟨r1, q1⟩, r2⟩
end
theorem Apart.asg {a : Addr} {t : Tg} {d : D} (h : Apart σ st a) (k : asg t d st = some st') (u : Upd σ σ' t.at_) : Apart σ' st' a := fun j x h1 h2 => by
  obtain ⟨q1, q2⟩ := asg_ow k h1
  rw [u.2 j q1] at h2
  exact h j x q2 h2
/-- a pending own list grows -/
theorem Sim.pend (s : Sim K e w H σ st) {p : Addr} {o : HO} (nf : w.F p = none) (nb : lv e.B p = none) (nh : w.ha ≠ some p) (ap : Apart σ st p) (tb : LamX.Tabs ix.T H → LamX.Tabs ix.T (upd H p o)) : Sim K e w (upd H p o) σ st := by
  refine ⟨s.len, fun j => ?_, s.inj, fun b u h => ?_, s.nt, ⟨fun a u h h1 => ?_, fun a u h => ?_, s.fr.hb, fun t => tb (s.fr.tab t)⟩, s.fsh, s.hand.mono (Wd.le_refl w) rfl fun a ea => ⟨(s.hand_some ea).1, upd_ne fun z => nh (by rw [← z]; exact ea)⟩⟩
  · have z := s.sl j
    cases h : st.sl[j]? with
    | none => trivial
    | some sl =>
      rw [h] at z
      cases sl with
      | un => trivial
      | sp t => exact z
      | fz d2 => exact z
      | ow d2 =>
        obtain ⟨p2, e2, o2⟩ := z
        exact ⟨p2, e2, o2.nf, o2.nb, o2.nh, o2.at_.mono (Wd.le_refl w) (upd_ne fun z => ap j d2 h (by rw [← z]; exact e2))⟩
  · rw [upd_ne fun z => by rw [z, nf] at h; cases h]; exact s.sub b u h
  · rw [lv_ne fun z => by rw [z, nb] at h; cases h]; exact s.fr.keep a u h h1
  · obtain ⟨u', h'⟩ := s.fr.dom a u h
    exact ⟨u', by rw [lv_ne fun z => by rw [z, nb] at h; cases h]; exact h'⟩
end
def PzL (lo : Option (List D × S)) (Q : List D → S → Prop) : Prop := match lo with
  | some (l, st) => Q l st
  | none => False
section
variable {X : Cx} {m : Pm} {a b c tg iter elt : Expr} {pos : Pos} {es : List Expr}
/-- the reading of a comprehension's parts gives the reckoner's -/
theorem lc_ok {t : Tg} {f : Ev (List D)} {ft : Ev Bool} {fe : Ev D} {vs : List Nat} {tt : TT} (htt : ∀ σ H Q, tzT X.K m.dry ft σ H Q → tt σ H Q) (hv : ∀ i ∈ t.at_, i ∈ vs) (σ : L2.St) (H : Hp) (Q : VK)
    (h : tz X.K m (fun st => (f st).bind fun ds st => match lcRun vs t ft fe ds [] st with
      | some (l, st') => .ok (.o (.lst l)) (unwipe st.sl st' vs)
      | none => .stuck) σ H Q) : tLc (tzI X.K m f) (tzG X.K m.ix t) tt (tzF X.K m.dry fe) vs σ H Q := by
  obtain ⟨e, w, st, s, P⟩ := h
  refine ⟨e, w, st, s, P.bind.mono fun ds st1 w1 H1 s1 t1 P1 J ⟨G, Y, hw, hG, hY⟩ D nD => ?_⟩
  have P1 : PzL (lcRun vs t ft fe ds [] st1) fun l st' => ∀ w' H', Sim X.K e w' H' σ (unwipe st1.sl st' vs) → Step σ st1 w1 H1 w' H' (unwipe st1.sl st' vs) → ∀ x, RvOk X.K e w' H' σ (unwipe st1.sl st' vs) H x (.o (.lst l)) → Q x H' := by
    cases hl : lcRun vs t ft fe ds [] st1 with
    | none => rw [hl] at P1; exact P1.no.elim
    | some q =>
      obtain ⟨l, st'⟩ := q
      rw [hl] at P1
      exact fun w' H' s' t' x r => P1 w' H' s' t' x r
  refine lc_it hw (fun i H2 => ∃ w2 st2 acc, Sim X.K e w2 H2 (wipe σ vs) (wipeS st2 vs) ∧ Step2 σ st1 w1 H1 (wipe σ vs) w2 H2 (wipeS st2 vs) ∧ RvOk X.K e w2 H2 (wipe σ vs) (wipeS st2 vs) H1 (.ref D) (.o (.lst acc)) ∧
    PzL (lcRun vs t ft fe (ds.drop i) acc st2) fun l st' => ∀ w' H', Sim X.K e w' H' σ (unwipe st1.sl st' vs) → Step σ st1 w1 H1 w' H' (unwipe st1.sl st' vs) → ∀ x, RvOk X.K e w' H' σ (unwipe st1.sl st' vs) H x (.o (.lst l)) → Q x H')
    ⟨w1, st1, [], (s1.lay nD).wipe vs, (Step.lay s1 nD).two.trans (Step2.slots fun a h => h.wipe vs), ?_, P1⟩ (fun i H2 hi ⟨w2, st2, acc, s2, t2, _⟩ => hG w2 H2 t2.le s2.sub) ?_ ?_
  · obtain ⟨p, e1, o, ap, n⟩ := own_new s1 nD (.lst upd_same .nil)
    exact ⟨p, e1, o, ap.wipe vs, n⟩
  · rintro i x H2 H3 hi ⟨w2, st2, acc, s2, t2, r2, P2⟩ y
    obtain ⟨d, hd, yd⟩ := hY i w2 H2 x H3 hi t2.le s2.sub y
    obtain ⟨w3, s3, t3, rx⟩ := yd.sim s2
    have e1 : ds.drop i = d :: ds.drop (i + 1) := by
      obtain ⟨h1, h2⟩ := List.getElem?_eq_some_iff.mp hd
      (rw [List.drop_eq_getElem_cons h1, h2])
    rw [e1] at P2
    unfold lcRun at P2
    cases ha : asg t d (wipeS st2 vs) with
    | none => rw [ha] at P2; exact P2.elim
    | some st4 =>
      rw [ha] at P2
      dsimp only at P2
      refine ⟨e, w3, _, d, st4, s3, rx, ha, fun σ2 s4 u2 => ?_⟩
      have wz : wipe σ2 vs = wipe σ vs := (wipe_upd u2 hv).trans (wipe_wipe σ vs)
      refine ⟨wz, ?_⟩
      have t4 : Step2 σ st1 w1 H1 σ2 w3 H3 st4 := (t2.trans t3.two).trans (Step2.slots fun a h => h.asg ha u2)
      have r4 : RvOk X.K e w3 H3 σ2 st4 H1 (.ref D) (.o (.lst acc)) := by
        obtain ⟨p, e1, o, ap, n⟩ := r2.step t3
        exact ⟨p, e1, o, ap.asg ha u2, n⟩
      refine htt _ _ _ ⟨e, w3, st4, s4, ?_⟩
      cases hft : ft st4 with
      | exc x st5 => rw [hft] at P2; exact P2.elim
      | stuck => rw [hft] at P2; exact P2.elim
      | ok b st5 =>
        rw [hft] at P2
        dsimp only at P2
        intro w5 H5 s5 t5
        have t5' := t4.trans t5.two
        have r5 := r4.step t5
        cases b with
        | false =>
          refine ⟨w5, st5, acc, by rw [← wz]; exact s5.wipe vs, by rw [← wz]; exact t5'.trans (Step2.slots fun a h => h.wipe vs), ?_, P2⟩
          obtain ⟨p, e1, o, ap, n⟩ := r5
          exact ⟨p, e1, o, by rw [← wz]; exact ap.wipe vs, n⟩
        | true =>
          rw [if_pos rfl] at P2
          show tzF X.K m.dry fe σ2 H5 _
          refine ⟨e, w5, st5, s5, ?_⟩
          cases hfe : fe st5 with
          | exc x st6 => rw [hfe] at P2; exact P2.elim
          | stuck => rw [hfe] at P2; exact P2.elim
          | ok y st6 =>
            rw [hfe] at P2
            dsimp only at P2
            intro w6 H6 s6 t6 yv ry
            split at P2
            · rename_i hl
              obtain ⟨p, e1, o, ap, n⟩ := r5.step t6
              cases e1
              have t6' := t5'.trans t6.two
              cases o.at_ with
              | lst hp rs =>
                rename_i accV
                refine ⟨accV, hp, by rw [← line_eq, rs.length]; exact hl, w6, st6, acc ++ [y], ?_, ?_, ?_, P2⟩
                · rw [← wz]; exact (s6.pend o.nf o.nb o.nh ap (fun t => o.at_.tabs t)).wipe vs
                · rw [← wz]
                  have nd : ∀ {a u}, lv H1 a = some u → a ≠ D := fun {a u} q z => by rw [z, n] at q; cases q
                  refine ⟨t6'.le, fun a u q => ?_, fun a u q ap' nh' => ?_, fun a u q ap' => ⟨(t6'.ap a u q ap').1.wipe vs, (t6'.ap a u q ap').2⟩, t6'.hfr⟩
                  · obtain ⟨u', q'⟩ := t6'.dom a u q
                    exact ⟨u', by rw [lv_ne (nd q)]; exact q'⟩
                  · rw [lv_ne (nd q)]
                    exact t6'.keep a u q ap' nh'
                · exact ⟨D, rfl, ⟨o.nf, o.nb, o.nh, .lst upd_same (rs.append (.cons ry .nil))⟩, by rw [← wz]; exact ap.wipe vs, n⟩
            · exact P2.elim
  · rintro H2 ⟨w2, st2, acc, s2, t2, r2, P2⟩
    rw [List.drop_length] at P2
    have P2 : PzL (some (acc, st2)) _ := P2
    have s' := Sim.unwipe s1 vs s2 t2.le
    have t' : Step σ st1 w1 H1 w2 H2 (unwipe st1.sl st2 vs) := (t2.trans (Step2.slots fun a h => h.unwipe)).one
    refine P2 w2 H2 s' t' _ (RvOk.since ?_ t1.dom)
    obtain ⟨p, e1, o, ap, n⟩ := r2
    exact ⟨p, e1, o, ap.unwipe, n⟩
end
end ZZ

/-! ZK: calls, defs. -/
namespace ZZ
open L2 PyProof.Rows PySem.Spec PySem

structure CEnd (T : List (Addr × Str)) (K : Frag) (w : Wd) (H : Hp) (w' : Wd) (H' : Hp) (hd' : Option (List D)) : Prop where
  le : w.le w'
  sub : Same w'.F H'
  nt : ∀ a o, w'.F a = some o → NT o
  hand : HandAt K w' H' hd'
  keep : ∀ a o, lv H a = some o → w.ha ≠ some a → lv H' a = some o
  dom : ∀ a o, lv H a = some o → ∃ o', lv H' a = some o'
  fsh : ∀ a o, w'.F a = some o → (∃ o', w.F a = some o') ∨ lv H a = none
  hfr : ∀ a, w'.ha = some a → w.ha = some a ∨ lv H a = none
  tab : LamX.Tabs T H → LamX.Tabs T H'
def RvC (K : Frag) (w' : Wd) (H H' : Hp) (x : V) : Rv → Prop
  | .f d => Rep K w' x d
  | .o d => ∃ p, x = .ref p ∧ w'.F p = none ∧ lv H p = none ∧ w'.ha ≠ some p ∧ OwnAt K w' H' p d
def OutZ (T : List (Addr × Str)) (K : Frag) (xt : ExT) (w : Wd) (H : Hp) (Q : VK) (E : XK) : Out → Prop
  | .ok v hd' => ∀ x w' H', CEnd T K w H w' H' hd' → RvC K w' H H' x v → Q x H'
  | .exc ex hd' => ∀ cls d w' H', CEnd T K w H w' H' hd' → xt K cls d ex w' H' → E cls d H'
  | .stuck => False
/-- a def's promise: what the reckoner says of it -/
def spZ (T : List (Addr × Str)) (K : Frag) (xt : ExT) (run : List D → Option (List D) → Out) (n : Nat) : Sp := fun vs H Q E =>
  vs.length = n ∧ ∃ w ds hd, Same w.F H ∧ (∀ a o, w.F a = some o → NT o) ∧ HandAt K w H hd ∧ LamX.Tabs T H ∧ Reps K w vs ds ∧ OutZ T K xt w H Q E (run ds hd)
section
variable {K : Frag} {ix : Ix} {e : En ix} {σ : L2.St} {st : S} {w w' : Wd} {H H' : Hp} {hd' : Option (List D)}
theorem Sim.call (s : Sim K e w H σ st) (c : CEnd ix.T K w H w' H' hd') : Sim K e w' H' σ ⟨st.sl, hd'⟩ ∧ Step σ st w H w' H' ⟨st.sl, hd'⟩ := by
  have own : ∀ (i : Nat) (d : D) (p : Addr), st.sl[i]? = some (.ow d) → σ[i]? = some (some (.ref p)) → H' p = H p ∧ w'.ha ≠ some p ∧ w'.F p = none := fun i d p h1 h2 => by
    have q := s.sl i
    rw [h1] at q
    obtain ⟨p', e1, o⟩ := q
    rw [h2] at e1; cases e1
    obtain ⟨ob, hb, ho⟩ := o.at_.lv
    refine ⟨(lv_out (c.keep p ob ho o.nh)).trans hb.symm, fun z => ?_, ?_⟩
    · rcases c.hfr p z with q | q
      · exact o.nh q
      · rw [ho] at q; cases q
    · cases z : w'.F p with
      | none => rfl
      | some u =>
        rcases c.fsh p u z with ⟨o', q⟩ | q
        · rw [o.nf] at q; cases q
        · rw [ho] at q; cases q
  refine ⟨⟨s.len, fun i => ?_, s.inj, c.sub, c.nt, ⟨fun a o h h1 => ?_, fun a o h => ?_, fun a o h z => ?_, fun t => c.tab (s.fr.tab t)⟩, fun a o h => ?_, c.hand⟩, c.le, c.dom, fun a o h _ h1 => c.keep a o h h1, fun a o h ap => ⟨ap, fun z => ?_⟩, c.hfr⟩
  · have q := s.sl i
    show SlotOk K e w' H' σ[i]? st.sl[i]?
    cases hs : st.sl[i]? with
    | none => trivial
    | some sl =>
      rw [hs] at q
      cases sl with
      | un => trivial
      | sp t => exact SpOk.mono q c.le
      | fz d => obtain ⟨x, e1, r⟩ := q; exact ⟨x, e1, r.mono c.le⟩
      | ow d =>
        obtain ⟨p, e1, o⟩ := q
        obtain ⟨k1, k2, k3⟩ := own i d p hs e1
        exact ⟨p, e1, k3, o.nb, k2, o.at_.mono c.le k1⟩
  · exact c.keep a o (s.fr.keep a o h (fun z => h1 (c.le.2 a z))) (fun z => h1 (c.le.2 a z))
  · obtain ⟨o', h'⟩ := s.fr.dom a o h
    exact c.dom a o' h'
  · rcases c.hfr a z with q | q
    · exact s.fr.hb a o h q
    · obtain ⟨o', h'⟩ := s.fr.dom a o h
      rw [q] at h'; cases h'
  · rcases c.fsh a o h with ⟨o', q⟩ | q
    · exact s.fsh a o' q
    · exact .inr (s.nb q)
  · cases z' : w'.F a with
    | none => rfl
    | some u =>
      rcases c.fsh a u z' with ⟨o', q⟩ | q
      · rw [z] at q; cases q
      · rw [h] at q; cases q
theorem RvC.ok (s : Sim K e w H σ st) {x : V} {v : Rv} (r : RvC K w' H H' x v) : RvOk K e w' H' σ ⟨st.sl, hd'⟩ H x v := by
  cases v with
  | f d => exact r
  | o d =>
    obtain ⟨p, e1, h1, h2, h3, h4⟩ := r
    exact ⟨p, e1, ⟨h1, s.nb h2, h3, h4⟩, s.apart_of_none h2, h2⟩
end
/-- a def that may be called by its name -/
structure CalZ (T : List (Addr × Str)) (P : Program) (w : World) (K : Frag) (mg : Str → Option Value) (base : Heap) (xt : ExT) (k : Nat) (x : Str) (run : List D → Option (List D) → Out) (n : Nat) : Prop where
  ex : ∃ f fd ps, FnOk P w K mg base (L2.CX P w) k f fd ps (spZ T K xt run n) ∧ mg x = some (.ref f) ∧ PySem.W.keepIn K (.ref f) = true ∧ Binds K fd ps []
section
variable {X : Cx} {m : Pm} {a b c : Expr} {pos : Pos} {es : List Expr}
theorem ze_call {k j i n : Nat} {x : Str} {p : Pos} {G : Gm} {f : Ev (List D)} (C : CalZ m.ix.T X.prog X.w X.K X.mg X.base m.X k x (G.cal i) n) (hr : Room j X.A) (hk : k ≤ j) (tk : Takes X m.wx) (hg : Gl X x) (ha : PA X (a :: es) (tzA X.K m f)) (hn : (a :: es).length = n)
    (hl : ∀ st ds st', f st = .ok ds st' → ds.length = n) (hdb : (x == ("__debug__" : Str)) = false) (he : starEach (a :: es) X.env = (false, eval a X.env) :: starEach es X.env) (hpl : (backTo pos (starEach es X.env)).any (·.1) = false) :
    PE X (.Call (.Name x p) (a :: es) [] pos) (tz X.K m fun st => (f st).bind fun ds st => (G.cal i ds st.hd).res st) := by
  obtain ⟨fa, fd, ps, F, hm, hkp, hb⟩ := C.ex
  refine (pe_callS (E := WE m.wx) (F.mono hk) hr hg hm hkp hb (fun σ => passAt tk σ) ha hdb he hpl).zm fun σ H Q ⟨e, w, st, s, P⟩ => ?_
  refine ⟨e, w, st, s, ?_⟩
  cases hf : f st with
  | stuck => have P : Pz X.K m e σ st w H ((f st).bind _) _ := P; rw [hf] at P; exact P.no.elim
  | exc ex st1 => have P : Pz X.K m e σ st w H ((f st).bind _) _ := P; rw [hf] at P; exact P
  | ok ds st1 =>
    have P : Pz X.K m e σ st w H ((f st).bind fun ds st => (G.cal i ds st.hd).res st) _ := P
    have hlen := hl st ds st1 hf
    have P1 := P.bind
    rw [hf] at P1
    intro w1 H1 s1 t1 xs rs
    have P2 := P1 w1 H1 s1 t1
    dsimp only at P2
    refine ⟨by rw [rs.length]; exact hlen, w1, ds, st1.hd, s1.sub, s1.nt, s1.hand, s1.fr.tab e.tab, rs, ?_⟩
    cases ho : G.cal i ds st1.hd with
    | stuck => rw [ho] at P2; exact P2.no.elim
    | ok v hd =>
      rw [ho] at P2
      intro x w' H' ce r
      obtain ⟨s2, t2⟩ := s1.call ce
      exact P2 w' H' s2 t2 x ((RvC.ok s1 r).since t1.dom)
    | exc ex hd =>
      rw [ho] at P2
      intro cls d w' H' ce q
      obtain ⟨s2, t2⟩ := s1.call ce
      exact P2 cls d w' H' s2 t2 q
end
/-! ### a def keeps its promise -/
theorem HandAt.fr {K : Frag} {w : Wd} {H : Hp} {hd : Option (List D)} (h : HandAt K w H hd) : ∀ a o, lv H a = some o → w.ha = some a → ∃ vs, o = .lst vs := fun a o h1 h2 => by
  have h1 := lv_out h1
  cases hd with
  | none => rw [show w.ha = none from h] at h2; cases h2
  | some ds =>
    obtain ⟨p, vs, h3, _, h5, _⟩ := h
    rw [h2] at h3; cases h3
    rw [h1] at h5; cases h5
    exact ⟨vs, rfl⟩
theorem start_sim {K : Frag} {ix : Ix} {w : Wd} {H : Hp} {N : List Str} {vs : List V} {ds : List D} {hd : Option (List D)} (sub : Same w.F H) (nt : ∀ a o, w.F a = some o → NT o) (ha : HandAt K w H hd) (r : Reps K w vs ds) (hn : vs.length ≤ N.length) (t : LamX.Tabs ix.T H) :
    Sim K (⟨H, w.F, t⟩ : En ix) w H (start N vs) ⟨ds.map Slot.fz ++ List.replicate (N.length - ds.length) .un, hd⟩ := by
  have noow : ∀ {i : Nat} {d : D}, (ds.map Slot.fz ++ List.replicate (N.length - ds.length) .un)[i]? = some (.ow d) → False := fun {i d} h => by
    have m := List.mem_of_getElem? h
    (rcases List.mem_append.mp m with q | q)
    · obtain ⟨x, _, q⟩ := List.mem_map.mp q
      cases q
    · have := List.eq_of_mem_replicate q
      cases this
  refine ⟨?_, fun i => ?_, fun i j p d d' h1 => (noow h1).elim, sub, nt, Fr.refl ha.fr, fun a o h => .inl ⟨o, h⟩, ha⟩
  · unfold L2.start
    rw [List.length_append, List.length_append, List.length_map, List.length_map, List.length_replicate, List.length_replicate, r.length]
  · show SlotOk K (⟨H, w.F, t⟩ : En ix) w H (start N vs)[i]? (ds.map Slot.fz ++ List.replicate (N.length - ds.length) .un)[i]?
    by_cases hi : i < ds.length
    · have h1 : (ds.map Slot.fz ++ List.replicate (N.length - ds.length) .un)[i]? = some (.fz ds[i]) := by
        rw [List.getElem?_append_left (by rw [List.length_map]; exact hi), List.getElem?_map, List.getElem?_eq_getElem hi]; rfl
      rw [h1]
      obtain ⟨x, h2, h3⟩ := r.got (List.getElem?_eq_getElem hi)
      refine ⟨x, ?_, h3⟩
      unfold L2.start
      rw [List.getElem?_append_left (by rw [List.length_map, r.length]; exact hi), List.getElem?_map, h2]; rfl
    · cases h1 : (ds.map Slot.fz ++ List.replicate (N.length - ds.length) .un)[i]? with
      | none => trivial
      | some sl =>
        rw [List.getElem?_append_right (by rw [List.length_map]; omega)] at h1
        have := List.eq_of_mem_replicate (List.mem_of_getElem? h1)
        rw [this]
        trivial
theorem CEnd.of {K : Frag} {ix : Ix} {w w' : Wd} {H H' : Hp} {σ : L2.St} {st : S} {tb : LamX.Tabs ix.T H} (s : Sim K (⟨H, w.F, tb⟩ : En ix) w' H' σ st) (t : SStep (⟨H, w.F, tb⟩ : En ix) w w') : CEnd ix.T K w H w' H' st.hd :=
  ⟨t.le, s.sub, s.nt, s.hand, fun a o h h1 => s.fr.keep a o h (fun z => (t.hfr a z).elim h1 fun q => by rw [show lv H a = none from q] at h; cases h), s.fr.dom, s.fsh, t.hfr, s.fr.tab⟩
theorem RvR.c {K : Frag} {ix : Ix} {w w' : Wd} {H H' : Hp} {x : V} {v : Rv} {tb : LamX.Tabs ix.T H} (r : RvR K (⟨H, w.F, tb⟩ : En ix) w' H' x v) : RvC K w' H H' x v := by
  cases v with
  | f d => exact r
  | o d =>
    obtain ⟨p, e1, o⟩ := r
    exact ⟨p, e1, o.nf, o.nb, o.nh, o.at_⟩
section
variable {P : Program} {w : World} {K : Frag} {mg : Str → Option Value} {base : Heap} {xt : ExT} {T : List (Addr × Str)}
theorem fn_z {x qual : Str} {params : Arguments} {body : List Stmt} {scope : Scope} {f : Addr} {fd : FuncData} {N ps : List Str} {k : Nat} {kws : List (Str × V)} (F : FunD K x qual params body scope [] kws f fd) (S : FnScope N ps scope) {G : Gm} {d : Df} (hn : d.n = N.length) (hp : d.ps = ps.length)
    (hb : ∀ (cdv : Value) (A : Around) (outer : List Env) (s : Shared) (H : Hp) (E : XK), Room k (A.deeper (envOfC qual scope s.heap.objs.size f cdv)) →
      PSs (cxOf (L2.CX P w) P w K mg base N qual scope f cdv A outer s H E) body (tzS K ⟨xt, fun cls d _ H => E cls d H, ⟨none, none, T⟩⟩ (evSs G d.body))) :
    FnOk P w K mg base (L2.CX P w) (k + 1) f fd ps (spZ T K xt (callD G d) ps.length) := by
  refine F.ok S (fun vs H Q E h => h.1) fun cdv A outer s H vs Q E hr h => ⟨_, hb cdv A outer s H E hr, ?_⟩
  obtain ⟨hl, wd, ds, hd, sub, nt, ha, tb, r, ho⟩ := h
  have hnl : ps.length ≤ N.length := by have := congrArg List.length S.pre; rw [List.length_take] at this; omega
  refine ⟨⟨H, wd.F, tb⟩, wd, _, start_sim sub nt ha r (by omega) tb, ?_⟩
  have hds : ds.length = d.ps := by rw [hp, ← hl, r.length]
  unfold callD at ho
  rw [if_pos hds, hn] at ho
  cases hr : evSs G d.body ⟨ds.map Slot.fz ++ List.replicate (N.length - ds.length) .un, hd⟩ with
  | nx st => rw [hr] at ho; exact fun σ' w' H' s' t' => ho .non w' H' (CEnd.of s' t') .non
  | ret v st => rw [hr] at ho; exact fun x σ' w' H' s' t' q => ho x w' H' (CEnd.of s' t') q.c
  | exc ex st => rw [hr] at ho; exact fun cls dd σ' w' H' s' t' q => ho cls dd w' H' (CEnd.of s' t') q
  | brk st => rw [hr] at ho; exact ho.elim
  | cnt st => rw [hr] at ho; exact ho.elim
  | stuck => rw [hr] at ho; exact ho.elim
end
end ZZ

/-! ZL: methods of lists and texts; errors raised, caught. -/
namespace ZZ
open L2 PyProof.Rows PySem.Spec PySem

/-! ### methods -/
def rCntF (K : Frag) : V → List V → Hp → VK → Prop := fun x xs H Q => ∃ (p : Addr) (ys : List V) (y : V), x = .ref p ∧ xs = [y] ∧ SqL K H p ys ∧ flatV y = true ∧ ys.all flatV = true ∧ Q (.int (ys.countP fun z => eqV z y : Nat)) H
theorem countP_eqU {y : V} : ∀ {xs : List V} {us : List Value}, Vals xs us → xs.all flatV = true → us.countP (eqU y) = xs.countP fun z => eqV z y
  | _, _, .nil, _ => rfl
  | x :: xs, u :: us, .cons r t, f => by
    (rw [List.all_cons, Bool.and_eq_true] at f)
    rw [List.countP_cons, List.countP_cons, eqU_of r f.1, countP_eqU t f.2]
theorem mt_cntF {X : Cx} : MtR X "list.count" (rCntF X.K) := by
  (intro pins s σ H x xs v us Q I rx rxs h)
  obtain ⟨p, ys, y, rfl, rfl, hs, fy, fys, q⟩ := h
  cases rx
  (obtain ⟨u, rfl, ru⟩ := rxs.one)
  (obtain ⟨its, rv, ⟨⟨cls, dd, data, sl⟩, n, ho, hc, hdn, hd⟩, hlen⟩ := I.list hs)
  simp only at hc hd
  subst hc hd
  refine call_meets (PySem.F.slot_list_count) ⟨_, ho, rfl⟩ (PySem.F.entry_list_count) (PySem.F.args_list_count_2 _ _)
    (SeqAt.list_countAt p its.toArray n dd sl u (eqU y)) ⟨ho, fun u' hu' => mem_eqAt ru fy rv fys u' (by simpa using hu'), ?_⟩
  have ec : its.toArray.toList.countP (eqU y) = ys.countP fun z => eqV z y := countP_eqU rv fys
  refine ⟨.int (ys.countP fun z => eqV z y : Nat), H, I.tok _, ⟨s.toks, ?_⟩, q⟩
  show Value.int ((its.toArray.toList.countP (eqU y) : Nat) : Int) s.toks = Value.int ((ys.countP fun z => eqV z y : Nat) : Int) s.toks
  rw [ec]
def rMt (K : Frag) : Mt → V → List V → Hp → VK → Prop
  | .index => rIndex K
  | .count => rCntF K
  | .join => fun x xs H Q => ∃ a p, ∃ ys : List Str, x = .str a ∧ xs = [.ref p] ∧ (SqL K H p (ys.map V.str) ∨ SqT K H p (ys.map V.str)) ∧ (ys.map (·.length)).sum + ys.length * a.length ≤ 16777216 ∧ Q (.str (Txt.join a ys)) H
def mtTy : Mt → String
  | .index => "list"
  | .count => "list"
  | .join => "str"
section
variable {K : Frag} {ix : Ix} {e : En ix} {w : Wd} {H : Hp} {σ : L2.St} {st : S} {Q : VK} {v : Rv}
theorem find_of {x : V} {dx : D} (hx : Rep K w x dx) (f : dx.flat = true) : ∀ {xs : List V} {ds : List D} {j : Nat}, Reps K w xs ds → ds.all D.flat = true → findF dx ds = some j →
    ∃ z, xs[j]? = some z ∧ eqV z x = true ∧ ∀ (m : Nat) (z' : V), m < j → xs[m]? = some z' → eqV z' x = false
  | _, _, j, .nil, _, h => by cases h
  | y :: xs, d :: ds, j, .cons a r, g, h => by
    rw [List.all_cons, Bool.and_eq_true] at g
    unfold findF at h
    rw [List.findIdx?_cons] at h
    have e1 : eqV y x = eqF d dx := eqF_of a hx g.1 f
    cases hq : eqF d dx with
    | true =>
      rw [hq] at h e1
      cases h
      exact ⟨y, rfl, e1, fun m z' hm => by omega⟩
    | false =>
      rw [hq] at h e1
      have h : (List.findIdx? (fun y => eqF y dx) ds).map (· + 1) = some j := by simpa using h
      obtain ⟨j', h1, h2⟩ := Option.map_eq_some_iff.mp h
      subst h2
      obtain ⟨z, k1, k2, k3⟩ := find_of hx f r g.2 h1
      refine ⟨z, k1, k2, fun m z' hm hz => ?_⟩
      cases m with
      | zero => cases hz; exact e1
      | succ m => exact k3 m z' (by omega) hz
theorem strs_of : ∀ {xs : List V} {ds : List D} {ns : List Str}, Reps K w xs ds → D.strs ds = some ns → xs = ns.map V.str ∧ ds = ns.map D.str
  | _, _, _, .nil, h => by cases h; exact ⟨rfl, rfl⟩
  | _, d :: ds, _, .cons a r, h => by
    cases d <;> try (simp [D.strs] at h; done)
    unfold D.strs at h
    obtain ⟨ms, h1, h2⟩ := Option.map_eq_some_iff.mp h
    subst h2
    obtain ⟨e1, e2⟩ := strs_of r h1
    cases a
    subst e1 e2
    exact ⟨rfl, rfl⟩
theorem countF_of {x : V} {dx : D} (hx : Rep K w x dx) (f : dx.flat = true) : ∀ {xs : List V} {ds : List D}, Reps K w xs ds → ds.all D.flat = true → (xs.countP fun z => eqV z x) = ds.countP fun z => eqF z dx
  | _, _, .nil, _ => rfl
  | _, _, .cons a r, g => by
    rw [List.all_cons, Bool.and_eq_true] at g
    rw [List.countP_cons, List.countP_cons, countF_of hx f r g.2, eqF_of a hx g.1 f]
theorem tyMt_ok {m : Mt} {x : V} {d : D} (sub : Same w.F H) (h : View K w H x d) (t : tyMt m d = true) : tyV K (mtTy m) x H := by
  unfold tyMt at t
  split at t
  · obtain ⟨p, xs, rfl, hp, r⟩ := h.lst sub
    exact .inl ⟨rfl, xs, .of hp⟩
  · obtain ⟨p, xs, rfl, hp, r⟩ := h.lst sub
    exact .inl ⟨rfl, xs, .of hp⟩
  · rw [h.str]; rfl
  · cases t
theorem mt_ok {m : Mt} (s : Sim K e w H σ st) {x : V} {d : D} {xs : List V} {ds : List D} (hx : View K w H x d) (hv : Views K w H xs ds) (h : mtD m d ds = some v) (q : Wn K e σ st w H v Q) : rMt K m x xs H Q := by
  unfold mtD at h
  split at h
  · obtain ⟨y, rfl, hy⟩ := hv.one
    split at h
    · rename_i hf
      rw [Bool.and_eq_true] at hf
      obtain ⟨j, h1, h2⟩ := Option.map_eq_some_iff.mp h
      subst h2
      obtain ⟨p, ys, rfl, hp, r⟩ := hx.lst s.sub
      obtain ⟨z, k1, k2, k3⟩ := find_of (hy.flat hf.1) hf.1 r hf.2 h1
      exact ⟨p, ys, y, j, z, rfl, rfl, .of hp, flat_of (hy.flat hf.1) hf.1, flats_of r hf.2, k1, k2, k3, q.int s⟩
    · cases h
  · obtain ⟨y, rfl, hy⟩ := hv.one
    split at h
    · rename_i hf
      rw [Bool.and_eq_true] at hf
      cases h
      obtain ⟨p, ys, rfl, hp, r⟩ := hx.lst s.sub
      refine ⟨p, ys, y, rfl, rfl, .of hp, flat_of (hy.flat hf.1) hf.1, flats_of r hf.2, ?_⟩
      rw [countF_of (hy.flat hf.1) hf.1 r hf.2]
      exact q.int s
    · cases h
  · obtain ⟨y, rfl, hy⟩ := hv.one
    obtain ⟨l, h1, h⟩ := Option.bind_eq_some_iff.mp h
    obtain ⟨zs, h2, h⟩ := Option.bind_eq_some_iff.mp h
    split at h
    · rename_i hl
      cases h
      rw [hx.str]
      unfold seqOf at h1
      split at h1
      · cases h1
        obtain ⟨p, ys, rfl, hp, r⟩ := hy.lst s.sub
        have e1 := (strs_of r h2).1
        subst e1
        exact ⟨_, p, zs, rfl, rfl, .inl (.of hp), hl, q.str s⟩
      · cases h1
        obtain ⟨p, ys, rfl, hp, r⟩ := hy.tup s.sub
        have e1 := (strs_of r h2).1
        subst e1
        exact ⟨_, p, zs, rfl, rfl, .inr hp, hl, q.str s⟩
      · cases h1
    · cases h
  · cases h
end
section
variable {X : Cx} {m : Pm} {a b c : Expr} {pos : Pos} {es : List Expr}
theorem ze_mt {mt : Mt} {x : Str} {pa : Ev Pd} {g : Ev (List Pd)} {apos cpos : Pos}
    (hrule : ∀ {to : TE} {t : TA}, PE X a to → PA X (b :: es) t → PE X (.Call (.Attribute a x apos) (b :: es) [] cpos) (tBM X.K (mtTy mt) (rMt X.K mt) to t))
    (ha : PE X a (tzP X.K m pa)) (hb : PA X (b :: es) (tzPs X.K m g)) :
    PE X (.Call (.Attribute a x apos) (b :: es) [] cpos) (tz X.K m fun st => (pa st).bind fun p st => match p.get st with
    | some x0 => if tyMt mt x0 = true then (g st).bind fun ps st => match p.get st, getAll ps st with
        | some x, some xs => lift (mtD mt x xs) st
        | _, _ => .stuck
      else .stuck
    | none => .stuck) := (hrule ha hb).zm fun σ H Q ⟨e, w, st, s, P⟩ => by
  refine ⟨e, w, st, s, P.bind.mono fun p st1 w1 H1 s1 t1 P1 x hx => ?_⟩
  split at P1
  · rename_i x0 g0
    split at P1
    · rename_i ht
      refine ⟨tyMt_ok s1.sub (hx.view s1 g0) ht, e, w1, st1, s1, P1.bind.mono fun ps st2 w2 H2 s2 t2 P2 xs hxs => ?_⟩
      split at P2
      · rename_i dx dxs g1 g2
        obtain ⟨v, hv, P3⟩ := P2.lift
        exact mt_ok s2 ((hx.mono t2.le).view s2 g1) (hxs.views s2 g2) hv fun z w' H' s' t' r => P3.okT s' t' z (r.since (t1.trans t2).dom)
      · exact P2.no.elim
    · exact P1.no.elim
  · exact P1.no.elim
end

/-! ### an own error without fields -/
/-- what the base's __init__ promises: nothing is changed -/
def spPI (K : Frag) : Sp := fun vs H Q _ => ∃ (a C : Addr), vs = [.ref a] ∧ OexC K C ∧ H a = some (exo a C none) ∧ Q .non H
/-- a class of errors -/
structure ErrZ (P : Program) (w : World) (K : Frag) (mg : Str → Option Value) (base : Heap) (k : Nat) (x : Str) (C : Addr) : Prop where
  g : mg x = some (.ref C)
  T : OexC K C
  I : ∃ fI fd, PySem.W.findIn K (.ref C) "__init__" = some (some (.ref fI)) ∧ PySem.W.typeIn K (.ref fI) = some (.type "function") ∧ FnOk P w K mg base (L2.CX P w) k fI fd ["self"] (spPI K) ∧ Binds K fd ["self"] []
section
variable {X : Cx} {o e : Expr} {es : List Expr} {p p' p1 p2 pos : Pos}
theorem mk_end1 {pins : List (Addr × Obj)} {σ : L2.St} {H1 : Hp} {Q : XK} {hp hp2 h2 : Heap} {g1 g2 : Array GenState} {d1 d2 : Drawn} {t1 t2 : Nat} {os1 os2 : OsState} {a C : Addr} (T : Raises X (.ref C)) (I1 : Inv X pins σ H1 ⟨hp, g1, d1, t1, os1⟩)
    (ha : hp.objs.size ≤ a) (k : ∀ b o, hp.get? b = some o → hp2.get? b = some o) (un : Un (frs X.stack) [] (upd H1 a (exo a C none)) (upd H1 a (exo a C none)) hp2 h2) (hok : HOk X.prog X.w (upd H1 a (exo a C none)) h2) (ho : os2 = os1) (hb : AllBare g2)
    (q : Q (.ref C) none H1) : MkP X pins σ Q (.ref a) ⟨h2, g2, d2, t2, os2⟩ := by
  (have hn : H1 a = none := I1.hok.fresh ha)
  have hoe : ∃ t0 : Addr, h2.get? a = some ({ cls := .ref C, dict := none, data := .fields #[.ref t0, .none, .none, .none, .bool false, .none] } : Obj) := exo_at hok upd_same
  obtain ⟨t0, hoe⟩ := hoe
  (obtain ⟨G, g1', g2'⟩ := restrict h2 fun b => decide (b ≠ a))
  (have gk : ∀ b, b ≠ a → G.get? b = h2.get? b := fun b hb => g1' b (decide_eq_true hb))
  (have ge : G.get? a = none := g2' a (by simp))
  (have nha : ∀ {b : Addr} {o : Obj}, hp.get? b = some o → b ≠ a := fun {b o} z => Nat.ne_of_lt (Nat.lt_of_lt_of_le (Heap.lt_size z) ha))
  (have up : ∀ {b : Addr}, b ≠ a → H1 b = none → upd H1 a (exo a C none) b = none := fun {b} hb n => by rw [upd_ne hb]; exact n)
  have U : Un (frs X.stack) [] H1 H1 hp G := {
    keep := fun b o z nb hf hx => by
      rw [gk b (nha z)]
      exact un.keep b o (k b o z) (up (nha z) nb) hf hx
    slot := fun b o z nb hf hx => by
      rw [gk b (nha z)]
      exact un.slot b o (k b o z) (up (nha z) nb) hf hx
    free := fun b o z n hx => n
    there := fun b o z hx => by
      rw [gk b (nha z)]
      (exact un.there b o (k b o z) hx)
    tups := fun b xs z => z
    frzs := fun b o v z => z
    tbls := fun b ps z => ⟨#[], by rw [z]; simp⟩ }
  have hok3 : HOk X.prog X.w H1 G := fun b o z => by
    have hba : b ≠ a := ne_of_none z hn
    exact (hok b o (by rw [upd_ne hba]; exact z)).stay (fun c v hc y => by
        have hca : c ≠ a := by
          rcases hc with hc | hc
          · rw [hc]; exact hba
          · exact at_ne (upd_same (H := H1) (o := exo a C none)) hc exo_own
        rw [gk c hca]
        exact y)
      (fun c hc => by rwa [upd_ne (at_ne (upd_same (H := H1) (o := exo a C none)) hc exo_own)] at hc) (fun c xs hc => by rwa [upd_ne (at_ne (upd_same (H := H1) (o := exo a C none)) hc exo_tup)] at hc)
  have J : Inv X pins σ H1 ⟨G, g2, d2, t2, os2⟩ := I1.call' (ch := []) ho U hok3 hb (fun b z => absurd z (by simp))
  refine ⟨a, _, _, ⟨G, g2, d2, t2, os2⟩, _, .ref C, none, rfl, J, fun b o z => ?_, ge, hoe, ⟨rfl, rfl⟩, rfl, rfl, hn, rfl, hb, T, q⟩
  by_cases hba : b = a
  · rw [hba, ge] at z
    cases z
  · (exact (gk b hba).symm.trans z)
theorem pmk_z {x : Str} {C : Addr} {k j : Nat} (Z : ErrZ X.prog X.w X.K X.mg X.base k x C) (hr : Room j X.A) (hk : k + 1 ≤ j) (hg : Gl X x) (hdb : (x == ("__debug__" : Str)) = false) :
    PMk X (.Call (.Name x p) [] [] pos) (fun σ H Q => Q (.ref C) none H) := by
  intro pins s σ H Q I h
  obtain ⟨fI, fd, iC, tI, F1, hb⟩ := Z.I
  have T := Z.T
  (obtain ⟨nm, q, N, bs, bm, sn, sub, ab, col, dd, k0, k1, k2, k3, k5, hC, hbm⟩ := T.cls)
  refine wpAny_Call_Name_kw (ld_glob I hg Z.g ?_ hdb)
  refine PySem.W.callWith_K0 I.kIn T.kC ?_
  show wpAny _ _ (call (.ref C) []) _ _ _
  (obtain ⟨hp, g, dr, tk, os⟩ := s)
  (have hsz : hp.objs.size ≤ hp.objs.size + 1 := Nat.le_succ _)
  have hn : H (hp.objs.size + 1) = none := I.hok.fresh hsz
  have kk : ∀ b o, hp.get? b = some o → ((hp.push (PySem.W.kdv_tup [])).push (PySem.HandSPX.excO C hp.objs.size)).get? b = some o := fun b o e => Heap.get?_push_of_some _ (Heap.get?_push_of_some _ e)
  have hget : ((hp.push (PySem.W.kdv_tup [])).push (PySem.HandSPX.excO C hp.objs.size)).get? (hp.objs.size + 1) = some (PySem.HandSPX.excO C hp.objs.size) := by heap_get
  have I2 : Inv X pins σ (upd H (hp.objs.size + 1) (exo (hp.objs.size + 1) C none)) ⟨(hp.push (PySem.W.kdv_tup [])).push (PySem.HandSPX.excO C hp.objs.size), g, dr, tk, os⟩ :=
    I.laid (t' := tk) (a := hp.objs.size + 1) (o := exo (hp.objs.size + 1) C none) (h' := (hp.push (PySem.W.kdv_tup [])).push (PySem.HandSPX.excO C hp.objs.size)) kk hsz (exo_ok hget)
  have r2 : Vals [V.ref (hp.objs.size + 1)] [Value.ref (hp.objs.size + 1)] := .cons rfl .nil
  have hr1 : Room (k + 1) X.A := hr.mono hk
  refine wpAny_call (PySem.HandSPX.call_own F.excBase_ValueError (fun Y => PySem.HandSPX.refsVE_contains Y bm hbm) (I.kIn _ _ hC) (PySem.W.looks_findIn I.kIn iC) (fun self => PySem.W.bind_fn I.kIn self tI) (Nat.zero_le _)
    (codeAny_mono (F1.run _ X.stack _ _ ⟨[Value.ref (hp.objs.size + 1)], []⟩ [Value.ref (hp.objs.size + 1)] _ (fun v H2 => v = .non ∧ H2 = upd H (hp.objs.size + 1) (exo (hp.objs.size + 1) C none)) (fun _ _ _ => False) (hr1.make C [] []) (I2.env0.make C [] []) (hb _ [Value.ref (hp.objs.size + 1)] I2.kIn rfl) r2 ⟨_, C, rfl, T, upd_same, rfl, rfl⟩) fun r s' hq' => ?_))
  cases r with
  | error er =>
    obtain ⟨_, _, _, _, _, _, _, _, _, _, _, _, z⟩ := (show L2.CX X.prog X.w X.stack _ _ (fun _ _ _ => False) er s' from hq')
    exact z.elim
  | ok fl =>
    cases fl with
    | ret u =>
      obtain ⟨v, H2, os2, bare2, un2, hok2, rv, ev, eH⟩ := hq'
      subst ev
      subst eH
      (obtain ⟨h2, g2, d2, t2, os'⟩ := s')
      exact ⟨rv, mk_end1 (raises_own T.exC T.tyC) I hsz kk un2 hok2 os2 bare2 h⟩
    | next => (exact False.elim hq')
    | brk => exact False.elim hq'
    | cont => (exact False.elim hq')
end
/-- an error in the air, without fields -/
def xtZ (mg : Str → Option Value) : ExT := fun _ cls d ex _ _ => ∃ C, cls = .ref C ∧ d = none ∧ mg ex.c = some (.ref C) ∧ ex.fs = []
theorem zs_raise {X : Cx} {m : Pm} {x : Str} {C : Addr} {k j : Nat} {p pos pos2 : Pos} (hc : X.calm = true) (tk : Takes X m.wx) (hm : m.X = xtZ X.mg) (Z : ErrZ X.prog X.w X.K X.mg X.base k x C) (hr : Room j X.A) (hk : k + 1 ≤ j) (hg : Gl X x) (hdb : (x == ("__debug__" : Str)) = false) :
    PS X (.Raise (some (.Call (.Name x p) [] [] pos)) none pos2) (tzS X.K m fun st => .exc ⟨x, []⟩ st) := (ps_raise hc tk (pmk_z Z hr hk hg hdb)).zm fun D σ H ⟨e, w, st, s, P⟩ => by
  refine P (.ref C) none σ w H s (SStep.refl ..) ?_
  rw [hm]
  exact ⟨C, rfl, rfl, Z.g, rfl⟩
end ZZ

/-! ZM: comprehensions, isinstance, try, displays of dicts. -/
namespace ZZ
open L2 PyProof.Rows PySem.Spec PySem

section
variable {X : Cx} {m : Pm} {a b c tg iter elt : Expr} {pos : Pos} {es : List Expr}
theorem ze_lc {t : Tg} {f : Ev (List D)} {ft : Ev Bool} {fe : Ev D} {own : List (Str × Nat)} {tt : TT} {ifs : List Expr} {scope : Scope} (hc : X.calm = true) (hN : X.N.Nodup) (hi : PI X tg iter (tzI X.K m f)) (ok : blkC X.N X.env.scope scope own = true)
    (hg : ∀ (s : Shared) (H : Hp) (C : Addr) (cl : List (Str × Addr)) (fp : List Addr), PG (X.blk s H scope (compEnvC scope cl C X.env) fp) tg (tzG X.K m.ix t)) (ht : ∀ (s : Shared) (H : Hp) (C : Addr) (cl : List (Str × Addr)) (fp : List Addr), PTs (X.blk s H scope (compEnvC scope cl C X.env) fp) ifs tt)
    (htt : ∀ σ H Q, tzT X.K m.dry ft σ H Q → tt σ H Q)
    (he : ∀ (s : Shared) (H : Hp) (C : Addr) (cl : List (Str × Addr)) (fp : List Addr), PE (X.blk s H scope (compEnvC scope cl C X.env) fp) elt (tzF X.K m.dry fe)) (hv : ∀ i ∈ t.at_, i ∈ own.map (·.2)) (hs : ∀ x, foldedSetIterable iter X.env x = pure x) :
    PE X (.ListComp elt [⟨tg, iter, ifs, 0⟩] scope pos) (tz X.K m fun st => (f st).bind fun ds st => match lcRun (own.map (·.2)) t ft fe ds [] st with
      | some (l, st') => .ok (.o (.lst l)) (unwipe st.sl st' (own.map (·.2)))
      | none => .stuck) :=
  (pe_lc hc hN hi (blkOk_by ok) hg ht he hs).zm fun σ H Q h => lc_ok htt hv σ H Q h
/-- name = [..], the name a local -/
theorem zs_setlc {i : Nat} {y : Str} {py : Pos} {spos : Pos} {t : Tg} {f : Ev (List D)} {ft : Ev Bool} {fe : Ev D} {own : List (Str × Nat)} {tt : TT} {ifs : List Expr} {scope : Scope} (hc : X.calm = true) (hN : X.N.Nodup) (hy : X.N[i]? = some y) (hyl : X.env.scope.names.lookup y = some .local)
    (hsw : swapsWith (.ListComp elt [⟨tg, iter, ifs, 0⟩] scope pos) (some (.Name y py)) spos.line X.env = pure true) (hi : PI X tg iter (tzI X.K m f)) (ok : blkC X.N X.env.scope scope own = true)
    (hg : ∀ (s : Shared) (H : Hp) (C : Addr) (cl : List (Str × Addr)) (fp : List Addr), PG (X.blk s H scope (compEnvC scope cl C X.env) fp) tg (tzG X.K m.ix t)) (ht : ∀ (s : Shared) (H : Hp) (C : Addr) (cl : List (Str × Addr)) (fp : List Addr), PTs (X.blk s H scope (compEnvC scope cl C X.env) fp) ifs tt)
    (htt : ∀ σ H Q, tzT X.K m.dry ft σ H Q → tt σ H Q)
    (he : ∀ (s : Shared) (H : Hp) (C : Addr) (cl : List (Str × Addr)) (fp : List Addr), PE (X.blk s H scope (compEnvC scope cl C X.env) fp) elt (tzF X.K m.dry fe)) (hv : ∀ i ∈ t.at_, i ∈ own.map (·.2)) (hs : ∀ x, foldedSetIterable iter X.env x = pure x) :
    PS X (.Assign [.Name y py] (.ListComp elt [⟨tg, iter, ifs, 0⟩] scope pos) spos) (tzS X.K m fun st => ((f st).bind fun ds st => match lcRun (own.map (·.2)) t ft fe ds [] st with
      | some (l, st') => .ok (.o (.lst l)) (unwipe st.sl st' (own.map (·.2)))
      | none => .stuck : Res Rv).s fun v st => .nx (st.put i v.slot)) :=
  (ps_setLc hc hN hy hyl hsw hi (blkOk_by ok) hg ht he hs).zm fun D σ H ⟨e, w, st, s, P⟩ => by
    refine lc_ok (m := m) htt hv σ H _ ⟨e, w, st, s, (P.s s).mono fun v st1 w1 H1 s1 t1 P1 x r => ?_⟩
    exact P1.nx (s1.put_v r)
theorem tt_none {K : Frag} {m : Pm} : ∀ σ H Q, tzT K m.dry (fun st => .ok true st) σ H Q → tYes σ H Q := fun σ H Q ⟨e, w, st, s, P⟩ => P.ok s
theorem ze_isi (hc : X.calm = true) {cl : Cl} {f : Ev D} {p q : Pos} (hg : Gl X "isinstance") (hm : X.mg "isinstance" = none) (hgx : Gl X (clTy cl)) (hmx : X.mg (clTy cl) = none) (ha : PE X a (tzF X.K m f)) (hs : notStar a = true) :
    PE X (.Call (.Name "isinstance" p) [a, .Name (clTy cl) q] [] pos) (tz X.K m fun st => (f st).bind fun x st => (lift (isiD x cl) st).bind fun b st => .ok (.f (.bl b)) st) := by
  have hv : bootBuiltins (clTy cl) = some (.type (clTy cl)) := by cases cl <;> rfl
  have hb : PE X (.Name (clTy cl) q) (tC (.ty (clTy cl))) := by cases cl <;> exact pe_bltn hgx hmx hv rfl
  refine (pe_callB (id := "isinstance") call_isi hg hm rfl (pa_cons ha (pa_cons hb pa_nil rfl) (star_cons hs)) (by decide) (by decide) (star_cons hs) rfl).zm fun σ H Q ⟨e, w, st, s, P⟩ => ?_
  refine ⟨e, w, st, s, P.bind.mono fun d st1 w1 H1 s1 t1 P1 v r => ?_⟩
  obtain ⟨k, hk, P2⟩ := P1.bind.lift
  obtain ⟨ty, h1, h2⟩ := isi_ok s1 (.rep r) hk
  exact ⟨v, .ty (clTy cl), _, _, k, rfl, .ty _, h1, h2, (P2.ok s1).ok s1 _ (.bl k)⟩
/-- isinstance(x, (c, c')) -/
theorem ze_isi2 (hc : X.calm = true) {cl cl' : Cl} {f : Ev D} {p q q' pt : Pos} {k : Nat} (hg : Gl X "isinstance") (hm : X.mg "isinstance" = none) (hgx : Gl X (clTy cl)) (hmx : X.mg (clTy cl) = none) (hgy : Gl X (clTy cl')) (hmy : X.mg (clTy cl') = none) (ha : PE X a (tzF X.K m f)) (hs : notStar a = true) :
    PE X (.Call (.Name "isinstance" p) [a, .Tuple [.Name (clTy cl) q, .Name (clTy cl') q'] k pt] [] pos) (tz X.K m fun st => (f st).bind fun x st => (lift (isiD x cl) st).bind fun b st => if b = true then .ok (.f (.bl true)) st else (lift (isiD x cl') st).bind fun b st => .ok (.f (.bl b)) st) := by
  have hv : ∀ c : Cl, bootBuiltins (clTy c) = some (.type (clTy c)) := fun c => by cases c <;> rfl
  have hb : PE X (.Name (clTy cl) q) (tC (.ty (clTy cl))) := by cases cl <;> exact pe_bltn hgx hmx (hv _) rfl
  have hb' : PE X (.Name (clTy cl') q') (tC (.ty (clTy cl'))) := by cases cl' <;> exact pe_bltn hgy hmy (hv _) rfl
  refine (pe_callB (id := "isinstance") call_isiT hg hm rfl (pa_cons ha (pa_cons (pe_tup (pa_cons hb (pa_cons hb' pa_nil rfl) rfl)) pa_nil rfl) (star_cons hs)) (by decide) (by decide) (star_cons hs) rfl).zm fun σ H Q ⟨e, w, st, s, P⟩ => ?_
  refine ⟨e, w, st, s, P.bind.mono fun d st1 w1 H1 s1 t1 P1 v r => ?_⟩
  refine ⟨Nat.le_trans (by decide : 2 ≤ 100) (by rw [← line_eq]; decide), fun tp n => ?_⟩
  have s2 := s1.lay (o := .tup [.ty (clTy cl), .ty (clTy cl')]) n
  have t2 := Step.lay (o := .tup [.ty (clTy cl), .ty (clTy cl')]) s1 n
  obtain ⟨k1, hk1, P2⟩ := P1.bind.lift
  obtain ⟨ty, h1, h2⟩ := isi_all s2 (.rep r) hk1
  have P3 := P2.ok s1
  cases k1 with
  | true =>
    refine ⟨v, tp, _, _, _, true, rfl, upd_same, .cons (.ty _) (.cons (.ty _) .nil), h1, ?_, Pz.okT P3 s2 t2 _ (.bl true)⟩
    simp only [PySem.W.kitAny, h2 _ _ hk1]
  | false =>
    obtain ⟨k2, hk2, P4⟩ := Pz.lift (Pz.bind P3)
    have P5 := P4.ok s1
    refine ⟨v, tp, _, _, _, k2, rfl, upd_same, .cons (.ty _) (.cons (.ty _) .nil), h1, ?_, Pz.okT P5 s2 t2 _ (.bl k2)⟩
    simp only [PySem.W.kitAny, h2 _ _ hk1, h2 _ _ hk2]
    cases k2 <;> rfl
end
end ZZ

/-! ZN: try, the caught error, dict displays. -/
namespace ZZ
open L2 PyProof.Rows PySem.Spec PySem

section
variable {K : Frag} {ix ix' : Ix} {e : En ix} {w : Wd} {H : Hp} {σ σ' : L2.St} {st st' : S}
/-- the slots are told anew, at another index -/
theorem Sim.re (s : Sim K e w H σ st) (e' : En ix') (hB : e'.B = e.B) (hF : e'.F0 = e.F0) (hT : ix'.T = ix.T) (len : σ'.length = st'.sl.length) (hd : st'.hd = st.hd) (sl : ∀ j : Nat, SlotOk K e' w H σ'[j]? st'.sl[j]?)
    (ow : ∀ (j : Nat) (d : D), st'.sl[j]? = some (.ow d) → st.sl[j]? = some (.ow d) ∧ σ'[j]? = σ[j]?) : Sim K e' w H σ' st' := by
  refine ⟨len, sl, fun i j p d d' h1 h2 h3 h4 => ?_, s.sub, s.nt, ?_, fun a o h => ?_, by rw [hd]; exact s.hand⟩
  · obtain ⟨a1, b1⟩ := ow i d h1
    obtain ⟨a2, b2⟩ := ow j d' h2
    rw [b1] at h3
    rw [b2] at h4
    exact s.inj i j p d d' a1 a2 h3 h4
  · rw [hB, hT]; exact s.fr
  · rw [hF, hB]; exact s.fsh a o h
theorem Own.re {e' : En ix'} (hB : e'.B = e.B) {p : Addr} {d : D} (o : Own K e w H p d) : Own K e' w H p d := ⟨o.nf, by rw [hB]; exact o.nb, o.nh, o.at_⟩
/-- the caught error's name is set -/
theorem Sim.caught (s : Sim K e w H σ st) (hix : ix.ea = none) (y : ExI) {i : Nat} {c : Str} (hy : y.ok c) : Sim K (⟨e.B, e.F0, e.tab⟩ : En ⟨some y, ix.cb, ix.T⟩) w H (σ.set i (some (.ref y.a))) (st.put i (.sp (some c))) := by
  refine s.re _ rfl rfl rfl ?_ rfl (fun j => ?_) fun j d h => ?_
  · show (σ.set i _).length = (st.sl.set i _).length
    rw [List.length_set, List.length_set]; exact s.len
  · by_cases hj : i = j
    · subst hj
      by_cases hl : i < st.sl.length
      · rw [get_put_self hl, List.getElem?_set_self (by rw [s.len]; exact hl)]
        exact ⟨y, rfl, rfl, hy⟩
      · rw [show (st.put i (.sp (some c))).sl[i]? = none from List.getElem?_eq_none (by show (st.sl.set i _).length ≤ i; rw [List.length_set]; omega)]
        trivial
    · rw [get_put_ne hj, List.getElem?_set_ne hj]
      have q := s.sl j
      cases hs : st.sl[j]? with
      | none => trivial
      | some sl =>
        rw [hs] at q
        cases sl with
        | un => trivial
        | fz d => exact q
        | ow d =>
          obtain ⟨p, e1, o⟩ := q
          exact ⟨p, e1, ⟨o.nf, o.nb, o.nh, o.at_⟩⟩
        | sp t =>
          cases t with
          | none => exact q
          | some c' =>
            obtain ⟨z, e1, _⟩ := q
            rw [hix] at e1; cases e1
  · by_cases hj : i = j
    · subst hj
      by_cases hl : i < st.sl.length
      · rw [get_put_self hl] at h; cases h
      · rw [show (st.put i (.sp (some c))).sl[i]? = none from List.getElem?_eq_none (by show (st.sl.set i _).length ≤ i; rw [List.length_set]; omega)] at h
        cases h
    · rw [get_put_ne hj] at h
      exact ⟨h, List.getElem?_set_ne hj⟩
theorem clr_get {i j : Nat} {sl : Slot} (h : (clrS st i).sl[j]? = some sl) : sl = .un ∨ (st.sl[j]? = some sl ∧ ∀ c, sl ≠ .sp (some c)) ∧ i ≠ j := by
  have h : ((st.sl.map Slot.noSp).set i .un)[j]? = some sl := h
  by_cases hj : i = j
  · subst hj
    by_cases hl : i < (st.sl.map Slot.noSp).length
    · rw [List.getElem?_set_self hl] at h; cases h; exact .inl rfl
    · rw [List.getElem?_eq_none (by rw [List.length_set]; omega)] at h; cases h
  · rw [List.getElem?_set_ne hj, List.getElem?_map] at h
    cases q : st.sl[j]? with
    | none => rw [q] at h; cases h
    | some s0 =>
      rw [q] at h
      cases s0 with
      | un => cases h; exact .inl rfl
      | fz d => cases h; exact .inr ⟨⟨rfl, fun c z => nomatch z⟩, hj⟩
      | ow d => cases h; exact .inr ⟨⟨rfl, fun c z => nomatch z⟩, hj⟩
      | sp t =>
        cases t with
        | none => cases h; exact .inr ⟨⟨rfl, fun c z => nomatch z⟩, hj⟩
        | some c => cases h; exact .inl rfl
/-- .. and let go -/
theorem Sim.clr {y : ExI} {tb : LamX.Tabs ix.T e.B} (s : Sim K (⟨e.B, e.F0, tb⟩ : En ⟨some y, ix.cb, ix.T⟩) w H σ st) (i : Nat) (h : σ' = σ ∨ σ' = σ.set i none) : Sim K e w H σ' (clrS st i) := by
  have hl : σ'.length = σ.length := by rcases h with h | h <;> rw [h]; rw [List.length_set]
  have hv : ∀ j, i ≠ j → σ'[j]? = σ[j]? := fun j hj => by
    rcases h with h | h <;> rw [h]
    exact List.getElem?_set_ne hj
  refine s.re e rfl rfl rfl ?_ rfl (fun j => ?_) fun j d q => ?_
  · rw [hl, s.len]
    show _ = ((st.sl.map Slot.noSp).set i .un).length
    rw [List.length_set, List.length_map]
  · cases q : (clrS st i).sl[j]? with
    | none => trivial
    | some sl =>
      rcases clr_get q with e1 | ⟨⟨e1, e2⟩, hj⟩
      · rw [e1]; trivial
      · have z := s.sl j
        rw [e1] at z
        rw [hv j hj]
        cases sl with
        | un => trivial
        | fz d => exact z
        | ow d =>
          obtain ⟨p, e3, o⟩ := z
          exact ⟨p, e3, ⟨o.nf, o.nb, o.nh, o.at_⟩⟩
        | sp t =>
          cases t with
          | none => exact z
          | some c => exact absurd rfl (e2 c)
  · rcases clr_get q with e1 | ⟨⟨e1, e2⟩, hj⟩
    · cases e1
    · exact ⟨e1, hv j hj⟩
end
/-- the parameters of an except suite -/
def Pm.su (m : Pm) (mg : Str → Option Value) (a C : Addr) : Pm := ⟨m.X, fun _ _ _ _ => False, ⟨some ⟨a, fun c => mg c = some (.ref C)⟩, m.ix.cb, m.ix.T⟩⟩
/-- what is known of the classes of errors: c0's error asked by the clause 'except x' -/
def SubX (K : Frag) (mg : Str → Option Value) (sub : Str → Str → Option Bool) (x : Str) (c : Value) : Prop := ∀ c0 b, sub c0 x = some b → ∀ C, mg c0 = some (.ref C) → PySem.W.exmOne K (.ref C) c = some b
def SubI (K : Frag) (mg : Str → Option Value) (sub : Str → Str → Option Bool) (x : Str) (c : Value) : Prop := ∀ c0 b, sub c0 x = some b → ∀ C, mg c0 = some (.ref C) → ExcC K C ∧ PySem.W.kitOne K (.ref C) c = some b
section
variable {X : Cx} {m : Pm}
theorem zs_try {x n : Str} {c : Value} {i : Nat} {body suite : List Stmt} {b₀ : Stmt} {np pos pos' : Pos} {sub : Str → Str → Option Bool} {fb fs : S → SR} (hs : X.stack = X.env :: X.outer) (hf : X.env.frame = some X.env.locals) (hN : X.N.Nodup) (hi : X.N[i]? = some n) (hln : X.env.kindOf n = some .local) (hc : Names X x c)
    (tk : Takes X m.wx) (hm : m.X = xtZ X.mg) (hix : m.ix.ea = none) (hsub : SubX X.K X.mg sub x c)
    (hb : ∀ (W : WX) (pn : List (Addr × Obj)) (xe : Value → Shared → Prop), Takes (X.tr pn xe) W → PassesOwn (model X.prog X.w) X.A X.env xe → PSs (X.tr pn xe) body (tzS X.K ⟨m.X, W, m.ix⟩ fb))
    (hsu : ∀ (a : Addr) (oe : Obj) (C : Addr) (pn : List (Addr × Obj)), Zc (.ref C) none oe → (∃ vs, oe.data = .fields vs) → PSs (X.suite a ((a, oe) :: pn)) (b₀ :: suite) (tzS X.K (m.su X.mg a C) fs)) :
    PS X (.Try body [.ExceptHandler (some (.Name x np)) (some n) (b₀ :: suite) pos'] [] [] pos) (tzS X.K m fun st => match fb st with
    | .exc x1 st1 => match sub x1.c x with
      | some true => match fs (st1.put i (.sp (some x1.c))) with
        | .nx st2 => .nx (clrS st2 i)
        | .brk st2 => .brk (clrS st2 i)
        | .cnt st2 => .cnt (clrS st2 i)
        | .ret v st2 => .ret v (clrS st2 i)
        | _ => .stuck
      | some false => .exc x1 st1
      | none => .stuck
    | r => r) := by
  refine (ps_try_as (ts := fun a cls d D σ H => ∃ C, cls = .ref C ∧ d = none ∧ tzS X.K (m.su X.mg a C) fs D σ H) hs hf hN hi hln hc tk hb fun a oe cls d pn hz hd => ?_).zm fun D σ H ⟨e, w, st, s, P⟩ => ?_
  · refine ⟨fun pins s σ H D I h => ?_⟩
    obtain ⟨C, rfl, rfl, h⟩ := h
    exact (hsu a oe C pn hz hd).run pins s σ H D I h
  · refine ⟨e, w, st, s, ?_⟩
    have P : PzS X.K m e w D (match fb st with
    | .exc x1 st1 => match sub x1.c x with
      | some true => match fs (st1.put i (.sp (some x1.c))) with
        | .nx st2 => .nx (clrS st2 i)
        | .brk st2 => .brk (clrS st2 i)
        | .cnt st2 => .cnt (clrS st2 i)
        | .ret v st2 => .ret v (clrS st2 i)
        | _ => .stuck
      | some false => .exc x1 st1
      | none => .stuck
    | r => r) := P
    cases hfb : fb st with
    | nx st1 => rw [hfb] at P; exact P
    | brk st1 => rw [hfb] at P; exact P
    | cnt st1 => rw [hfb] at P; exact P
    | ret v st1 => rw [hfb] at P; exact P
    | stuck => rw [hfb] at P; exact P
    | exc ex st1 =>
      rw [hfb] at P
      dsimp only at P
      intro cls d σ1 w1 H1 s1 t1 hX
      have hX0 : m.X X.K cls d ex w1 H1 := hX
      rw [hm] at hX
      obtain ⟨C, rfl, rfl, hC, hfs⟩ := hX
      cases hsb : sub ex.c x with
      | none => rw [hsb] at P; exact P.no.elim
      | some b =>
        rw [hsb] at P
        refine ⟨b, hsub ex.c b hsb C hC, fun hb1 a na => ?_, fun hb1 => ?_⟩
        · subst hb1
          dsimp only at P
          refine ⟨C, rfl, rfl, ⟨e.B, e.F0, e.tab⟩, w1, _, s1.caught hix ⟨a, fun c => X.mg c = some (.ref C)⟩ hC, ?_⟩
          have P := P.shift t1
          cases hfs2 : fs (st1.put i (.sp (some ex.c))) with
          | nx st2 => rw [hfs2] at P; exact fun σ2 w2 H2 s2 t2 => P (σ2.set i none) w2 H2 (s2.clr i (.inr rfl)) ⟨t2.le, t2.hfr⟩
          | brk st2 => rw [hfs2] at P; exact fun σ2 w2 H2 s2 t2 => P (σ2.set i none) w2 H2 (s2.clr i (.inr rfl)) ⟨t2.le, t2.hfr⟩
          | cnt st2 => rw [hfs2] at P; exact fun σ2 w2 H2 s2 t2 => P (σ2.set i none) w2 H2 (s2.clr i (.inr rfl)) ⟨t2.le, t2.hfr⟩
          | ret v st2 =>
            rw [hfs2] at P
            intro x2 σ2 w2 H2 s2 t2 r2
            refine P x2 σ2 w2 H2 (s2.clr i (.inl rfl)) ⟨t2.le, t2.hfr⟩ ?_
            cases v with
            | f d => exact r2
            | o d =>
              obtain ⟨p, e1, o⟩ := r2
              exact ⟨p, e1, ⟨o.nf, o.nb, o.nh, o.at_⟩⟩
          | exc x2 st2 => rw [hfs2] at P; exact P.no.elim
          | stuck => rw [hfs2] at P; exact P.no.elim
        · subst hb1
          exact P _ none σ1 w1 H1 s1 t1 hX0
/-- isinstance(e, c), e the caught error -/
theorem ze_isE {a C : Addr} {oe : Obj} {pn : List (Addr × Obj)} {i : Nat} {x y : Str} {cv : Value} {tc : V} {sub : Str → Str → Option Bool} {p q r pos : Pos} (hz : Zc (.ref C) none oe) (hf : ∃ vs, oe.data = .fields vs) (hx : X.N[i]? = some x) (hv : Vis X.env.scope x) (hd : (x == ("__debug__" : Str)) = false) (hcd : (x == ("__classdict__" : Str)) = false)
    (hg : Gl X "isinstance") (hm : X.mg "isinstance" = none) (hy : PE (X.suite a ((a, oe) :: pn)) (.Name y r) (tC tc)) (hcv : ∀ u, RelV tc u → u = cv) (hsub : SubI X.K X.mg sub y cv) :
    PE (X.suite a ((a, oe) :: pn)) (.Call (.Name "isinstance" p) [.Name x q, .Name y r] [] pos) (tz X.K (m.su X.mg a C) fun st => match st.sl[i]? with
    | some (.sp (some c0)) => (lift (sub c0 y) st).bind fun b st => .ok (.f (.bl b)) st
    | _ => .stuck) := by
  (refine ⟨fun pins s σ H Q I h => ?_⟩)
  obtain ⟨e, w, st, s1, P⟩ := h
  have z := s1.sl i
  have P : Pz X.K (m.su X.mg a C) e σ st w H (match st.sl[i]? with
    | some (.sp (some c0)) => (lift (sub c0 y) st).bind fun b st => (.ok (.f (.bl b)) st : Res Rv)
    | _ => .stuck) _ := P
  cases hs : st.sl[i]? with
  | none => rw [hs] at P; exact P.no.elim
  | some sl =>
    rw [hs] at P z
    cases sl with
    | un => exact P.no.elim
    | fz d => exact P.no.elim
    | ow d => exact P.no.elim
    | sp t =>
      cases t with
      | none => exact P.no.elim
      | some c0 =>
        obtain ⟨yI, e1, e2, e3⟩ := z
        cases e1
        obtain ⟨k, hk, P2⟩ := Pz.bind (k := fun b st => (.ok (.f (.bl b)) st : Res Rv)) P |>.lift
        obtain ⟨f1, f2⟩ := hsub c0 k hk C e3
        refine (pe_callB (X := X.suite a ((a, oe) :: pn)) (id := "isinstance") (call_isE f1 hz hf) hg hm rfl (pa_cons (pe_var hx hv hd hcd) (pa_cons hy pa_nil rfl) rfl) (by decide) (by decide) rfl rfl).run pins s σ H Q I ?_
        exact ⟨_, e2, _, cv, k, rfl, hcv, f2, (P2.ok s1).ok s1 _ (.bl k)⟩
end
end ZZ

/-! ZO: dict displays; lambdas. -/
namespace ZZ
open L2 PyProof.Rows PySem.Spec PySem

def flatP : List (V × V) → List V
  | [] => []
  | (a, b) :: r => a :: b :: flatP r
/-- the pairs of a dict display -/
def PPz (X : Cx) (m : Pm) (pos : Pos) (keys : List (Option Expr)) (values : List Expr) (f : Ev (List D)) : Prop :=
  ∃ trs, PPs X pos keys values trs ∧ keys.all (·.isSome) = true ∧ keys.length = values.length ∧ ∀ (σ : L2.St) (H : Hp) (e : En m.ix) (w : Wd) (st : S) (R : List (V × V) → Hp → Prop), Sim X.K e w H σ st →
    Pz X.K m e σ st w H (f st) (fun ds st' w' H' => ∀ ps, Reps X.K w' (flatP ps) ds → R ps H') → tPairs trs σ H R
section
variable {X : Cx} {m : Pm} {pos : Pos}
theorem zk_nil : PPz X m pos [] [] (fun st => .ok [] st) := ⟨[], pps_nil, rfl, rfl, fun σ H e w st R s P => P.ok s [] .nil⟩
theorem zk_cons {k v : Expr} {ks : List (Option Expr)} {vs : List Expr} {f g : Ev D} {h : Ev (List D)} (hk : PE X k (tzF X.K m f)) (hv : PE X v (tzF X.K m g)) (hr : PPz X m pos ks vs h) :
    PPz X m pos (some k :: ks) (v :: vs) (fun st => (f st).bind fun x st => (g st).bind (fun y st => (h st).bind fun ds st => .ok (y :: ds) st) |>.bind fun ds st => .ok (x :: ds) st) := by
  obtain ⟨trs, h1, h2, h3, h4⟩ := hr
  refine ⟨_, pps_cons hk hv h1, ?_, ?_, fun σ H e w st R s P => ?_⟩
  · rw [List.all_cons, h2]; rfl
  · rw [List.length_cons, List.length_cons, h3]
  · refine ⟨e, w, st, s, P.bind.mono fun x st1 w1 H1 s1 t1 P1 vx rx => ?_⟩
    refine ⟨e, w1, st1, s1, P1.bind.bind.mono fun y st2 w2 H2 s2 t2 P2 vy ry => ?_⟩
    refine h4 σ H2 e w2 st2 _ s2 (P2.bind.mono fun ds st3 w3 H3 s3 t3 P3 ps rs => ?_)
    exact (P3.ok s3).ok s3 ((vx, vy) :: ps) (.cons (rx.mono (Wd.le_trans t2.le t3.le)) (.cons (ry.mono t3.le) rs))
theorem keys_of {K : Frag} {w : Wd} : ∀ {ps : List (V × V)} {ds : List D} {kds : List (D × D)} {ks : List Key}, Reps K w (flatP ps) ds → pairUp ds = some kds → keysOf (kds.map (·.1)) = some ks → ∃ kvs : List (Key × V), ps = kvs.map (fun kv => (kV kv.1, kv.2)) ∧ RepK K w kvs kds ∧ kvs.map (·.1) = ks
  | [], ds, kds, ks, h, h1, h2 => by
    cases h
    cases h1
    cases h2
    exact ⟨[], rfl, .nil, rfl⟩
  | (a, b) :: ps, ds, kds, ks, h, h1, h2 => by
    cases h with
    | cons ra h =>
      cases h with
      | cons rb h =>
        rename_i da db dr
        obtain ⟨kds', e1, e2⟩ := Option.map_eq_some_iff.mp (show (pairUp dr).map ((da, db) :: ·) = some kds from h1)
        subst e2
        have h2 : (match keyOf da, keysOf (kds'.map (·.1)) with
          | some k, some ks => some (k :: ks)
          | _, _ => none) = some ks := h2
        cases hk : keyOf da with
        | none => rw [hk] at h2; cases h2
        | some k =>
          cases hks : keysOf (kds'.map (·.1)) with
          | none => rw [hk, hks] at h2; cases h2
          | some ks' =>
            rw [hk, hks] at h2
            cases h2
            obtain ⟨kvs, e3, e4, e5⟩ := keys_of h e1 hks
            have e6 : a = kV k ∧ da = keyD k := by
              cases da with
              | int i => cases hk; cases ra; exact ⟨rfl, rfl⟩
              | str i => cases hk; cases ra; exact ⟨rfl, rfl⟩
              | _ => cases hk
            refine ⟨(k, b) :: kvs, ?_, ?_, ?_⟩
            · rw [List.map_cons, ← e3, e6.1]
            · rw [e6.2]; exact .cons rb e4
            · rw [List.map_cons, e5]
theorem putK_new {k : Key} {v : V} : ∀ {l : List (Key × V)}, k ∉ l.map (·.1) → putK l k v = l ++ [(k, v)]
  | [], _ => rfl
  | (q, u) :: l, h => by
    unfold putK
    rw [if_neg fun z => ?_]
    obtain ⟨x, h1, h2⟩ := List.any_eq_true.mp z
    exact h (by rw [← of_decide_eq_true h2]; exact List.mem_map.mpr ⟨x, h1, rfl⟩)
theorem merge_new : ∀ (more l : List (Key × V)), ((l ++ more).map (·.1)).Nodup → mergeK l more = l ++ more
  | [], l, _ => (List.append_nil l).symm
  | (k, v) :: more, l, h => by
    show mergeK (putK l k v) more = _
    have e1 : l ++ (k, v) :: more = (l ++ [(k, v)]) ++ more := by simp
    rw [putK_new, merge_new more (l ++ [(k, v)]) (by rw [← e1]; exact h), ← e1]
    rw [List.map_append, List.map_cons] at h
    have := List.nodup_append.mp h
    exact fun z => this.2.2 _ z _ List.mem_cons_self rfl
theorem kv_len : ∀ {K : Frag} {w : Wd} {kvs : List (Key × V)} {kds : List (D × D)}, RepK K w kvs kds → kvs.length = kds.length
  | _, _, _, _, .nil => rfl
  | _, _, _, _, .cons _ r => by rw [List.length_cons, List.length_cons, kv_len r]
theorem ze_dic {keys : List (Option Expr)} {values : List Expr} {f : Ev (List D)} (h : PPz X m pos keys values f) (h0 : keys ≠ []) (h15 : keys.length ≤ 15) :
    PE X (.Dict keys values pos) (tz X.K m fun st => (f st).bind fun ds st => lift ((pairUp ds).bind kvD) st) := by
  obtain ⟨trs, h1, h2, h3, h4⟩ := h
  refine (pe_disp h1 h2 h3 h0 h15).zm fun σ H Q ⟨e, w, st, s, P⟩ p n => ?_
  refine h4 σ _ e w st _ (s.lay n) ?_
  have P : Pz X.K m e σ st w H ((f st).bind fun ds st => lift ((pairUp ds).bind kvD) st) _ := P
  cases hf : f st with
  | stuck => rw [hf] at P; exact P.no.elim
  | exc ex st1 =>
    rw [hf] at P
    exact fun cls d w1 H1 s1 t1 hx => P cls d w1 H1 s1 ((Step.lay s n).trans t1) hx
  | ok ds st1 =>
  rw [hf] at P
  intro w1 H1 s1 t1 ps rs
  have n' := lv_none n
  have hp : lv (upd H p (.dK [])) p = some (.dK []) := lv_some upd_same fun _ z => nomatch z
  have ap := s.apart_of_none n'
  have ap' : Apart σ st p := ap
  have hk := t1.keep p _ hp ap' (s.nha n)
  obtain ⟨a1, a2⟩ := t1.ap p _ hp ap'
  have P : Pz X.K m e σ st w H (lift ((pairUp ds).bind kvD) st1) _ := P
  cases hv : (pairUp ds).bind kvD with
  | none => rw [hv] at P; exact P.no.elim
  | some v =>
  rw [hv] at P
  have P2 : Pz X.K m e σ st w H (.ok v st1) _ := P
  obtain ⟨kds, k1, k2⟩ := Option.bind_eq_some_iff.mp hv
  unfold kvD at k2
  cases hks : keysOf (kds.map (·.1)) with
  | none => rw [hks] at k2; cases k2
  | some ks =>
    rw [hks] at k2
    dsimp only at k2
    split at k2
    · rename_i hc
      cases k2
      obtain ⟨kvs, e1, e2, e3⟩ := keys_of rs k1 hks
      refine ⟨lv_out hk, kvs, e1, by rw [kv_len e2]; exact hc.2, ?_⟩
      have e4 : mergeK [] kvs = kvs := merge_new kvs [] (by rw [List.nil_append, e3]; exact hc.1)
      rw [e4]
      have nf := a2 (s.nf n)
      have nh := t1.nh hp (s.nha n)
      have s2 : Sim X.K e w1 (upd H1 p (.dK kvs)) σ st1 := s1.pend nf (s.nb n') nh a1 fun t => tabs_upd t (lv_out hk) (fun _ z => nomatch z) (fun _ z => nomatch z)
      have nd : ∀ {a u}, lv H a = some u → a ≠ p := fun {a u} q z => by rw [z, n'] at q; cases q
      refine P2 w1 _ s2 ⟨t1.le, fun a u q => ?_, fun a u q ap nh => ?_, fun a u q ap => ?_, fun a q => ?_⟩ _ ⟨p, rfl, ⟨nf, s.nb n', nh, .dK upd_same e2⟩, a1, n'⟩
      · obtain ⟨u', q'⟩ := t1.dom a u (by rw [lv_ne (nd q)]; exact q)
        exact ⟨u', by rw [lv_ne (nd q)]; exact q'⟩
      · rw [lv_ne (nd q)]
        exact t1.keep a u (by rw [lv_ne (nd q)]; exact q) ap nh
      · exact t1.ap a u (by rw [lv_ne (nd q)]; exact q) ap
      · rcases t1.hfr a q with z | z
        · exact .inl z
        · refine .inr ?_
          cases q' : lv H a with
          | none => rfl
          | some u => rw [lv_ne (nd q'), q'] at z; cases z
    · cases k2
/-- {} -/
theorem ze_dic0 : PE X (.Dict [] [] pos) (tz X.K m fun st => .ok (.o (.dct [])) st) := pe_dnewK.zm fun σ H Q ⟨e, w, st, s, P⟩ p n =>
  P.okT (s.lay n) (Step.lay s n) _ (own_new s n (.dK upd_same .nil))
end
end ZZ

/-! ZP: a lambda handed to a def. -/
namespace ZZ
open L2 PyProof.Rows PySem.Spec PySem

section
variable {K : Frag} {ix : Ix} {e : En ix} {w : Wd} {H H1 : Hp} {σ : L2.St} {st : S}
theorem ext_lv (eN : LamX.ExtN H H1) {a : Addr} {o : HO} (h : lv H a = some o) : lv H1 a = some o := lv_some (eN a o (lv_out h) (lv_nt h)) (lv_nt h)
/-- a code object is made: the tables grow -/
theorem Sim.code (s : Sim K e w H σ st) (eN : LamX.ExtN H H1) (T1 : LamX.Tabs ix.T H1) : Sim K e w H1 σ st ∧ Step σ st w H w H1 st := by
  have own : ∀ (i : Nat) (d : D) (p : Addr), st.sl[i]? = some (.ow d) → σ[i]? = some (some (.ref p)) → H1 p = H p ∧ w.ha ≠ some p := fun i d p h1 h2 => by
    have q := s.sl i
    rw [h1] at q
    obtain ⟨p', e1, o⟩ := q
    rw [h2] at e1; cases e1
    obtain ⟨ob, hb, ho⟩ := o.at_.lv
    exact ⟨(lv_out (ext_lv eN ho)).trans hb.symm, o.nh⟩
  refine ⟨s.move (Wd.le_refl w) (fun a o h => eN a o (s.sub a o h) (s.nt a o h)) s.nt ⟨fun a o h h1 => ext_lv eN (s.fr.keep a o h h1), fun a o h => ?_, s.fr.hb, fun _ => T1⟩ (fun a o h => .inl ⟨o, h⟩) own (s.hand.mono (Wd.le_refl w) rfl fun a ea => ?_),
    Wd.le_refl w, fun a o h => ⟨o, ext_lv eN h⟩, fun a o h _ _ => ext_lv eN h, fun a o h ap => ⟨ap, id⟩, fun a h => .inl h⟩
  · obtain ⟨o', h'⟩ := s.fr.dom a o h
    exact ⟨o', ext_lv eN h'⟩
  · obtain ⟨h1, o, h2, h3⟩ := s.hand_some ea
    exact ⟨h1, (eN a o h2 h3).trans h2.symm⟩
/-- names are frozen -/
theorem Sim.thaws (s : Sim K e w H σ st) : ∀ l : List Nat, ∃ w', Sim K e w' H σ (thawS st l) ∧ Step σ st w H w' H (thawS st l)
  | [] => ⟨w, s, Step.refl ..⟩
  | i :: l => by
    obtain ⟨w1, s1, t1⟩ := s.thaws l
    show ∃ w', Sim K e w' H σ (thaw1 (thawS st l) i) ∧ Step σ st w H w' H (thaw1 (thawS st l) i)
    generalize thawS st l = st1 at s1 t1
    cases h : st1.sl[i]? with
    | none => exact ⟨w1, by unfold thaw1; rw [h]; exact s1, by unfold thaw1; rw [h]; exact t1⟩
    | some sl =>
      cases sl with
      | ow d =>
        obtain ⟨w2, x, _, s2, t2, _⟩ := s1.thaw h
        exact ⟨w2, by unfold thaw1; rw [h]; exact s2, by unfold thaw1; rw [h]; exact t1.trans t2⟩
      | un => exact ⟨w1, by unfold thaw1; rw [h]; exact s1, by unfold thaw1; rw [h]; exact t1⟩
      | fz d => exact ⟨w1, by unfold thaw1; rw [h]; exact s1, by unfold thaw1; rw [h]; exact t1⟩
      | sp t => exact ⟨w1, by unfold thaw1; rw [h]; exact s1, by unfold thaw1; rw [h]; exact t1⟩
/-- what a lambda's body sees, later on -/
theorem Sim.mask (s : Sim K e w H σ st) {w' : Wd} {HZ : Hp} {hd : Option (List D)} {ix' : Ix} (le : w.le w') (sub : Same w'.F HZ) (nt : ∀ a o, w'.F a = some o → NT o) (ha : HandAt K w' HZ hd) (t : LamX.Tabs ix'.T HZ) : Sim K (⟨HZ, w'.F, t⟩ : En ix') w' HZ σ ⟨maskS st, hd⟩ := by
  have get : ∀ j : Nat, (maskS st)[j]? = st.sl[j]?.map Slot.keepF := fun j => List.getElem?_map
  have noow : ∀ (j : Nat) (d : D), (maskS st)[j]? ≠ some (.ow d) := fun j d h => by
    rw [get] at h
    obtain ⟨x, _, hx⟩ := Option.map_eq_some_iff.mp h
    exact keepF_ow hx
  refine ⟨by show _ = (st.sl.map Slot.keepF).length; rw [List.length_map]; exact s.len, fun j => ?_, fun i j p d d' h1 => absurd h1 (noow i d), sub, nt, Fr.refl ha.fr, fun a o h => .inl ⟨o, h⟩, ha⟩
  show SlotOk K (⟨HZ, w'.F, t⟩ : En ix') w' HZ σ[j]? (maskS st)[j]?
  rw [get]
  have q := s.sl j
  cases hs : st.sl[j]? with
  | none => trivial
  | some sl =>
    rw [hs] at q
    cases sl with
    | fz d =>
      obtain ⟨x, e1, r⟩ := q
      exact ⟨x, e1, r.mono le⟩
    | un => trivial
    | ow d => trivial
    | sp t => trivial
end
section
variable {s : Shared} {H : Hp} {σ : L2.St} {pins : List (Addr × Obj)} {X : Cx}
/-- the callable is called; what it lets out is told at the slots of the caller's frame -/
theorem act_run {CXg : CXT} {Eg : XK} {Ng : List Str} {qg : Str} {sg : Scope} {g f c' : Addr} {cdg pm ctv : Value} {params : Arguments} {body : Expr} {scope : Scope} {k i : Nat} {a : Str} {pn : List (Addr × Obj)} {xe : Value → Shared → Prop} {W : WX} {tb : XK → TE} {p1 p2 : Pos}
    (I : Inv X pins σ H s) (L : LamX.LamS X.env.scope scope)
    (hf : s.heap.get? f = some (PySem.W.kla_obj "<lambda>" (X.env.qual ++ "<lambda>") params body scope (cloFrom X.env.cells scope.names []) pm c' ctv)) (hfn : H f = none) (hfr : f ∉ frs X.stack)
    (hbi : bindArgs (PySem.W.kla_fn "<lambda>" (X.env.qual ++ "<lambda>") params body scope (cloFrom X.env.cells scope.names []) pm (.ref c') ctv) ⟨[], []⟩ = pure [])
    (tk : Takes ((cxOf CXg X.prog X.w X.K X.mg X.base Ng qg sg g cdg X.A X.stack s H Eg).tr pn xe) W) (hr : Room (k + 1) (X.A.deeper (envOfC qg sg s.heap.objs.size g cdg)))
    (hbo : ∀ (E : XK) (A : Around) (outer : List Env) (s : Shared) (H : Hp), Room k (A.deeper (LamX.lamEnv X scope s.heap.objs.size f c')) → PE (LamX.lamCx X A outer s H E scope f c') body (tb E))
    (hN : Ng[i]? = some a) (hv : Vis sg a) (hd : (a == ("__debug__" : Str)) = false) (hcd : (a == ("__classdict__" : Str)) = false) :
    PE ((cxOf CXg X.prog X.w X.K X.mg X.base Ng qg sg g cdg X.A X.stack s H Eg).tr pn xe)
      (.Call (.Name a p1) [] [] p2)
      (fun σ0 H0 Q => σ0[i]? = some (some (.ref f)) ∧ H0 c' = some (LamX.CodeO c' (X.env.qual ++ "<lambda>")) ∧ tb (WE W σ0) σ H0 Q) := by
  refine ⟨fun pins0 s0 σ0 H0 Q I0 h => ?_⟩
  obtain ⟨q1, q2, q3⟩ := h
  refine wpAny_Call_Name_kw (thn ((pe_var (pos := p1) (i := i) hN hv hd hcd).run pins0 s0 σ0 H0 (fun v H1 => v = .ref f ∧ H1 = H0) I0 ⟨.ref f, q1, rfl, rfl⟩) fun u s1 ⟨v, H1, I1, r1, e1, e2⟩ => ?_)
  subst e1
  rw [e2] at I1
  (obtain rfl : u = Value.ref f := r1)
  have un : Un (frs X.stack) [] H H0 s.heap s1.heap := I1.base
  have of1 : s1.heap.get? f = some (PySem.W.kla_obj "<lambda>" (X.env.qual ++ "<lambda>") params body scope (cloFrom X.env.cells scope.names []) pm c' ctv) := un.keep f _ hf hfn hfr (fun z => nomatch (show f ∈ ([] : List Addr) from z))
  (refine PySem.W.callWith_F0 ⟨_, _, _, _, of1⟩ ?_)
  obtain ⟨⟨oc, vs, t, c1, c2, c3⟩, _, _⟩ := I1.hok c' _ q2
  have rc : codeAny (model X.prog X.w) (X.A.deeper (envOfC qg sg s.heap.objs.size g cdg)) (.call (.ref f) ⟨[], []⟩) (CR (L2.CX X.prog X.w) (envOfC qg sg s.heap.objs.size g cdg :: X.stack) X.prog X.w H0 s1 Q (WE W σ0)) s1 := by
    refine PySem.W.kla_callFunE hr.depth of1 rfl L.co L.gen rfl ⟨c', oc, vs, t, rfl, c1, c2, c3⟩ ?_
    rw [hbi]
    (refine wpAny_pure (wpAny_newFunctionEnv (fun y hy => (L.own y hy).2) (fun y hy => absurd hy (by simp)) (fun h₁ hns hsb => ⟨I1.nolimit.fresh _ hsb, ?_⟩) L.kind))
    show codeAny _ _ (.expr body (LamX.lamEnv X scope s1.heap.objs.size f c')) _ _
    have J : Inv (LamX.lamCx X (X.A.deeper (envOfC qg sg s.heap.objs.size g cdg)) (envOfC qg sg s.heap.objs.size g cdg :: X.stack) s1 H0 (WE W σ0) scope f c') [] σ H0 { s1 with heap := h₁, toks := s1.toks + ([] : List (Str × Value)).length } :=
      LamX.lam_start2 I L I1.env0 hr.hd un hns fun b o e => hsb.extBut b o (Nat.ne_of_lt (Heap.lt_size e)) (Heap.get?_push_of_some _ e)
    refine PySem.W.kla_codeExpr (wpAny_mono ((hbo (WE W σ0) _ _ s1 H0 (hr.deeper _)).run [] _ _ H0 Q J q3) (fun v s' hq => ?_) fun _ _ hq => hq)
    obtain ⟨x, H', J', rv, q⟩ := hq
    exact ⟨x, H', J'.os, J'.bare, J'.base, J'.hok, rv, q⟩
  (refine wpAny_call (codeAny_mono rc fun r s' hq => ?_))
  cases r with
  | ok fl => cases fl with
    | ret u => exact I1.after hq
    | _ => exact False.elim hq
  | error er => exact passAt tk σ0 pins0 H0 s1 er s' I1 hq
end
/-- a def that calls what it is handed -/
structure LamZ (T : List (Addr × Str)) (P : Program) (w : World) (K : Frag) (mg : Str → Option Value) (base : Heap) (k : Nat) (x : Str) (runL : (Option (List D) → Out) → Option (List D) → Out) : Prop where
  ex : ∃ (g : Addr) (fd : FuncData) (a : Str) (sg : Scope) (Ng : List Str) (pg : Arguments) (bg : List Stmt) (d : Df) (Gt : (Option (List D) → Out) → Gm),
    mg x = some (.ref g) ∧ FunD K x x pg bg sg [] [] g fd ∧ Binds K fd [a] [] ∧ FnScope Ng [a] sg ∧ Ng[0]? = some a ∧ Vis sg a ∧ (a == ("__debug__" : Str)) = false ∧ (a == ("__classdict__" : Str)) = false ∧
    d.n = Ng.length ∧ (∀ th hd, runL th hd = callL (Gt th) d hd) ∧ (∀ th, (Gt th).act = th) ∧
    ∀ (cdv : Value) (A : Around) (outer : List Env) (s : Shared) (H : Hp) (th : Option (List D) → Out) (c : CbI), Room k (A.deeper (envOfC x sg s.heap.objs.size g cdv)) →
      (∀ (W : WX) (pn : List (Addr × Obj)) (xe : Value → Shared → Prop) (p1 p2 : Pos), Takes ((cxOf C8.CX0 P w K mg base Ng x sg g cdv A outer s H C8.E0).tr pn xe) W →
        PE ((cxOf C8.CX0 P w K mg base Ng x sg g cdv A outer s H C8.E0).tr pn xe) (.Call (.Name a p1) [] [] p2) (tz K ⟨xtZ mg, W, ⟨none, some c, T⟩⟩ (evE (Gt th) (.act 0)))) →
      PSs (cxOf C8.CX0 P w K mg base Ng x sg g cdv A outer s H C8.E0).nox bg (tzS K ⟨xtZ mg, fun _ _ _ _ => False, ⟨none, some c, T⟩⟩ (evSs (Gt th) d.body))
theorem start_cb {K : Frag} {T : List (Addr × Str)} {w : Wd} {H : Hp} {N : List Str} {hd : Option (List D)} {c : CbI} (sub : Same w.F H) (nt : ∀ a o, w.F a = some o → NT o) (ha : HandAt K w H hd) (hn : 1 ≤ N.length) (t : LamX.Tabs T H) (hc : H c.c = some (LamX.CodeO c.c c.q)) (hw : c.w0.le w) :
    Sim K (⟨H, w.F, t⟩ : En ⟨none, some c, T⟩) w H (start N [.ref c.f]) ⟨.sp none :: List.replicate (N.length - 1) .un, hd⟩ := by
  have noow : ∀ (i : Nat) (d : D), (Slot.sp none :: List.replicate (N.length - 1) Slot.un)[i]? ≠ some (.ow d) := fun i d h => by
    rcases List.mem_cons.mp (List.mem_of_getElem? h) with q | q
    · cases q
    · have := List.eq_of_mem_replicate q
      cases this
  refine ⟨?_, fun i => ?_, fun i j p d d' h1 => absurd h1 (noow i d), sub, nt, Fr.refl ha.fr, fun a o h => .inl ⟨o, h⟩, ha⟩
  · unfold L2.start
    (rw [List.length_append, List.length_map, List.length_replicate])
    simp
    omega
  · cases i with
    | zero => exact ⟨c, rfl, rfl, hc, hw⟩
    | succ i =>
      show SlotOk K _ w H _ (List.replicate (N.length - 1) Slot.un)[i]?
      cases h1 : (List.replicate (N.length - 1) Slot.un)[i]? with
      | none => trivial
      | some sl =>
        rw [List.eq_of_mem_replicate (List.mem_of_getElem? h1)]
        trivial
end ZZ

/-! ZQ: f(lambda: body). -/
namespace ZZ
open L2 PyProof.Rows PySem.Spec PySem

/-- what the body of a lambda may let out -/
abbrev lamPm (mg : Str → Option Value) (T : List (Addr × Str)) (E : XK) : Pm := ⟨xtZ mg, fun cls d _ H => E cls d H, ⟨none, none, T⟩⟩
theorem ev_act {G : Gm} {th : Option (List D) → Out} (h : G.act = th) : evE G (.act 0) = fun (st : S) => match st.sl[0]? with
  | some (Slot.sp none) => (th st.hd).res st
  | _ => .stuck := by
  subst h
  funext st
  unfold evE
  rfl
section
variable {X : Cx} {m : Pm}
/-- the callable's rule, told to the def that got it -/
theorem act_z {z : Z} {G : Gm} {X0 : Cx} {T : List (Addr × Str)} {σ : L2.St} {H : Hp} {w0 : Wd} {st0 : S} {f c' : Addr} {q : Str} {a : Str} {p1 p2 : Pos} {W : WX} {mg : Str → Option Value} {ix0 : Ix} {e0 : En ix0}
    (h : PE X0 (.Call (.Name a p1) [] [] p2) (fun σ0 H0 Q => σ0[0]? = some (some (.ref f)) ∧ H0 c' = some (LamX.CodeO c' q) ∧ tz X0.K (lamPm mg T (WE W σ0)) (evE G z) σ H0 Q)) (s0 : Sim X0.K e0 w0 H σ st0) :
    PE X0 (.Call (.Name a p1) [] [] p2) (tz X0.K ⟨xtZ mg, W, ⟨none, some ⟨f, c', q, w0⟩, T⟩⟩ fun (st : S) => match st.sl[0]? with
      | some (Slot.sp none) => ((evE G z ⟨maskS st0, st.hd⟩).out).res st
      | _ => .stuck) := h.zm fun σ0 H0 Q ⟨e, w, st, s, P⟩ => by
  have P : Pz X0.K ⟨xtZ mg, W, ⟨none, some ⟨f, c', q, w0⟩, T⟩⟩ e σ0 st w H0 (match st.sl[0]? with
      | some (Slot.sp none) => ((evE G z ⟨maskS st0, st.hd⟩).out).res st
      | _ => .stuck) _ := P
  have y := s.sl 0
  cases hs : st.sl[0]? with
  | none => rw [hs] at P; exact P.no.elim
  | some sl =>
    rw [hs] at P y
    cases sl with
    | un => exact P.no.elim
    | fz d => exact P.no.elim
    | ow d => exact P.no.elim
    | sp t =>
      cases t with
      | some c => exact P.no.elim
      | none =>
        obtain ⟨c, e1, e2, e3, e4⟩ := y
        cases e1
        have hc : H0 c' = some (LamX.CodeO c' q) := by
          have h1 : lv e.B c' = some (LamX.CodeO c' q) := lv_some e3 fun ps z => LamX.codeO_ne ps z
          refine lv_out (s.fr.keep c' _ h1 fun z => ?_)
          obtain ⟨vs, z2⟩ := s.fr.hb c' _ h1 z
          unfold LamX.CodeO at z2
          cases z2
        have tb : LamX.Tabs T H0 := s.fr.tab e.tab
        refine ⟨e2, hc, ⟨H0, w.F, tb⟩, w, _, s0.mask e4 s.sub s.nt s.hand tb, ?_⟩
        dsimp only at P
        cases hr : evE G z ⟨maskS st0, st.hd⟩ with
        | stuck => rw [hr] at P; exact P.no.elim
        | ok v st1 =>
          rw [hr] at P
          intro w1 H1 s1 t1 x r
          have ce : CEnd T X0.K w H0 w1 H1 st1.hd := CEnd.of s1 (t1.s (s0.mask e4 s.sub s.nt s.hand tb))
          obtain ⟨s2, t2⟩ := s.call (ix := ⟨none, some ⟨f, c', q, w0⟩, T⟩) ce
          refine P w1 H1 s2 t2 x (RvC.ok s ?_)
          cases v with
          | f d => exact r
          | o d =>
            obtain ⟨p, e5, o, ap, n⟩ := r
            exact ⟨p, e5, o.nf, n, o.nh, o.at_⟩
        | exc ex st1 =>
          rw [hr] at P
          intro cls d w1 H1 s1 t1 hx
          have ce : CEnd T X0.K w H0 w1 H1 st1.hd := CEnd.of s1 (t1.s (s0.mask e4 s.sub s.nt s.hand tb))
          obtain ⟨s2, t2⟩ := s.call (ix := ⟨none, some ⟨f, c', q, w0⟩, T⟩) ce
          exact P cls d w1 H1 s2 t2 hx
theorem ze_lam {x : Str} {c P : Addr} {k j i : Nat} {cap : List Nat} {z : Z} {G : Gm} {params : Arguments} {body : Expr} {scope : Scope} {p lpos pos : Pos}
    (C : LamZ m.ix.T X.prog X.w X.K X.mg X.base (k + 1) x (G.lam i)) (hg : Gl X x) (hdb : (x == ("__debug__" : Str)) = false)
    (TB : LamX.TabB X.base X.mg c P) (hcode : X.env.code = .ref c) (hmT : (P, X.env.qual ++ "<lambda>") ∈ m.ix.T) (hu : ∀ p ∈ m.ix.T, p.1 = P → p.2 = X.env.qual ++ "<lambda>") (hr : Room j X.A) (hk : k + 2 ≤ j) (L : LamX.LamS X.env.scope scope) (hdef : defaultsOf params X.env = ([], []))
    (hbind : ∀ (q : Str)
    (cl : List (Str × Addr)) (pm cv ctv : Value), bindArgs (PySem.W.kla_fn "<lambda>" q params body scope cl pm cv ctv) ⟨[], []⟩ = pure [])
    (hbody : ∀ (E : XK) (A : Around) (outer : List Env) (s : Shared) (H : Hp) (f c' : Addr), Room k (A.deeper (LamX.lamEnv X scope s.heap.objs.size f c')) → PE (LamX.lamCx X A outer s H E scope f c') body (tz X.K (lamPm X.mg m.ix.T E) (evE G z))) :
    PE X (.Call (.Name x p) [.Lambda params body scope lpos] [] pos) (tz X.K m (evE G (.lam i cap z))) := by
  obtain ⟨g, fd, a, sg, Ng, pg, bg, d, Gt, hm, FD, hb, Sg, hNg, hva, hd, hcd, hdn, hL, hact, hbg⟩ := C.ex
  have kp := FD.kp
  obtain ⟨oc, od, dV, kV, doc, pm, an, cdv, ct, osl, rfl, lk, hcg, _, _⟩ := FD.ex
  (refine ⟨fun pins s σ H Q I h => ?_⟩)
  obtain ⟨e, w, st, sm, PP⟩ := h
  obtain ⟨w0, s0, t0⟩ := sm.thaws cap
  have hT : LamX.Tabs m.ix.T H := s0.fr.tab e.tab
  (refine wpAny_Call_Name_kw (ld_glob I hg hm ?_ hdb))
  refine PySem.W.callWith_K (h₀ := X.base) I.ok.mod.kin kp ?_ (by rfl) (by rfl)
  (show wpAny _ _ (spliced ((false, eval (.Lambda params body scope lpos) X.env) :: backTo pos (starEach [] X.env))) _ _ s)
  refine Calls.spliced_cons (LamX.lam_make2 I TB hcode hmT hu hT hdef (L.has I.ok) fun f c' pm' ctv H1 s' I1 eN T1 hf hfn hfr hco => ?_)
  (refine Calls.spliced_nil ⟨I1.kIn, ?_⟩)
  obtain ⟨s1, t1⟩ := s0.code eN T1
  have rc : codeAny (model X.prog X.w) X.A (.call (.ref g) ⟨[.ref f], []⟩)
      (CR C8.CX0 X.stack X.prog X.w H1 s' Q C8.E0) s' := by
    refine LamX.run_ofS (N := Ng) (ps := [a]) (us := [.ref f]) (vs := [.ref f]) lk hcg Sg (hr.mono hk) I1.env0 (hb s' [.ref f] I1.kIn rfl) (.cons rfl .nil) rfl fun hr' => ?_
    have hq := hbg cdv X.A X.stack s' H1 (fun hd => (evE G z ⟨maskS (thawS st cap), hd⟩).out) ⟨f, c', X.env.qual ++ "<lambda>", w0⟩ hr' fun W pn xe p1 p2 tk => ?_
    · refine ⟨_, hq.nox, ⟨H1, w0.F, T1⟩, w0, _, start_cb (c := ⟨f, c', X.env.qual ++ "<lambda>", w0⟩) s1.sub s1.nt s1.hand (by cases Ng with | nil => cases hNg | cons y l => exact Nat.succ_le_succ (Nat.zero_le _)) T1 hco (Wd.le_refl w0), ?_⟩
      have hhd : (thawS st cap).hd = st.hd := by
        have key : ∀ l : List Nat, (thawS st l).hd = st.hd := fun l => by
          induction l with
          | nil => rfl
          | cons i l ih =>
            show (thaw1 (thawS st l) i).hd = _
            unfold thaw1
            split
            · exact ih
            · exact ih
        exact key cap
      have PP : Pz X.K m e σ st w H (match G.lam i (fun hd => (evE G z ⟨maskS (thawS st cap), hd⟩).out) st.hd with
        | .ok v hd => .ok v ⟨(thawS st cap).sl, hd⟩
        | _ => .stuck) (fun v st' w' H' => ∀ x, RvOk X.K e w' H' σ st' H x v → Q x H') := by have q := PP; unfold evE at q; exact q
      rw [hL] at PP
      unfold callL at PP
      by_cases hps : d.ps = 1
      · rw [if_pos hps] at PP
        rw [hdn] at PP
        rw [hhd]
        have up : ∀ {σ' w' H' st'}, Sim X.K (⟨H1, w0.F, T1⟩ : En ⟨none, some ⟨f, c', X.env.qual ++ "<lambda>", w0⟩, m.ix.T⟩) w' H' σ' st' → SStep (⟨H1, w0.F, T1⟩ : En ⟨none, some ⟨f, c', X.env.qual ++ "<lambda>", w0⟩, m.ix.T⟩) w0 w' →
            Sim X.K e w' H' σ ⟨(thawS st cap).sl, st'.hd⟩ ∧ Step σ st w H w' H' ⟨(thawS st cap).sl, st'.hd⟩ := fun {σ' w' H' st'} q1 q2 => by
          obtain ⟨a1, a2⟩ := s1.call (CEnd.of (ix := ⟨none, some ⟨f, c', X.env.qual ++ "<lambda>", w0⟩, m.ix.T⟩) q1 q2)
          exact ⟨a1, t0.trans (t1.trans a2)⟩
        cases hev : evSs (Gt fun hd => (evE G z ⟨maskS (thawS st cap), hd⟩).out) d.body ⟨.sp none :: List.replicate (Ng.length - 1) .un, st.hd⟩ with
        | nx st2 =>
          rw [hev] at PP
          intro σ' w' H' q1 q2
          obtain ⟨a1, a2⟩ := up q1 q2
          exact PP w' H' a1 a2 .non .non
        | ret v st2 =>
          rw [hev] at PP
          intro x σ' w' H' q1 q2 r
          obtain ⟨a1, a2⟩ := up q1 q2
          refine PP w' H' a1 a2 x ((RvC.ok (hd' := st2.hd) s1 r.c).since ?_)
          exact (t0.trans t1).dom
        | exc ex st2 => rw [hev] at PP; exact PP.no.elim
        | brk st2 => rw [hev] at PP; exact PP.no.elim
        | cnt st2 => rw [hev] at PP; exact PP.no.elim
        | stuck => rw [hev] at PP; exact PP.no.elim
      · rw [if_neg hps] at PP; exact PP.no.elim
    · have h1 := act_run (i := 0) (tb := fun E => tz X.K (lamPm X.mg m.ix.T E) (evE G z)) (p1 := p1) (p2 := p2) I1 L hf hfn hfr (hbind _ _ _ _ _) tk hr' (fun E A outer s H hr2 => hbody E A outer s H f c' hr2) hNg hva hd hcd
      have h2 := act_z (mg := X.mg) (T := m.ix.T) h1 s1
      refine h2.zm fun σ0 H0 Q0 hh => ?_
      rw [ev_act (hact _)] at hh
      exact hh
  (refine wpAny_call (codeAny_mono rc fun r s2 hq => ?_))
  cases r with
  | ok fl => cases fl with
    | ret u => exact I1.after hq
    | _ => exact False.elim hq
  | error er => exact (show False from hq).elim
end
end ZZ

/-! ZQD: f(lambda x=0: body). -/
namespace ZZ
open L2 PyProof.Rows PySem.Spec PySem
/-- one parameter with a default, no other name of its own -/
structure LamD (sc scope : Scope) (y : Str) : Prop where
  kind : scope.kind = .function
  co : scope.isCoroutine
      = false
  gen : scope.isGenerator
      = false
  nocell : ∀ z ∈ scope.names, z.2 ≠ .cell
  own : ∀ z ∈ scope.names, z.2 = .local → z.1 = y
  par : scope.names.lookup y = some .local
  free : ∀ z ∈ scope.names, z.2 = .free → sc.names.lookup z.1 = some .cell ∨ sc.names.lookup z.1 = some .free
def lamDB (sc scope : Scope) (y : Str) : Bool :=
  decide (scope.kind = .function) && (!scope.isCoroutine && (!scope.isGenerator && (decide (scope.names.lookup y = some .local) && scope.names.all fun z => !decide (z.2 = .cell) && ((!decide (z.2 = .local) || decide (z.1 = y)) &&
    (!decide (z.2 = .free) || decide (sc.names.lookup z.1 = some .cell) || decide (sc.names.lookup z.1 = some .free))))))
theorem lamD_by {sc scope : Scope} {y : Str} (h : lamDB sc scope y = true) : LamD sc scope y := by
  unfold lamDB at h
  (simp only [Bool.and_eq_true, Bool.or_eq_true, Bool.not_eq_true', decide_eq_true_eq, decide_eq_false_iff_not, List.all_eq_true] at h)
  obtain ⟨h1, h2, h3, h4, h5⟩ := h
  refine ⟨h1, h2, h3, fun z hz => (h5 z hz).1, fun z hz e => ?_, h4, fun z hz e => ?_⟩
  · rcases (h5 z hz).2.1 with q | q
    · exact absurd e q
    · exact q
  · rcases (h5 z hz).2.2 with (q | q) | q
    · exact absurd e q
    · exact .inl q
    · exact .inr q
theorem LamD.has {X : Cx} {scope : Scope} {y : Str} (L : LamD X.env.scope scope y) (ok : X.Ok) : ∀ y ∈ scope.names, y.2 = .free → ∃ c, X.env.cells.lookup y.1 = some c := fun y hy e => by
  (rcases L.free y hy e with k | k)
  · exact ok.has _ (.inl k)
  · exact ok.has _ (.inr k)
def LamBinds (params : Arguments) (body : Expr) (scope : Scope) (y : Str) : Prop := ∀ (q : Str) (cl : List (Str × Addr)) (dV doc pm cv ctv u : Value), ∃ k, bindArgs (PySem.W.kdv_fn "<lambda>" q params (.expr body) scope cl dV doc pm cv ctv) ⟨[], []⟩ = seqItems? dV >>= k ∧ k (some #[u]) = pure [(y, u)]
section
variable {X : Cx} {pins : List (Addr ×
    Obj)} {σ : L2.St} {H HZ : Hp} {s s1 : Shared}
theorem lam_makeD {T : List (Addr × Str)} {d0 : Int} {dk : Nat} {dp : Pos} {c P : Addr} {params : Arguments} {body : Expr} {scope : Scope} {pos : Pos} {E : Value → Shared → Prop} {Q : Value → Shared → Prop} (I : Inv X pins σ H s) (TB : LamX.TabB X.base X.mg c P) (hcode : X.env.code = .ref c)
    (hm : (P, X.env.qual ++ "<lambda>") ∈ T) (hu : ∀ p ∈ T, p.1 = P → p.2 = X.env.qual ++ "<lambda>") (hT : LamX.Tabs T H) (hpd : params.defaults = [.Constant (.int d0) dk dp]) (hk0 : params.kw_defaults = []) (hfree : ∀ y ∈ scope.names, y.2 = .free → ∃ c, X.env.cells.lookup y.1 = some c)
    (h : ∀ (f c' T0 : Addr) (u pm ctv doc : Value) (H1 : Hp) (s' : Shared), Inv X pins σ H1 s' → LamX.ExtN H H1 → LamX.Tabs T H1 →
      s'.heap.get? f = some (PySem.W.kdv_obj "<lambda>" (X.env.qual ++ "<lambda>") params (.expr body) scope (cloFrom X.env.cells scope.names []) (.ref T0) doc pm c' ctv) → H1 f = none → f ∉ frs X.stack →
      s'.heap.get? T0 = some (PySem.W.kdv_tup [u]) → H1 T0 = none → T0 ∉ frs X.stack → H1 c' = some (LamX.CodeO c' (X.env.qual ++ "<lambda>")) → Q (.ref f) s') :
    wpAny (model X.prog X.w) X.A (eval (.Lambda
        params body scope pos) X.env) Q E s := by
  refine PySem.W.kdv_lam (by rw [hpd]; rfl) hk0 ?_
  rw [hpd]
  refine PySem.W.kdv_all1 (thn ((pe_int (i := d0) (j := dk) (pos := dp)).run pins s σ H (fun v H1 => H1 = H) I rfl) fun u s0 ⟨v, H0, I0, r0, e0⟩ => PySem.W.kdv_all0 ?_)
  subst e0
  rw [makeFunction_eq]
  simp only [List.zip_nil_right, List.filterMap_nil, List.isEmpty_nil, List.isEmpty_cons, if_true, pure_bind, Bool.false_eq_true, if_false]
  (refine wpAny_bind (wpAny_newTextTuple ?_))
  have nofr : ∀ f, s0.heap.objs.size ≤ f → f ∉ frs X.stack := fun f hf z => by
    rcases List.mem_cons.mp (I0.stkSub _ z) with e | e
    · have h1 := I0.lt
      rw [← e] at h1
      (exact Nat.lt_irrefl _ (Nat.lt_of_lt_of_le h1 hf))
    · exact I0.nofs hf e
  have g0 : (s0.heap.push (PySem.W.kdv_tup [u])).get? s0.heap.objs.size = some (PySem.W.kdv_tup [u]) := Heap.get?_push_size _ rfl
  have n0 : H0 s0.heap.objs.size = none := I0.hok.fresh (Nat.le_refl _)
  have r0 := nofr _ (Nat.le_refl s0.heap.objs.size)
  have I2 : Inv X pins σ H0 { s0 with heap := s0.heap.push (PySem.W.kdv_tup [u]) } := I0.kept fun b o e => Heap.get?_push_of_some _ e
  have lt0 : s0.heap.objs.size < (s0.heap.push (PySem.W.kdv_tup [u])).objs.size := Heap.lt_size g0
  have hkeep : ∀ f, (s0.heap.push (PySem.W.kdv_tup [u])).objs.size ≤ f → f ∉ frs X.stack := fun f hf => nofr f (Nat.le_trans (Nat.le_of_lt lt0) hf)
  revert I2 g0 lt0 hkeep
  generalize s0.heap.push (PySem.W.kdv_tup [u]) = h0
  intro g0 I2 lt0 nofr'
  (obtain ⟨ps, hP, ht, ha⟩ := hT _ hm)
  have bP := TB.bm.keeps I2.bk
  have hP' : h0.get? P = some { cls := .none, data := .fields ps } := I2.hok P _ hP
  have neP : P ≠ s0.heap.objs.size := ne_of_none hP n0
  cases hc : codeAmong
      pos ps.toList with
  | none =>
    refine PySem.W.kdv_makeTail (mg := X.mg) (c := c) (P := P) (ps := ps) (closure_ok hfree) I2.ok.glob (I2.mod.glob.keeps I2.bk) hcode (TB.code.keeps I2.bk) hP' ht hc TB.gP bP fun c' ctv doc h' tk hx hge hlt hrec htb => ?_
    (obtain ⟨c2, oc, vs, t, e2, hoc, hd, hv⟩ := hrec)
    cases e2
    have hge : h0.objs.size ≤ c' := hge
    have hsz : h0.objs.size ≤ h'.objs.size := Nat.le_trans hge (Nat.le_of_lt hlt)
    have nC : H0 c' = none := I2.hok.fresh hge
    have I1 := LamX.inv_table (t' := tk) (more := #[rawInt pos.line, rawInt pos.col, .ref c']) (h' := h'.push (PySem.W.kdv_obj "<lambda>" (X.env.qual ++ "<lambda>") params (.expr body) scope (cloFrom X.env.cells scope.names []) (.ref s0.heap.objs.size) doc ((X.mg "__name__").getD .none) c' ctv)) I2 hP
      (fun b o hb e => Heap.get?_push_of_some _ (hx b o hb e))
      (Heap.get?_push_of_some _ htb) hge ⟨oc, vs, t, Heap.get?_push_of_some _ hoc, hd, hv⟩
    have hE : LamX.ExtN H0 (upd (upd H0 P (.tbl (ps ++ #[rawInt pos.line, rawInt pos.col, .ref c']))) c' (LamX.CodeO c' (X.env.qual ++ "<lambda>"))) := fun b o e n => by
      (rw [upd_ne (ne_of_none e nC), upd_ne (fun z => n ps (Option.some.inj (e.symm.trans (by rw [z]; exact hP))))])
      exact e
    (have eL : (ps ++ #[rawInt pos.line, rawInt pos.col, .ref c']).toList = ps.toList ++ [rawInt pos.line, rawInt pos.col, .ref c'] := by simp)
    have far : ∀ b, H0 b = none → b ≠ P → b ≠ c' → upd (upd H0 P (.tbl (ps ++ #[rawInt pos.line, rawInt pos.col, .ref c']))) c' (LamX.CodeO c' (X.env.qual ++ "<lambda>")) b = none := fun b n z1 z2 => by
      rw [upd_ne z2, upd_ne z1]; exact n
    refine h h'.objs.size c' s0.heap.objs.size u ((X.mg "__name__").getD .none) ctv doc _ _ I1 hE (fun p hp => ?_) (Heap.get?_push_size _ rfl) (far _ (I2.hok.fresh hsz) (Nat.ne_of_gt (Nat.lt_of_lt_of_le (Heap.lt_size hP') hsz)) (Nat.ne_of_gt hlt)) (nofr' _ hsz)
      (Heap.get?_push_of_some _ (hx _ _ (Ne.symm neP) g0)) (far _ n0 (Ne.symm neP) (Nat.ne_of_lt (Nat.lt_of_lt_of_le lt0 hge))) r0 upd_same
    by_cases hb : p.1 = P
    · rw [hu p hp hb, hb]
      (refine ⟨_, by rw [upd_ne (ne_of_none hP nC), upd_same], by rw [eL]; exact PySem.TriplesOk_snoc _ _ _ _ ht, fun p' cv hcv => ?_⟩)
      rw [eL] at hcv
      rcases LamX.among_app _ ht hcv with z | z
      · (obtain ⟨c0, e1, e2⟩ := ha p' cv z)
        exact ⟨c0, e1, hE _ _ e2 LamX.codeO_ne⟩
      · exact ⟨c', z, upd_same⟩
    · (obtain ⟨ps', a1, a2, a3⟩ := hT p hp)
      (refine ⟨ps', by rw [upd_ne (ne_of_none a1 nC), upd_ne hb]; exact a1, a2, fun p' cv hcv => ?_⟩)
      (obtain ⟨c0, e1, e2⟩ := a3 p' cv hcv)
      exact ⟨c0, e1, hE _ _ e2 LamX.codeO_ne⟩
  | some cv =>
    (obtain ⟨c', e, hco⟩ := ha pos cv hc)
    subst e
    refine PySem.W.kdv_makeTailHit (mg := X.mg) (c := c) (P := P) (ps := ps) (closure_ok hfree) I2.ok.glob (I2.mod.glob.keeps I2.bk) hcode (TB.code.keeps I2.bk) hP' ht hc bP fun ctv doc h' tk hx hsz => ?_
    have hsz : h0.objs.size ≤ h'.objs.size := hsz
    have I1 : Inv X pins σ H0 { s0 with heap := h'.push (PySem.W.kdv_obj "<lambda>" (X.env.qual ++ "<lambda>") params (.expr body) scope (cloFrom X.env.cells scope.names []) (.ref s0.heap.objs.size) doc ((X.mg "__name__").getD .none) c' ctv), toks := tk } := I2.kept fun b o e => Heap.get?_push_of_some _ (hx b o e)
    exact h h'.objs.size c' s0.heap.objs.size u ((X.mg "__name__").getD .none) ctv doc H0 _ I1 (LamX.ExtN.refl H0) hT (Heap.get?_push_size _ rfl) (I2.hok.fresh hsz) (nofr' _ hsz) (Heap.get?_push_of_some _ (hx _ _ g0)) n0 r0 hco
theorem lam_startD {A : Around} {outer : List Env} {E : XK} {scope : Scope} {f c' : Addr} {h₁ : Heap} {tk : Nat} (I : Inv X pins σ H s) {y0 : Str} {u0 : Value} (L : LamD X.env.scope scope y0) (hyN : y0 ∉ X.N) (e0 : Env0 X.prog X.w X.K X.mg X.base A outer s1 HZ) (hd : A.handled = none)
    (un : Un (frs X.stack) [] H HZ s.heap s1.heap) (hns : h₁.Ns s1.heap.objs.size fun y => [(y0, u0)].reverse.lookup y) (kp : ∀ b o, s1.heap.get? b = some o → h₁.get? b = some o) :
    Inv (LamX.lamCx X A outer s1 HZ E scope f c') [] σ HZ { s1 with heap := h₁, toks := tk } := by
  have hfree := L.has I.ok
  have cm : ∀ {y c}, (cloFrom X.env.cells scope.names
      []).lookup y = some c → X.env.cells.lookup y = some c := fun {y c} e => by
    (rcases cloFrom_mem (PySem.mem_of_lookup e) with hm | ⟨h1, h2⟩)
    · cases hm
    · (obtain ⟨c1, hc⟩ := hfree _ h1 rfl)
      (have hc : X.env.cells.lookup y = some c1 := hc)
      have e2 : c = c1 := by
        rw [h2, hc] <;> rfl
      rw [e2]
      exact hc
  have look : ∀ {y}, scope.names.lookup y = some .free → ∃ c, (cloFrom
      X.env.cells scope.names []).lookup y = some c := fun {y} hl => by
    (have hy : (y, NameKind.free) ∈ scope.names := PySem.mem_of_lookup hl)
    (exact mem_lookup (cloFrom_has (cells := X.env.cells) (acc := []) hy))
  have cellK : ∀ {c : Addr} {v : Option
      Value}, H c = none → s.heap.IsCell c v → h₁.IsCell c v := fun {c v} n ⟨o, ho, hd⟩ => by
    (obtain ⟨sl, q⟩ := un.any ho n (by simp))
    exact ⟨_, kp _ _ q, hd⟩
  have noA : ∀ b : Addr, b ∉ (LamX.lamCx X A outer s1 HZ E scope f c').ex := fun b z => absurd (show b ∈ ([] : List Addr) from z) (by simp)
  refine ⟨⟨e0.mod, L.kind, rfl, rfl, Nat.le_refl _, fun y z c e1 e2 => I.ok.inj y z c (cm e1) (cm e2), fun y hy => ?_, fun y c z _ =>
      ?_, fun _ => hd, Around.frames_deeper e0.frames, .inr ⟨rfl, rfl⟩, fun b z => absurd z (noA b), e0.bs, e0.bsz, fun b _ _ => noA b,
      fun b z => absurd z (noA
          b), e0.funs, e0.frf⟩,
    rfl, e0.bare, Un.kept kp, ⟨_, hns, fun i y v e1 e2 e3 => ?_⟩, fun y c e => ?_, e0.hok.fresh (Nat.le_refl
        _), fun y c e => ?_, fun q hq => absurd (show q ∈ ([] : List (Addr × Obj)) ++ [] from hq) (by simp), e0.hok.kept kp, I.len⟩
  · (have hy : scope.names.lookup y = some .cell ∨ scope.names.lookup y = some .free := hy)
    rcases hy with hy | hy
    · exact absurd rfl (L.nocell _ (PySem.mem_of_lookup hy))
    · exact look hy
  · have z : false = true := z
    cases z
  · have e3 : Vis scope y := e3
    rcases e3 with k | k | k
    · exact absurd (List.mem_of_getElem? e1) (by rw [show y = y0 from L.own _ (PySem.mem_of_lookup k) rfl]; exact hyN)
    · exact absurd rfl (L.nocell _ (PySem.mem_of_lookup k))
    · obtain ⟨m, hn, hl⟩ := I.loc
      (have hvis : Vis X.env.scope y := (L.free _ (PySem.mem_of_lookup k) rfl).elim (fun k => .inr (.inl k)) (fun k => .inr (.inr k)))
      (obtain ⟨w', r, q⟩ := hl i y v e1 e2 hvis)
      obtain ⟨c2, h2⟩ := look k
      (refine ⟨w', r, .inr ⟨.inr k, c2, h2, ?_⟩⟩)
      have c1 := cm h2
      (rcases q with ⟨k', _⟩ | ⟨_, c3, e', z⟩)
      · (have k' : X.env.scope.names.lookup y = some .local := k')
        (rcases L.free _ (PySem.mem_of_lookup k) rfl with k2 | k2 <;> rw [show X.env.scope.names.lookup y = _ from k2] at k' <;> cases k')
      · rw [c1] at e'
        cases e'
        (exact cellK (I.freeC y _ c1) z)
  · (obtain ⟨w', z⟩ := I.cell y c (cm e))
    (exact ⟨w', cellK (I.freeC y c (cm e)) z⟩)
  · (obtain ⟨v, o, ho, hd⟩ := I.cell y c (cm e))
    (exact un.free c o ho (I.freeC y c (cm e)) (by simp))
/-- the callable is called; what it lets out is told at the slots of the caller's frame -/
theorem act_runD {CXg : CXT} {Eg : XK} {Ng : List Str} {qg : Str} {sg : Scope} {g f c' : Addr} {cdg pm ctv : Value} {params : Arguments} {body : Expr} {scope : Scope} {k i : Nat} {a : Str} {pn : List (Addr × Obj)} {xe : Value → Shared → Prop} {W : WX} {tb : XK → TE} {p1 p2 : Pos}
    (I : Inv X pins σ H s) {y : Str} {T0 : Addr} {u0 doc : Value} (L : LamD X.env.scope scope y) (hyN : y ∉ X.N)
    (hf : s.heap.get? f = some (PySem.W.kdv_obj "<lambda>" (X.env.qual ++ "<lambda>") params (.expr body) scope (cloFrom X.env.cells scope.names []) (.ref T0) doc pm c' ctv)) (hfn : H f = none) (hfr : f ∉ frs X.stack)
    (hf2 : s.heap.get? T0 = some (PySem.W.kdv_tup [u0])) (hfn2 : H T0 = none) (hfr2 : T0 ∉ frs X.stack)
    (hbi : LamBinds params body scope y)
    (tk : Takes ((cxOf CXg X.prog X.w X.K X.mg X.base Ng qg sg g cdg X.A X.stack s H Eg).tr pn xe) W) (hr : Room (k + 1) (X.A.deeper (envOfC qg sg s.heap.objs.size g cdg)))
    (hbo : ∀ (E : XK) (A : Around) (outer : List Env) (s : Shared) (H : Hp), Room k (A.deeper (LamX.lamEnv X scope s.heap.objs.size f c')) → PE (LamX.lamCx X A outer s H E scope f c') body (tb E))
    (hN : Ng[i]? = some a) (hv : Vis sg a) (hd : (a == ("__debug__" : Str)) = false) (hcd : (a == ("__classdict__" : Str)) = false) :
    PE ((cxOf CXg X.prog X.w X.K X.mg X.base Ng qg sg g cdg X.A X.stack s H Eg).tr pn xe)
      (.Call (.Name a p1) [] [] p2)
      (fun σ0 H0 Q => σ0[i]? = some (some (.ref f)) ∧ H0 c' = some (LamX.CodeO c' (X.env.qual ++ "<lambda>")) ∧ tb (WE W σ0) σ H0 Q) := by
  refine ⟨fun pins0 s0 σ0 H0 Q I0 h => ?_⟩
  obtain ⟨q1, q2, q3⟩ := h
  refine wpAny_Call_Name_kw (thn ((pe_var (pos := p1) (i := i) hN hv hd hcd).run pins0 s0 σ0 H0 (fun v H1 => v = .ref f ∧ H1 = H0) I0 ⟨.ref f, q1, rfl, rfl⟩) fun u s1 ⟨v, H1, I1, r1, e1, e2⟩ => ?_)
  subst e1
  rw [e2] at I1
  (obtain rfl : u = Value.ref f := r1)
  have un : Un (frs X.stack) [] H H0 s.heap s1.heap := I1.base
  have of1 : s1.heap.get? f = some (PySem.W.kdv_obj "<lambda>" (X.env.qual ++ "<lambda>") params (.expr body) scope (cloFrom X.env.cells scope.names []) (.ref T0) doc pm c' ctv) := un.keep f _ hf hfn hfr (fun z => nomatch (show f ∈ ([] : List Addr) from z))
  have of2 := un.keep T0 _ hf2 hfn2 hfr2 (fun z => nomatch (show T0 ∈ ([] : List Addr) from z))
  (refine PySem.W.callWith_F0 ⟨_, _, _, _, of1⟩ ?_)
  obtain ⟨⟨oc, vs, t, c1, c2, c3⟩, _, _⟩ := I1.hok c' _ q2
  have rc : codeAny (model X.prog X.w) (X.A.deeper (envOfC qg sg s.heap.objs.size g cdg)) (.call (.ref f) ⟨[], []⟩) (CR (L2.CX X.prog X.w) (envOfC qg sg s.heap.objs.size g cdg :: X.stack) X.prog X.w H0 s1 Q (WE W σ0)) s1 := by
    refine PySem.W.kla_callFunE hr.depth of1 rfl L.co L.gen rfl ⟨c', oc, vs, t, rfl, c1, c2, c3⟩ ?_
    obtain ⟨kk, k1, k2⟩ := hbi (X.env.qual ++ "<lambda>") (cloFrom X.env.cells scope.names []) (.ref T0) doc pm (.ref c') ctv u0
    refine (BindsTo.of_defaults (s := s1) rfl of2 rfl k1 k2) _ _ _ _ (wpAny_newFunctionEnv (fun z hz => L.nocell z hz) (fun z hz => ?_) (fun h₁ hns hsb => ⟨I1.nolimit.fresh _ hsb, ?_⟩) L.kind)
    · rw [List.mem_singleton] at hz
      rw [hz]; exact L.par
    · show codeAny _ _ (.expr body (LamX.lamEnv X scope s1.heap.objs.size f c')) _ _
      have J : Inv (LamX.lamCx X (X.A.deeper (envOfC qg sg s.heap.objs.size g cdg)) (envOfC qg sg s.heap.objs.size g cdg :: X.stack) s1 H0 (WE W σ0) scope f c') [] σ H0 { s1 with heap := h₁, toks := s1.toks + [(y, u0)].length } :=
        lam_startD I L hyN I1.env0 hr.hd un hns fun b o e => hsb.extBut b o (Nat.ne_of_lt (Heap.lt_size e)) (Heap.get?_push_of_some _ e)
      refine PySem.W.kla_codeExpr (wpAny_mono ((hbo (WE W σ0) _ _ s1 H0 (hr.deeper _)).run [] _ _ H0 Q J q3) (fun v s' hq => ?_) fun _ _ hq => hq)
      obtain ⟨x, H', J', rv, q⟩ := hq
      exact ⟨x, H', J'.os, J'.bare, J'.base, J'.hok, rv, q⟩
  (refine wpAny_call (codeAny_mono rc fun r s' hq => ?_))
  cases r with
  | ok fl => cases fl with
    | ret u => exact I1.after hq
    | _ => exact False.elim hq
  | error er => exact passAt tk σ0 pins0 H0 s1 er s' I1 hq
end
section
variable {X : Cx} {m : Pm}
theorem ze_lamD {x : Str} {c P : Addr} {k j i : Nat} {cap : List Nat} {z : Z} {G : Gm} {params : Arguments} {body : Expr} {scope : Scope} {p lpos pos : Pos}
    (C : LamZ m.ix.T X.prog X.w X.K X.mg X.base (k + 1) x (G.lam i)) (hg : Gl X x) (hdb : (x == ("__debug__" : Str)) = false)
    (TB : LamX.TabB X.base X.mg c P) (hcode : X.env.code = .ref c) (hmT : (P, X.env.qual ++ "<lambda>") ∈ m.ix.T) (hu : ∀ p ∈ m.ix.T, p.1 = P → p.2 = X.env.qual ++ "<lambda>") (hr : Room j X.A) (hk : k + 2 ≤ j) {y : Str} {d0 : Int} {dk : Nat} {dp : Pos} (L : LamD X.env.scope scope y) (hyN : y ∉ X.N) (hpd : params.defaults = [.Constant (.int d0) dk dp]) (hk0 : params.kw_defaults = [])
    (hbind : LamBinds params body scope y)
    (hbody : ∀ (E : XK) (A : Around) (outer : List Env) (s : Shared) (H : Hp) (f c' : Addr), Room k (A.deeper (LamX.lamEnv X scope s.heap.objs.size f c')) → PE (LamX.lamCx X A outer s H E scope f c') body (tz X.K (lamPm X.mg m.ix.T E) (evE G z))) :
    PE X (.Call (.Name x p) [.Lambda params body scope lpos] [] pos) (tz X.K m (evE G (.lam i cap z))) := by
  obtain ⟨g, fd, a, sg, Ng, pg, bg, d, Gt, hm, FD, hb, Sg, hNg, hva, hd, hcd, hdn, hL, hact, hbg⟩ := C.ex
  have kp := FD.kp
  obtain ⟨oc, od, dV, kV, doc, pm, an, cdv, ct, osl, rfl, lk, hcg, _, _⟩ := FD.ex
  (refine ⟨fun pins s σ H Q I h => ?_⟩)
  obtain ⟨e, w, st, sm, PP⟩ := h
  obtain ⟨w0, s0, t0⟩ := sm.thaws cap
  have hT : LamX.Tabs m.ix.T H := s0.fr.tab e.tab
  (refine wpAny_Call_Name_kw (ld_glob I hg hm ?_ hdb))
  refine PySem.W.callWith_K (h₀ := X.base) I.ok.mod.kin kp ?_ (by rfl) (by rfl)
  (show wpAny _ _ (spliced ((false, eval (.Lambda params body scope lpos) X.env) :: backTo pos (starEach [] X.env))) _ _ s)
  refine Calls.spliced_cons (lam_makeD I TB hcode hmT hu hT hpd hk0 (L.has I.ok) fun f c' T0 u pm' ctv doc' H1 s' I1 eN T1 hf hfn hfr hf2 hfn2 hfr2 hco => ?_)
  (refine Calls.spliced_nil ⟨I1.kIn, ?_⟩)
  obtain ⟨s1, t1⟩ := s0.code eN T1
  have rc : codeAny (model X.prog X.w) X.A (.call (.ref g) ⟨[.ref f], []⟩)
      (CR C8.CX0 X.stack X.prog X.w H1 s' Q C8.E0) s' := by
    refine LamX.run_ofS (N := Ng) (ps := [a]) (us := [.ref f]) (vs := [.ref f]) lk hcg Sg (hr.mono hk) I1.env0 (hb s' [.ref f] I1.kIn rfl) (.cons rfl .nil) rfl fun hr' => ?_
    have hq := hbg cdv X.A X.stack s' H1 (fun hd => (evE G z ⟨maskS (thawS st cap), hd⟩).out) ⟨f, c', X.env.qual ++ "<lambda>", w0⟩ hr' fun W pn xe p1 p2 tk => ?_
    · refine ⟨_, hq.nox, ⟨H1, w0.F, T1⟩, w0, _, start_cb (c := ⟨f, c', X.env.qual ++ "<lambda>", w0⟩) s1.sub s1.nt s1.hand (by cases Ng with | nil => cases hNg | cons y l => exact Nat.succ_le_succ (Nat.zero_le _)) T1 hco (Wd.le_refl w0), ?_⟩
      have hhd : (thawS st cap).hd = st.hd := by
        have key : ∀ l : List Nat, (thawS st l).hd = st.hd := fun l => by
          induction l with
          | nil => rfl
          | cons i l ih =>
            show (thaw1 (thawS st l) i).hd = _
            unfold thaw1
            split
            · exact ih
            · exact ih
        exact key cap
      have PP : Pz X.K m e σ st w H (match G.lam i (fun hd => (evE G z ⟨maskS (thawS st cap), hd⟩).out) st.hd with
        | .ok v hd => .ok v ⟨(thawS st cap).sl, hd⟩
        | _ => .stuck) (fun v st' w' H' => ∀ x, RvOk X.K e w' H' σ st' H x v → Q x H') := by have q := PP; unfold evE at q; exact q
      rw [hL] at PP
      unfold callL at PP
      by_cases hps : d.ps = 1
      · rw [if_pos hps] at PP
        rw [hdn] at PP
        rw [hhd]
        have up : ∀ {σ' w' H' st'}, Sim X.K (⟨H1, w0.F, T1⟩ : En ⟨none, some ⟨f, c', X.env.qual ++ "<lambda>", w0⟩, m.ix.T⟩) w' H' σ' st' → SStep (⟨H1, w0.F, T1⟩ : En ⟨none, some ⟨f, c', X.env.qual ++ "<lambda>", w0⟩, m.ix.T⟩) w0 w' →
            Sim X.K e w' H' σ ⟨(thawS st cap).sl, st'.hd⟩ ∧ Step σ st w H w' H' ⟨(thawS st cap).sl, st'.hd⟩ := fun {σ' w' H' st'} q1 q2 => by
          obtain ⟨a1, a2⟩ := s1.call (CEnd.of (ix := ⟨none, some ⟨f, c', X.env.qual ++ "<lambda>", w0⟩, m.ix.T⟩) q1 q2)
          exact ⟨a1, t0.trans (t1.trans a2)⟩
        cases hev : evSs (Gt fun hd => (evE G z ⟨maskS (thawS st cap), hd⟩).out) d.body ⟨.sp none :: List.replicate (Ng.length - 1) .un, st.hd⟩ with
        | nx st2 =>
          rw [hev] at PP
          intro σ' w' H' q1 q2
          obtain ⟨a1, a2⟩ := up q1 q2
          exact PP w' H' a1 a2 .non .non
        | ret v st2 =>
          rw [hev] at PP
          intro x σ' w' H' q1 q2 r
          obtain ⟨a1, a2⟩ := up q1 q2
          refine PP w' H' a1 a2 x ((RvC.ok (hd' := st2.hd) s1 r.c).since ?_)
          exact (t0.trans t1).dom
        | exc ex st2 => rw [hev] at PP; exact PP.no.elim
        | brk st2 => rw [hev] at PP; exact PP.no.elim
        | cnt st2 => rw [hev] at PP; exact PP.no.elim
        | stuck => rw [hev] at PP; exact PP.no.elim
      · rw [if_neg hps] at PP; exact PP.no.elim
    · have h1 := act_runD (i := 0) (tb := fun E => tz X.K (lamPm X.mg m.ix.T E) (evE G z)) (p1 := p1) (p2 := p2) I1 L hyN hf hfn hfr hf2 hfn2 hfr2 hbind tk hr' (fun E A outer s H hr2 => hbody E A outer s H f c' hr2) hNg hva hd hcd
      have h2 := act_z (mg := X.mg) (T := m.ix.T) h1 s1
      refine h2.zm fun σ0 H0 Q0 hh => ?_
      rw [ev_act (hact _)] at hh
      exact hh
  (refine wpAny_call (codeAny_mono rc fun r s2 hq => ?_))
  cases r with
  | ok fl => cases fl with
    | ret u => exact I1.after hq
    | _ => exact False.elim hq
  | error er => exact (show False from hq).elim
end
end ZZ

/-! ZE2: built-in functions of data. -/
namespace ZZ
open L2 PyProof.Rows PySem.Spec PySem
open PySem.W (AlikeAll argBest_fold iter_listW iter_tupleW moved_old dataLt alike EachIs)
section
variable {prog : Program} {w : World} {A :
    Around} {E : Value → Shared → Prop} {s : Shared}
theorem min_at {l : Addr} {vs : Array Value} {xs : List PyData} {as : List Addr} {Q : Value → Shared → Prop} (hh : A.handled = none) (hl : s.heap.IsList l vs ∨ s.heap.IsTuple l vs) (hr : ReadsAll s.heap vs.toList xs as) (hn : 0 < xs.length) (ha : AlikeAll xs) (hu : A.units + 1 + PyData.depthAll xs < cLine)
    (h : ∀ v h' tk, vs[argBest (fun i j => dataLt (xs.getD i .none) (xs.getD j .none)) (xs.length - 1)]? = some v → (∀ b o, s.heap.get? b = some o → h'.get? b = some o) → Q v { s with heap := h', toks := tk }) :
    wpAny (model prog w) A (call
        (.builtin "min") [.ref l]) Q E s := by
  have hz : vs.size = xs.length := PySem.W.readsAll_len hr
  rw [← hz] at h hn
  rcases hl with hl | hl
  · refine call_min_walkH (iter_listW (A := A.in1) hh hl fun s2 e W st hfp hw hk => ?_)
    refine ⟨_, _, _, _, _, _, _, s.heap, _, rfl, W, st, hfp, hn, hw, hk, PySem.W.cmpIn_lt (A := A.in1) hr ha (by show A.units + 1 + _ < _; exact hu), fun v s' hP m => ?_⟩
    (obtain ⟨h', tk, rfl, hk'⟩ := moved_old e rfl m)
    exact h v h' tk hP hk'
  · refine call_min_walkH (iter_tupleW (A := A.in1) hh hl fun s2 e W st hfp hw hk => ?_)
    refine ⟨_, _, _, _, _, _, _, s.heap, _, rfl, W, st, hfp, hn, hw, hk, PySem.W.cmpIn_lt (A := A.in1) hr ha (by show A.units + 1 + _ < _; exact hu), fun v s' hP m => ?_⟩
    (obtain ⟨h', tk, rfl, hk'⟩ := moved_old e rfl m)
    exact h v h' tk hP hk'
theorem max_at {l : Addr} {vs : Array Value} {xs : List PyData} {as : List Addr} {Q : Value → Shared → Prop} (hh : A.handled = none) (hl : s.heap.IsList l vs ∨ s.heap.IsTuple l vs) (hr : ReadsAll s.heap vs.toList xs as) (hn : 0 < xs.length) (ha : AlikeAll xs) (hu : A.units + 1 + PyData.depthAll xs < cLine)
    (h : ∀ v h' tk, vs[argBest (fun i j => dataLt (xs.getD j .none) (xs.getD i .none)) (xs.length - 1)]? = some v → (∀ b o, s.heap.get? b = some o → h'.get? b = some o) → Q v { s with heap := h', toks := tk }) :
    wpAny (model prog w) A (call
        (.builtin "max") [.ref l]) Q E s := by
  have hz : vs.size = xs.length := PySem.W.readsAll_len hr
  rw [← hz] at h hn
  rcases hl with hl | hl
  · refine call_max_walkH (iter_listW (A := A.in1) hh hl fun s2 e W st hfp hw hk => ?_)
    refine ⟨_, _, _, _, _, _, _, s.heap, _, rfl, W, st, hfp, hn, hw, hk, PySem.W.cmpIn_gt (A := A.in1) hr ha (by show A.units + 1 + _ < _; exact hu), fun v s' hP m => ?_⟩
    (obtain ⟨h', tk, rfl, hk'⟩ := moved_old e rfl m)
    exact h v h' tk hP hk'
  · refine call_max_walkH (iter_tupleW (A := A.in1) hh hl fun s2 e W st hfp hw hk => ?_)
    refine ⟨_, _, _, _, _, _, _, s.heap, _, rfl, W, st, hfp, hn, hw, hk, PySem.W.cmpIn_gt (A := A.in1) hr ha (by show A.units + 1 + _ < _; exact hu), fun v s' hP m => ?_⟩
    (obtain ⟨h', tk, rfl, hk'⟩ := moved_old e rfl m)
    exact h v h' tk hP hk'
end
/-- the values stand for data, and for data of ours -/
def rMinD (K : Frag) (mx : Bool) : List V → Hp → VK → Prop := fun vs H Q => ∃ (a : Addr) (xs : List V) (ps : List PyData), vs = [.ref a] ∧ (SqL K H a xs ∨ SqT K H a xs) ∧ DpAll K H xs ps ∧ 0 < ps.length ∧ AlikeAll ps ∧ PyData.depthAll ps ≤ 40 ∧
  ∀ v, xs[argBest (fun i j => if mx = true then dataLt (ps.getD j .none) (ps.getD i .none) else dataLt (ps.getD i .none) (ps.getD j .none)) (ps.length - 1)]? = some v → Q v H
theorem DpAll.len {K : Frag} {H : Hp} : ∀ {xs : List V} {ps : List PyData}, DpAll K H xs ps → xs.length = ps.length
  | _, _, .nil => rfl
  | _, _, .cons _ t => by rw [List.length_cons, List.length_cons, DpAll.len t]
section
variable {X : Cx}
theorem cr_minD (hc : X.calm = true) (hu : X.A.units + 65 < cLine) : CallR X (.builtin "min") (rMinD X.K false) := by
  (intro pins s σ H vs us Q I r h)
  obtain ⟨a, xs, ps, rfl, hs, dp, hn, al, dep, q⟩ := h
  rw [Vals.ref1 r]
  rcases hs with hs | hs
  · obtain ⟨its, rv, p, _⟩ := I.list hs
    obtain ⟨as, ra⟩ := Dp.readsAll I ps xs its dp rv
    refine min_at (vs := its.toArray) (I.ok.hd hc) (.inl p.isList) (as := as) (by simpa using ra) hn al (by omega) fun u h' tk hv hk => ?_
    rw [List.getElem?_toArray] at hv
    have hl : argBest (fun i j => dataLt (ps.getD i .none) (ps.getD j .none)) (ps.length - 1) < xs.length := by
      rw [rv.length]; exact (List.getElem?_eq_some_iff.mp hv).1
    obtain ⟨x, hx⟩ : ∃ x, xs[argBest (fun i j => dataLt (ps.getD i .none) (ps.getD j .none)) (ps.length - 1)]? = some x := ⟨_, List.getElem?_eq_getElem hl⟩
    obtain ⟨u', hu', ru⟩ := rv.get hx
    rw [hv] at hu'; cases hu'
    exact ⟨x, H, I.kept hk, ru, q x (by simpa using hx)⟩
  · obtain ⟨its, rv, p, _⟩ := I.tuple hs
    obtain ⟨as, ra⟩ := Dp.readsAll I ps xs its dp rv
    refine min_at (vs := its.toArray) (I.ok.hd hc) (.inr p) (as := as) (by simpa using ra) hn al (by omega) fun u h' tk hv hk => ?_
    rw [List.getElem?_toArray] at hv
    have hl : argBest (fun i j => dataLt (ps.getD i .none) (ps.getD j .none)) (ps.length - 1) < xs.length := by
      rw [rv.length]; exact (List.getElem?_eq_some_iff.mp hv).1
    obtain ⟨x, hx⟩ : ∃ x, xs[argBest (fun i j => dataLt (ps.getD i .none) (ps.getD j .none)) (ps.length - 1)]? = some x := ⟨_, List.getElem?_eq_getElem hl⟩
    obtain ⟨u', hu', ru⟩ := rv.get hx
    rw [hv] at hu'; cases hu'
    exact ⟨x, H, I.kept hk, ru, q x (by simpa using hx)⟩
theorem cr_maxD' (hc : X.calm = true) (hu : X.A.units + 65 < cLine) : CallR X (.builtin "max") (rMinD X.K true) := by
  (intro pins s σ H vs us Q I r h)
  obtain ⟨a, xs, ps, rfl, hs, dp, hn, al, dep, q⟩ := h
  rw [Vals.ref1 r]
  rcases hs with hs | hs
  · obtain ⟨its, rv, p, _⟩ := I.list hs
    obtain ⟨as, ra⟩ := Dp.readsAll I ps xs its dp rv
    refine max_at (vs := its.toArray) (I.ok.hd hc) (.inl p.isList) (as := as) (by simpa using ra) hn al (by omega) fun u h' tk hv hk => ?_
    rw [List.getElem?_toArray] at hv
    have hl : argBest (fun i j => dataLt (ps.getD j .none) (ps.getD i .none)) (ps.length - 1) < xs.length := by
      rw [rv.length]; exact (List.getElem?_eq_some_iff.mp hv).1
    obtain ⟨x, hx⟩ : ∃ x, xs[argBest (fun i j => dataLt (ps.getD j .none) (ps.getD i .none)) (ps.length - 1)]? = some x := ⟨_, List.getElem?_eq_getElem hl⟩
    obtain ⟨u', hu', ru⟩ := rv.get hx
    rw [hv] at hu'; cases hu'
    exact ⟨x, H, I.kept hk, ru, q x (by simpa using hx)⟩
  · obtain ⟨its, rv, p, _⟩ := I.tuple hs
    obtain ⟨as, ra⟩ := Dp.readsAll I ps xs its dp rv
    refine max_at (vs := its.toArray) (I.ok.hd hc) (.inr p) (as := as) (by simpa using ra) hn al (by omega) fun u h' tk hv hk => ?_
    rw [List.getElem?_toArray] at hv
    have hl : argBest (fun i j => dataLt (ps.getD j .none) (ps.getD i .none)) (ps.length - 1) < xs.length := by
      rw [rv.length]; exact (List.getElem?_eq_some_iff.mp hv).1
    obtain ⟨x, hx⟩ : ∃ x, xs[argBest (fun i j => dataLt (ps.getD j .none) (ps.getD i .none)) (ps.length - 1)]? = some x := ⟨_, List.getElem?_eq_getElem hl⟩
    obtain ⟨u', hu', ru⟩ := rv.get hx
    rw [hv] at hu'; cases hu'
    exact ⟨x, H, I.kept hk, ru, q x (by simpa using hx)⟩
/-- sorted: our data in their order, whatever stands for them -/
def rSortD (K : Frag) : List V → Hp → VK → Prop := fun vs H Q => ∃ (a : Addr) (xs : List V) (ds : List D) (R : V → D → Prop), vs = [.ref a] ∧ SqL K H a xs ∧ EachIs R xs ds ∧ DpAll K H xs (ds.map D.pdn) ∧ PySem.W.AllAlike (ds.map D.pdn) ∧ PySem.W.Sortable (ds.map D.pdn) ∧ ds.length ≤ sizeLine ∧
  PyData.depthAll (ds.map D.pdn) ≤ 40 ∧ ∀ (ys : List V) (p : Addr), EachIs R ys (sortD ds) → H p = none → Q (.ref p) (upd H p (.lst ys))
theorem depth_mem {p : PyData} : ∀ {ps : List PyData}, p ∈ ps → p.depth ≤ PyData.depthAll ps
  | q :: ps, h => by
    (rcases List.mem_cons.mp h with e | e)
    · subst e; exact Nat.le_max_left _ _
    · exact Nat.le_trans (depth_mem e) (Nat.le_max_right _ _)
theorem sortD_eq (ds : List D) : sortD ds = ds.mergeSort (PySem.W.dataLe false D.pdn) := rfl
theorem each_of_vals {R : V → D → Prop} : ∀ {xs : List V} {us : List Value} {ds : List D}, Vals xs us → EachIs R xs ds → EachIs (fun u d => ∃ x, RelV x u ∧ R x d) us ds
  | _, _, _, .nil, .nil => .nil
  | _, _, _, .cons r t, .cons h k => .cons ⟨_, r, h⟩ (each_of_vals t k)
theorem vals_of_each {R : V → D → Prop} : ∀ {us : List Value} {ds : List D}, EachIs (fun u d => ∃ x, RelV x u ∧ R x d) us ds → ∃ xs, Vals xs us ∧ EachIs R xs ds
  | _, _, .nil => ⟨[], .nil, .nil⟩
  | _, _, .cons ⟨x, r, h⟩ t => by
    obtain ⟨xs, a, b⟩ := vals_of_each t
    exact ⟨x :: xs, .cons r a, .cons h b⟩
theorem each_len {α β : Type} {R : α → β → Prop} : ∀ {as : List α} {bs : List β}, EachIs R as bs → as.length = bs.length
  | _, _, .nil => rfl
  | _, _, .cons _ t => by rw [List.length_cons, List.length_cons, each_len t]
theorem cr_sortedD (hu : X.A.units + 65 < cLine) : CallR X (.builtin "sorted") (rSortD X.K) := by
  (intro pins s σ H vs us Q I r h)
  obtain ⟨a, xs, ds, R, rfl, hs, he, dp, hal, hk, hL, dep, q⟩ := h
  (obtain ⟨its, rv, hl, hz⟩ := I.list hs)
  rw [Vals.ref1 r]
  obtain ⟨as, ra⟩ := Dp.readsAll I _ xs its dp rv
  refine PySem.W.sorted_data (vs := its) (bs := ds) (enc := D.pdn) hl.isList (each_of_vals rv he) (PySem.W.readsAll_each D.pdn ra) hal hk hL (fun b hb => ?_) fun out h1 h2 => ?_
  · have := depth_mem (List.mem_map_of_mem (f := D.pdn) hb)
    show X.A.units + 2 + _ < _
    omega
  · obtain ⟨ys, k1, k2⟩ := vals_of_each h2
    (obtain ⟨ep, he'⟩ := PyProof.Rows.sortedAll_at s.heap its out.toArray)
    have hlen : ys.length ≤ sizeLine := by rw [k1.length, h1]; exact hL
    exact ⟨.ref _, upd H (s.heap.objs.size + 1) (.lst ys), I.laid (t' := s.toks) (fun _ _ => PyProof.Rows.sortedAll_old) (Nat.le_succ _) ⟨hlen, out, ep, k1, he'⟩, rfl, q ys _ k2 (I.hok.fresh (Nat.le_succ _))⟩
/-! ### by our data -/
def rFx (K : Frag) : Fx → List V → Hp → VK → Prop
  | .len => fun xs H Q => (∃ x n, xs = [x] ∧ LenV K x H n ∧ Q (.int n) H) ∨ (∃ a kvs, xs = [V.ref a] ∧ H a = some (.dK kvs) ∧ Q (.int kvs.length) H) ∨ rLenT xs H Q
  | .min => rMinD K false
  | .max => rMinD K true
  | .sorted => rSortD K
  | .str => fun xs H Q => ∃ i, xs = [.int i] ∧ i.natAbs.log2 < 1920 ∧ Q (.str (toString i)) H
def fxVal : Fx → Value
  | .len => .builtin "len"
  | .min => .builtin "min"
  | .max => .builtin "max"
  | .sorted => .builtin "sorted"
  | .str => .type "str"
theorem cr_fx (hc : X.calm = true) (hu : X.A.units + 65 < cLine) (b : Fx) : CallR X (fxVal b) (rFx X.K b) := by
  cases b with
  | len =>
    (intro pins s σ H xs us Q I r h)
    rcases h with h | h | h
    · exact call_len pins s σ H xs us Q I r h
    · exact call_lenD pins s σ H xs us Q I r h
    · exact call_len_dT pins s σ H xs us Q I r h
  | min => exact cr_minD hc hu
  | max => exact cr_maxD' hc hu
  | sorted => exact cr_sortedD hu
  | str => exact call_str_int
end
theorem pds_map : ∀ {l : List D} {ps : List PyData}, D.pds l = some ps → l.map D.pdn = ps
  | [], ps, h => by cases h; rfl
  | d :: l, ps, h => by
    unfold D.pds at h
    split at h
    · rename_i h1 h2
      cases h
      rw [List.map_cons, pds_map h2]
      unfold D.pdn
      rw [h1]; rfl
    · cases h
theorem cmpOk_iff {l : List D} (h : cmpOk l = true) : ∃ ps, D.pds l = some ps ∧ AlikeAll ps ∧ PyData.depthAll ps ≤ 40 := by
  unfold cmpOk at h
  split at h
  · rename_i ps hp
    (simp only [Bool.and_eq_true, List.all_eq_true, decide_eq_true_eq] at h)
    refine ⟨ps, hp, ⟨fun x hx y hy => h.1.1 x hx y hy, fun x hx e => ?_⟩, h.2⟩
    have := h.1.2 x hx
    rw [e] at this; cases this
  · cases h
theorem getD_pdn {l : List D} {i : Nat} : (l.map D.pdn).getD i PyData.none = D.pdn (l.getD i .non) := by
  (rw [List.getD_eq_getElem?_getD, List.getD_eq_getElem?_getD, List.getElem?_map])
  cases l[i]? <;> rfl
theorem each_reps {K : Frag} {w : Wd} : ∀ {xs : List V} {ds : List D}, Reps K w xs ds → EachIs (fun x d => Rep K w x d) xs ds
  | _, _, .nil => .nil
  | _, _, .cons r t => .cons r (each_reps t)
theorem reps_each {K : Frag} {w : Wd} : ∀ {xs : List V} {ds : List D}, EachIs (fun x d => Rep K w x d) xs ds → Reps K w xs ds
  | _, _, .nil => .nil
  | _, _, .cons r t => .cons r (reps_each t)
section
variable {K : Frag} {ix : Ix} {e : En ix} {w : Wd} {H : Hp} {σ : L2.St} {st : S} {Q : VK} {v : Rv}
theorem View.dct {x : V} {l : List (D × D)} (h : View K w H x (.dct l)) (sub : Same w.F H) : (∃ p kvs, x = .ref p ∧ H p = some (.dK kvs) ∧ RepK K w kvs l) ∨ ∃ p kvs, x = .ref p ∧ H p = some (.dT kvs) ∧ RepT K w kvs l := by
  cases h with
  | rep h => cases h with
    | dK a b => exact .inl ⟨_, _, rfl, sub _ _ a, b⟩
    | dT a b => exact .inr ⟨_, _, rfl, sub _ _ a, b⟩
  | own h => cases h with
    | dK a b => exact .inl ⟨_, _, rfl, a, b⟩
    | dT a b => exact .inr ⟨_, _, rfl, a, b⟩
theorem kvT_len : ∀ {kvs : List (List Key × V)} {kds : List (D × D)}, RepT K w kvs kds → kvs.length = kds.length
  | _, _, .nil => rfl
  | _, _, .cons _ t => by rw [List.length_cons, List.length_cons, kvT_len t]
theorem seq_view {x : V} {d : D} {l : List D} (hx : View K w H x d) (sub : Same w.F H) (h : seqOf d = some l) : ∃ p xs, x = .ref p ∧ (SqL K H p xs ∨ SqT K H p xs) ∧ Reps K w xs l := by
  unfold seqOf at h
  split at h
  · cases h
    obtain ⟨p, ys, rfl, hp, r⟩ := hx.lst sub
    exact ⟨p, ys, rfl, .inl (.of hp), r⟩
  · cases h
    obtain ⟨p, ys, rfl, hp, r⟩ := hx.tup sub
    exact ⟨p, ys, rfl, .inr hp, r⟩
  · cases h
theorem least_of {mx : Bool} {xs : List V} {l : List D} {ps : List PyData} (r : Reps K w xs l) (hp : D.pds l = some ps) {d : D} (h : (if mx = true then mostD l else leastD l) = some d) :
    0 < ps.length ∧ ∀ v, xs[argBest (fun i j => if mx = true then dataLt (ps.getD j .none) (ps.getD i .none) else dataLt (ps.getD i .none) (ps.getD j .none)) (ps.length - 1)]? = some v → Rep K w v d := by
  have hm := pds_map hp
  subst hm
  cases l with
  | nil => cases mx <;> cases h
  | cons x xs' =>
    refine ⟨by rw [List.length_map]; exact Nat.succ_pos _, fun v hv => ?_⟩
    simp only [getD_pdn, List.length_map, List.length_cons, Nat.add_sub_cancel] at hv
    obtain ⟨d', h1, h2⟩ := r.get hv
    cases mx with
    | false =>
      simp only [Bool.false_eq_true, if_false] at hv h1
      have k := argBest_fold (fun a b : D => ltP a b) .non x xs' xs'.length (Nat.le_refl _)
      rw [List.take_length] at k
      have k2 : ((x :: xs').getD (argBest (fun i j => dataLt ((x :: xs').getD i D.non).pdn ((x :: xs').getD j D.non).pdn) xs'.length) .non) = d' := by
        rw [List.getD_eq_getElem?_getD, h1]; rfl
      have k3 : d = d' := by
        have h : some _ = some d := h
        rw [← k2, ← Option.some.inj h]
        exact k.2.symm
      rw [k3]; exact h2
    | true =>
      simp only [if_true] at hv h1
      have k := argBest_fold (fun a b : D => ltP b a) .non x xs' xs'.length (Nat.le_refl _)
      rw [List.take_length] at k
      have k2 : ((x :: xs').getD (argBest (fun i j => dataLt ((x :: xs').getD j D.non).pdn ((x :: xs').getD i D.non).pdn) xs'.length) .non) = d' := by
        rw [List.getD_eq_getElem?_getD, h1]; rfl
      have k3 : d = d' := by
        have h : some _ = some d := h
        rw [← k2, ← Option.some.inj h]
        exact k.2.symm
      rw [k3]; exact h2
theorem fx_ok {b : Fx} (s : Sim K e w H σ st) {xs : List V} {ds : List D} (hv : Views K w H xs ds) (h : fxD b ds = some v) (q : Wn K e σ st w H v Q) : rFx K b xs H Q := by
  unfold fxD at h
  split at h
  · obtain ⟨x, rfl, hx⟩ := hv.one
    split at h
    · cases h
      obtain ⟨p, ys, rfl, hp, r⟩ := hx.lst s.sub
      exact .inl ⟨_, ys.length, rfl, .inl ⟨ys, .of hp, rfl⟩, by rw [r.length]; exact q.int s⟩
    · cases h
      obtain ⟨p, ys, rfl, hp, r⟩ := hx.tup s.sub
      exact .inl ⟨_, ys.length, rfl, .inr ⟨ys, hp, rfl⟩, by rw [r.length]; exact q.int s⟩
    · split at h
      · rename_i hl
        cases h
        rw [hx.str]
        exact .inl ⟨_, _, rfl, ⟨by rw [← line_eq]; exact hl, rfl⟩, q.int s⟩
      · cases h
    · cases h
      rcases hx.dct s.sub with ⟨p, kvs, rfl, hp, r⟩ | ⟨p, kvs, rfl, hp, r⟩
      · exact .inr (.inl ⟨p, kvs, rfl, hp, by rw [kv_len r]; exact q.int s⟩)
      · exact .inr (.inr ⟨p, kvs, rfl, hp, by rw [kvT_len r]; exact q.int s⟩)
    · cases h
  · obtain ⟨x, rfl, hx⟩ := hv.one
    obtain ⟨l, h0, h⟩ := Option.bind_eq_some_iff.mp h
    split at h
    · rename_i hk
      obtain ⟨d, hd, rfl⟩ := Option.map_eq_some_iff.mp h
      obtain ⟨p, ys, rfl, hp, r⟩ := seq_view hx s.sub h0
      obtain ⟨ps, e1, e2, e3⟩ := cmpOk_iff hk
      obtain ⟨n1, n2⟩ := least_of (mx := false) r e1 hd
      exact ⟨p, ys, ps, rfl, hp, r.dp s.sub e1, n1, e2, e3, fun z hz => q.f s (n2 z hz)⟩
    · cases h
  · obtain ⟨x, rfl, hx⟩ := hv.one
    obtain ⟨l, h0, h⟩ := Option.bind_eq_some_iff.mp h
    split at h
    · rename_i hk
      obtain ⟨d, hd, rfl⟩ := Option.map_eq_some_iff.mp h
      obtain ⟨p, ys, rfl, hp, r⟩ := seq_view hx s.sub h0
      obtain ⟨ps, e1, e2, e3⟩ := cmpOk_iff hk
      obtain ⟨n1, n2⟩ := least_of (mx := true) r e1 hd
      exact ⟨p, ys, ps, rfl, hp, r.dp s.sub e1, n1, e2, e3, fun z hz => q.f s (n2 z hz)⟩
    · cases h
  · obtain ⟨x, rfl, hx⟩ := hv.one
    split at h
    · rename_i l hk
      cases h
      obtain ⟨p, ys, rfl, hp, r⟩ := hx.lst s.sub
      obtain ⟨hk1, hL⟩ := hk
      unfold srtOk at hk1
      rw [Bool.and_eq_true, Bool.or_eq_true, List.all_eq_true, List.all_eq_true] at hk1
      obtain ⟨hk1, hk2⟩ := hk1
      obtain ⟨ps, e1, e2, e3⟩ := cmpOk_iff hk1
      have em := pds_map e1
      refine ⟨p, ys, _, fun x d => Rep K w x d, rfl, .of hp, each_reps r, by rw [em]; exact r.dp s.sub e1, by rw [em]; exact fun x hx y hy => e2.1 x hx y hy, ?_, by rw [← line_eq]; exact hL, by rw [em]; exact e3, fun zs a hz n => q.lst s (reps_each hz) n⟩
      have pd_of : ∀ d ∈ l, ∃ p', d.pd = some p' ∧ p' ∈ ps := by
        intro d hd
        have : D.pdn d ∈ ps := by rw [← em]; exact List.mem_map_of_mem hd
        cases hq : d.pd with
        | some p' => exact ⟨p', rfl, by unfold D.pdn at this; rw [hq] at this; exact this⟩
        | none => exact absurd rfl (e2.2 _ (by unfold D.pdn at this; rw [hq] at this; exact this))
      rcases hk2 with hk2 | hk2
      · refine .inl fun p' hp' => ?_
        obtain ⟨d, hd, rfl⟩ := List.mem_map.mp hp'
        have := hk2 d hd
        obtain ⟨p2, hp2, _⟩ := pd_of d hd
        cases d with
        | tup l' =>
          cases l' with
          | nil => cases this
          | cons a r' =>
            unfold D.pd at hp2
            obtain ⟨zs, h1, h2⟩ := Option.map_eq_some_iff.mp hp2
            unfold D.pds at h1
            split at h1
            · cases h1
              rename_i p1 pl k1 k2
              refine ⟨p1, pl, ?_⟩
              unfold D.pdn D.pd
              unfold D.pds
              rw [k1, k2]
              rfl
            · cases h1
        | _ => cases this
      · refine .inr fun p' hp' => ⟨e2.2 p' (by rw [← em]; exact hp'), fun zs e => ?_⟩
        obtain ⟨d, hd, rfl⟩ := List.mem_map.mp hp'
        have := hk2 d hd
        obtain ⟨p2, hp2, _⟩ := pd_of d hd
        unfold D.pdn at e
        rw [hp2] at e
        cases d with
        | tup l' => cases this
        | non => cases hp2; cases e
        | bl b => cases hp2; cases e
        | int b => cases hp2; cases e
        | str b => cases hp2; cases e
        | lst b =>
          unfold D.pd at hp2
          obtain ⟨zs, h1, h2⟩ := Option.map_eq_some_iff.mp hp2
          rw [← h2] at e; cases e
        | dct b => cases hp2
        | hand => cases hp2
        | scr b => cases hp2
    · cases h
  · obtain ⟨x, rfl, hx⟩ := hv.one
    split at h
    · rename_i hl
      cases h
      rw [hx.int]
      exact ⟨_, rfl, hl, q.str s⟩
    · cases h
  · cases h
end
section
variable {X : Cx} {m : Pm} {e a b : Expr} {pos : Pos} {es : List Expr}
theorem ze_fx (hc : X.calm = true) (hu : X.A.units + 65 < cLine) {b : Fx} {x : Str} {g : Ev (List Pd)} {p : Pos} (hg : Gl X x) (hm : X.mg x = none) (hv : bootBuiltins x = some (fxVal b)) (ha : PA X (e :: es) (tzPs X.K m g)) (hn : x ≠ "__name__") (hdb : (x == ("__debug__" : Str)) = false)
    (he : starEach (e :: es) X.env = (false, eval e X.env) :: starEach es X.env) (hpl : (backTo pos (starEach es X.env)).any (·.1) = false) : PE X (.Call (.Name x p) (e :: es) [] pos) (tz X.K m fun st => (g st).bind fun ps st => match getAll ps st with
    | some ds => lift (fxD b ds) st
    | none => .stuck) := by
  have key : PE X (.Call (.Name x p) (e :: es) [] pos) (tCB (rFx X.K b) (tzPs X.K m g)) := by
    have hcr := cr_fx hc hu b
    cases b <;> first
      | exact pe_callB hcr hg hm hv ha hn hdb he hpl
      | exact pe_callTy hcr hg hm hv ha hn hdb he hpl
  refine key.zm fun σ H Q ⟨e, w, st, s, P⟩ => ?_
  refine ⟨e, w, st, s, P.bind.mono fun ps st1 w1 H1 s1 t1 P1 xs hx => ?_⟩
  split at P1
  · rename_i ds gx
    obtain ⟨v, hv, P4⟩ := P1.lift
    exact fx_ok s1 (hx.views s1 gx) hv fun z w' H' s' t' r => P4.okT s' t' z (r.since t1.dom)
  · exact P1.no.elim
end
end ZZ

/-! ZE3: reversals, repeated texts, lists of ranges, pop. -/
namespace ZZ
open L2 PyProof.Rows PySem.Spec PySem
section
variable {prog : Program} {w : World} {A :
    Around} {E : Value → Shared → Prop} {s : Shared}
theorem applied_rev {sl : Addr} {vs : Value} {n : Nat} {Q : Int × Int × Nat → Shared → Prop} (hs : s.heap.IsSliceOf sl .none .none vs) (ps : IsPart vs (some (-1)))
    (h : Q ((n : Int) - 1, -1, n) s) : wpAny (model prog w) A (Builtin.Slice.sliceApplied (.ref sl) (pure (n : Int))) Q E s := by
  (obtain ⟨os, hos, hcs, hds⟩ := id hs)
  (unfold Builtin.Slice.sliceApplied Builtin.Slice.sliceFields)
  refine wpAny_bind (wpAny_bind (wpAny_field hos hds (x := .none) rfl (wpAny_bind (wpAny_field hos hds (x := .none) rfl (wpAny_bind (wpAny_field hos hds (x := vs) rfl (wpAny_pure ?_)))))))
  refine wpAny_bind (HT.slicePart_ ps ?_)
  show wpAny _ _ (if ((-1 : Int) == 0) = true then _ else _) _ _ s
  rw [if_neg (by decide)]
  refine wpAny_bind (slicePart_none (wpAny_bind (slicePart_none (wpAny_bind (wpAny_pure ?_)))))
  have e : Builtin.Slice.slicePlaces ((n : Int) - 1) (-1) (-1) = n := by
    (unfold Builtin.Slice.slicePlaces)
    by_cases hn : (n
        : Int) - 1 > -1
    · have h0 : ¬ ((-1 : Int) > 0) := by decide
      simp only [h0, if_false]
      split <;> (first | (have e1 : (- -1 : Int) = 1 := by decide); (first | (rw [e1, Int.ediv_one]; omega) | omega))
    · have : n = 0 := by omega
      subst this
      rfl
  show wpAny _ _ (pure ((n : Int) - 1, (-1 : Int), Builtin.Slice.slicePlaces ((n : Int) - 1) (-1) (-1))) _ _ s
  rw [e]
  exact wpAny_pure h
theorem pick_rev (xs : List Value) : ((List.range xs.length).filterMap fun (m : Nat) => xs[((xs.length : Int) - 1 + (m : Int) * -1).toNat]?) = xs.reverse := by
  have e : ∀ m ∈ List.range xs.length, xs[((xs.length : Int) - 1 + (m : Int) * -1).toNat]? = some (xs.reverse.getD m .none) := fun m hm => by
    have hm' : m < xs.length := List.mem_range.mp hm
    have e1 : ((xs.length : Int) - 1 + (m : Int) * -1).toNat = xs.length - 1 - m := by omega
    rw [e1, List.getD_eq_getElem?_getD, List.getElem?_reverse hm', List.getElem?_eq_getElem (by omega)]
    rfl
  have f : ∀ (l : List Nat), (∀ m ∈ l, m ∈ List.range xs.length) → (l.filterMap fun (m : Nat) => xs[((xs.length : Int) - 1 + (m : Int) * -1).toNat]?) = l.map fun m => xs.reverse.getD m .none := by
    intro l
    induction l with
    | nil => intro _; rfl
    | cons a l ih => intro hl; rw [List.filterMap_cons, e a (hl a List.mem_cons_self), List.map_cons, ih fun m hm => hl m (List.mem_cons_of_mem _ hm)]
  rw [f _ fun m hm => hm]
  apply List.ext_getElem?
  intro i
  rw [List.getElem?_map]
  by_cases hi : i < xs.length
  · rw [List.getElem?_range hi, List.getElem?_eq_getElem (by rw [List.length_reverse]; exact hi)]
    show some (xs.reverse.getD i .none) = _
    rw [List.getD_eq_getElem?_getD, List.getElem?_eq_getElem (by rw [List.length_reverse]; exact hi)]
    rfl
  · rw [List.getElem?_eq_none (by rw [List.length_range]; omega), List.getElem?_eq_none (by rw [List.length_reverse]; omega)]
    rfl
theorem getItem_tuple_rev {t sl : Addr} {its : List Value} {vs : Value} {Q : Value → Shared → Prop} (ht : IsTup s.heap t its.toArray) (hs : s.heap.IsSliceOf sl .none .none vs) (ps : IsPart vs (some (-1)))
    (h : Q (.ref s.heap.objs.size) { s with heap := s.heap.push { cls := .type "tuple", data := .seq its.reverse.toArray } })
    (hsz : its.length ≤ sizeLine) : wpAny (model prog w) A (getItem (.ref t) (.ref sl)) Q E s := by
  have htake : sizeOk (.seq its.reverse.toArray) := by
    show its.reverse.toArray.size ≤ sizeLine
    rw [List.size_toArray, List.length_reverse]
    omega
  (obtain ⟨os, hos, hcs, hds⟩ := id hs)
  (have hTs : s.TypeIs (.ref sl) "slice" := ⟨os, hos, hcs⟩)
  unfold getItem
  try with_reducible
      refine wpAny_holding ?_
  first | refine wpAny_bind (wpAny_pure
      ?_) | skip
  (refine wpAny_bind (wpAny_sequenceKey ht.typeIs (by decide) ?_))
  refine wpAny_bind (wpAny_callSpecial?_slot (name := Str.ofString
      "__getitem__") ht.typeIs PyProof.Rows.slot_tuple_getitem
    (wpAny_call_entry PyProof.Rows.slot_tuple_getitem ht.typeIs PyProof.Rows.entry_tuple_getitem ?_ (PyProof.Rows.args_tuple_getitem _ _)))
  (show wpAny _ _ (Builtin.Tuple.tupleItemsOf (.ref t) >>= _) _ _ s)
  (refine wpAny_bind (tupleItemsOf_ ht ?_))
  (refine wpAny_bind (wpAny_typeOf hTs ?_))
  rw [if_pos (by decide)]
  have e0 : (its.toArray.size : Int) = (its.length : Int) := by rw [List.size_toArray]
  rw [e0]
  refine wpAny_bind (applied_rev hs ps ?_)
  have hno : ¬ ((((its.length : Int) - 1) == 0 && (-1 : Int) == 1 && its.length == its.toArray.size) = true) := by
    intro q
    (rw [Bool.and_eq_true, Bool.and_eq_true] at q)
    exact absurd q.1.2 (by decide)
  show wpAny _ _ (if (((its.length : Int) - 1) == 0 && (-1 : Int) == 1 && its.length == its.toArray.size) = true then _ else _) _ _ s
  rw [if_neg hno]
  have e1 : ((List.range its.length).filterMap fun (m : Nat) => its.toArray[((its.length : Int) - 1 + (m : Int) * -1).toNat]?) = its.reverse := by
    have := pick_rev its
    simpa using this
  rw [e1]
  first
    | exact wpAny_bind (m := Builtin.Tuple.tupleExact
          _) (wpAny_newObj_type (wpAny_pure ⟨_, rfl, wpAny_pure h⟩) htake)
    | exact wpAny_bind (m := Builtin.Tuple.tupleExact _) (wpAny_newObj_type
          (wpAny_bind (wpAny_pure (wpAny_pure ⟨_, rfl, wpAny_pure h⟩))) htake)
    | exact wpAny_bind (wpAny_bind (m := Builtin.Tuple.tupleExact _)
          (wpAny_newObj_type (wpAny_pure (wpAny_pure ⟨_, rfl, wpAny_pure h⟩)) htake))
    | exact wpAny_bind (wpAny_bind (m := Builtin.Tuple.tupleExact _)
          (wpAny_newObj_type (wpAny_pure ⟨_, rfl, wpAny_pure h⟩) htake))
theorem str_rev {z : Str} {t u : Tok} {sl : Addr} {Q : Value → Shared → Prop} (hs : s.heap.IsSlice sl none none (some (-1, u))) (hz : z.length ≤ sizeLine) (h : Q (.str ⟨z.cps.reverse⟩ s.toks) { s with toks := s.toks + 1 }) : wpAny (model prog w) A (getItem (.str z t) (.ref sl)) Q E s := by
  refine wpAny_getItem_str_slice (l := none) (u := none) (st := some (-1, u)) hs rfl ?_
  have e : (PySem.Txt.sliceBy z none none (-1, u)) = ⟨z.cps.reverse⟩ := by
    have k := PyProof.Rows.step_rev_list z u
    have k2 : ((List.range z.length).map fun k => z.cps.getD (z.length - 1 - k) 0) = z.cps.reverse.toList := by
      apply List.ext_getElem?
      intro i
      rw [List.getElem?_map, Array.toList_reverse]
      have hl : z.length = z.cps.toList.length := by rw [Array.length_toList]; rfl
      by_cases hi : i < z.length
      · rw [List.getElem?_range hi, List.getElem?_reverse (by omega)]
        show some (z.cps.getD (z.length - 1 - i) 0) = _
        rw [← hl]
        have h2 : z.length - 1 - i < z.cps.size := by
          have : z.length = z.cps.size := rfl
          omega
        rw [Array.getElem?_toList, Array.getElem?_eq_getElem h2]
        simp [Array.getD, h2]
      · rw [List.getElem?_eq_none (by rw [List.length_range]; omega), List.getElem?_eq_none (by rw [List.length_reverse]; omega)]
        rfl
    rw [k2] at k
    generalize PySem.Txt.sliceBy z none none (-1, u) = y at k
    obtain ⟨c⟩ := y
    have k : c.toList = z.cps.reverse.toList := k
    rw [Array.toList_inj.mp k]
  have e2 : sliceMade z t none none (some (-1, u)) = .str (PySem.Txt.sliceBy z none none (-1, u)) := by
    unfold sliceMade PySem.Txt.sliceBy
    have hno : ¬ (((((some ((-1 : Int), u)).map (·.1)).getD 1 == 1) && ((slicePicked z none none (some (-1, u))).length == z.length)) = true) := by
      (have : ((((some ((-1 : Int), u)).map (·.1)).getD 1 == 1)) = false := rfl)
      rw [this]; simp
    rw [if_neg hno, if_neg hno]
  rw [e2, e]
  refine ⟨?_, h⟩
  show z.cps.reverse.size ≤ sizeLine
  rw [Array.size_reverse]; exact hz
end
/-- x[::-1] of a list, a tuple, a text -/
def rRevA (K : Frag) : V → Hp → VK → Prop := fun x H Q => (∃ a xs, x = .ref a ∧ SqL K H a xs ∧ ∀ p, H p = none → Q (.ref p) (upd H p (.lst xs.reverse))) ∨ (∃ a xs, x = .ref a ∧ SqT K H a xs ∧ ∀ p, H p = none → Q (.ref p) (upd H p (.tup xs.reverse))) ∨
  ∃ z, x = .str z ∧ z.length ≤ sizeLine ∧ Q (.str ⟨z.cps.reverse⟩) H
section
variable {X : Cx}
theorem pe_revA {e : Expr} {te : TE} {k : Nat} {p1 p2 p3 pos : Pos} (he : PE X e te) : PE X (.Subscript e (.Slice none none (some (.UnaryOp .USub (.Constant (.int 1) k p1) p2)) p3) pos) (fun σ H Q => te σ H fun x H1 => rRevA X.K x H1 Q) := by
  (refine ⟨fun pins s σ H Q I h => ?_⟩)
  (refine Subscript_ (thn (he.run pins s σ H _ I h) fun v s1 ⟨x, H1, I1, r1, q1⟩ => ?_))
  (have hst : PO X (some (.UnaryOp .USub (.Constant (.int 1) k p1) p2)) (tPart (tUn (rU fun i => .int (-i)) (tC (.int 1)))) := po_some (pe_un un_neg pe_int))
  (refine wpAny_Slice (thn (po_none.run pins s1 σ H1 (fun o H2 => o = none ∧ H2 = H1) I1 ⟨rfl, rfl⟩) fun vl s2 ⟨l, H2, I2, pl, el, e2⟩ => ?_))
  subst el e2
  (refine thn (po_none.run pins s2 σ H2 (fun o H3 => o = none ∧ H3 = H2) I2 ⟨rfl, rfl⟩) fun vu s3 ⟨u, H3, I3, pu, eu, e3⟩ => ?_)
  subst eu e3
  (refine thn (hst.run pins s3 σ H3 (fun o H4 => o = some (-1) ∧ H4 = H3) I3 ⟨1, rfl, -1, rfl, rfl, rfl⟩) fun vs s4 ⟨o, H4, I4, ps, eo, e4⟩ => ?_)
  subst eo e4
  (have I5 : Inv X pins σ H4 { s4 with heap := s4.heap.push { cls := .type "slice", data := .fields #[vl, vu, vs] } } := I4.kept (t' := s4.toks) fun b ob q => Heap.get?_push_of_some _ q)
  show wpAny (model X.prog X.w) X.A (subscriptTail e (.Slice none none (some (.UnaryOp .USub (.Constant (.int 1) k p1) p2)) p3) v (.ref s4.heap.objs.size)) (EP X pins σ Q) X.xe { s4 with heap := s4.heap.push { cls := .type "slice", data := .fields #[vl, vu, vs] } }
  rcases q1 with ⟨a, xs, rfl, hx, q⟩ | ⟨a, xs, rfl, hx, q⟩ | ⟨z, rfl, hz, q⟩
  · cases r1
    (obtain ⟨its, r, ht, hz⟩ := I5.list hx)
    have hlen := r.length
    (refine tail_any (ops := [.ref a, .ref s4.heap.objs.size]) ht.isList.typeIs (PySem.slot_list_getitem.lookup) ?_ (by with_unfolding_all rfl))
    (refine wpAny_getItem_list_slice ht.isList (Heap.IsSliceOf.new _ vl vu vs) pl pu ps (by decide) ?_ (by rw [List.size_toArray]; omega))
    rw [PySem.W.krv_pick]
    (refine ⟨.ref _, _, I5.laid (t' := s4.toks) (o := .lst xs.reverse) (fun b ob q => Heap.get?_push_of_some _ q) (Nat.le_refl _) ?_, rfl, q _ (I5.hok.fresh (Nat.le_refl _))⟩)
    (exact ⟨by rw [List.length_reverse]; exact hz, _, 0, r.reverse, Heap.get?_push_size _ rfl⟩)
  · cases r1
    obtain ⟨its, r, ht, hz⟩ := I5.tuple hx
    have hlen := r.length
    cases pl
    cases pu
    refine tail_any (ops := [.ref a, .ref s4.heap.objs.size]) ht.typeIs PyProof.Rows.slot_tuple_getitem.lookup ?_ (by with_unfolding_all rfl)
    refine getItem_tuple_rev ht (Heap.IsSliceOf.new _ _ _ vs) ps ?_ (by omega)
    refine ⟨.ref _, _, I5.laid (t' := s4.toks) (o := .tup xs.reverse) (fun b ob q => Heap.get?_push_of_some _ q) (Nat.le_refl _) ?_, rfl, q _ (I5.hok.fresh (Nat.le_refl _))⟩
    exact ⟨by rw [List.length_reverse]; exact hz, _, r.reverse, IsTup.new _ _⟩
  · obtain ⟨t, rfl⟩ := r1
    cases pl
    cases pu
    obtain ⟨u, rfl⟩ : ∃ u, vs = .int (-1) u := by cases ps; exact ⟨_, rfl⟩
    refine tail_any (ops := [.ref s4.heap.objs.size, .str z t]) (typeIs_str _ _ _) F.slot_str_getitem.lookup ?_ (by with_unfolding_all rfl)
    refine str_rev (u := u) ⟨_, Heap.get?_push_size _ rfl, rfl, rfl⟩ hz ?_
    exact ⟨.str _, H4, I5.tok _, ⟨_, rfl⟩, q⟩
end
section
variable {X : Cx} {m : Pm} {a b c : Expr} {pos : Pos} {es : List Expr}
theorem ze_rev {f : Ev D} {k : Nat} {p1 p2 p3 : Pos} (h : PE X a (tzF X.K m f)) : PE X (.Subscript a (.Slice none none (some (.UnaryOp .USub (.Constant (.int 1) k p1) p2)) p3) pos) (tz X.K m fun st => (f st).bind fun x st => match x with
    | .lst l => .ok (.o (.lst l.reverse)) st
    | .tup l => .ok (.f (.tup l.reverse)) st
    | .str z => if z.length ≤ line then .ok (.f (.str ⟨z.cps.reverse⟩)) st else .stuck
    | _ => .stuck) := (pe_revA h).zm fun σ H Q ⟨e, w, st, s, P⟩ => by
  refine ⟨e, w, st, s, P.bind.mono fun d st1 w1 H1 s1 t1 P1 x r => ?_⟩
  have wn : ∀ v, Pz X.K m e σ st1 w1 H1 (.ok v st1) (fun v st' w' H' => ∀ x, RvOk X.K e w' H' σ st' H x v → Q x H') → Wn X.K e σ st1 w1 H1 v Q := fun v P4 z w' H' s' t' r => P4.okT s' t' z (r.since t1.dom)
  cases d with
  | lst l =>
    cases r with
    | lst h r => exact .inl ⟨_, _, rfl, .of (s1.sub _ _ h), fun p n => (wn _ P1).lst s1 r.reverse n⟩
  | tup l =>
    cases r with
    | tup h r => exact .inr (.inl ⟨_, _, rfl, SameSqT s1.sub h, fun p n => (wn _ P1).tup s1 r.reverse n⟩)
  | str z =>
    cases r
    dsimp only at P1
    split at P1
    · rename_i hl
      exact .inr (.inr ⟨z, rfl, by rw [← line_eq]; exact hl, (wn _ P1).str s1⟩)
    · exact P1.no.elim
  | non => exact P1.no.elim
  | bl b => exact P1.no.elim
  | int i => exact P1.no.elim
  | dct l => exact P1.no.elim
  | hand => exact P1.no.elim
  | scr l => exact P1.no.elim
theorem rg_reps {K : Frag} {w : Wd} (i j : Int) : Reps K w (rgV i j) ((rangeI i j).map .int) := by
  have e : rgV i j = (rangeI i j).map V.int := by
    unfold rgV rangeI
    rw [List.map_map]
    rfl
  rw [e]
  exact Reps.ints _
theorem rg_ok {i j : Int} (h1 : okR i = true) (h2 : okR j = true) (h3 : j - i ≤ 16777216) : RgOk i j := by
  have a1 := okR_iff h1
  have a2 := okR_iff h2
  exact ⟨a1.1, a1.2, a2.1, a2.2, by omega⟩
/-- list(range(..)), tuple(range(..)) -/
theorem ze_lrg1 {tu : Bool} {f : Ev (List D)} {x : Str} {p p2 pos2 : Pos} (hc : X.calm = true) (hx : x = if tu = true then ("tuple" : Str) else "list") (hgl : Gl X x) (hml : X.mg x = none) (hg : Gl X "range") (hm : X.mg "range" = none) {g : Ev D} (ha : PE X a (tzF X.K m g)) (hf : f = fun st => (g st).bind fun d st => .ok [d] st) (hs : notStar a = true) :
    PE X (.Call (.Name x p) [.Call (.Name "range" p2) [a] [] pos2] [] pos) (tz X.K m fun st => (f st).bind fun ds st => lift (rgD tu ds) st) := by
  subst hf
  have key : ∀ σ H Q, tz X.K m (fun st => ((g st).bind fun d st => (.ok [d] st : Res (List D))).bind fun ds st => lift (rgD tu ds) st) σ H Q →
      tRg1 (tzF X.K m g) σ H fun i j H1 => RgOk i j ∧ ∀ q, H1 q = none → Q (.ref q) (upd H1 q (if tu = true then .tup (rgV i j) else .lst (rgV i j))) := by
    intro σ H Q ⟨e, w, st, s, P⟩
    refine ⟨e, w, st, s, P.bind.bind.mono fun d st1 w1 H1 s1 t1 P1 y r => ?_⟩
    obtain ⟨v, hv, P3⟩ := (P1.ok s1).lift
    unfold rgD at hv
    split at hv
    · rename_i j hj
      cases hj
      split at hv
      · rename_i ho
        rw [Bool.and_eq_true, decide_eq_true_eq] at ho
        cases r
        refine ⟨j, rfl, rg_ok (by decide) ho.1 (by omega), fun q n => ?_⟩
        have wn : Wn X.K e σ st1 w1 H1 v Q := fun z w' H' s' t' r => P3.okT s' t' z (r.since t1.dom)
        cases tu with
        | true => cases hv; exact wn.tup s1 (rg_reps 0 j) n
        | false => cases hv; exact wn.lst s1 (rg_reps 0 j) n
      · cases hv
    · rename_i hj; cases hj
    · cases hv
  cases tu with
  | true => subst hx; exact (pe_tupRg hc hgl hml (prg_1 hg hm ha (na := star_cons hs))).zm key
  | false => subst hx; exact (pe_listRg hc hgl hml (prg_1 hg hm ha (na := star_cons hs))).zm key
theorem ze_lrg2 {tu : Bool} {f : Ev (List D)} {x : Str} {p p2 pos2 : Pos} (hc : X.calm = true) (hx : x = if tu = true then ("tuple" : Str) else "list") (hgl : Gl X x) (hml : X.mg x = none) (hg : Gl X "range") (hm : X.mg "range" = none) {g h : Ev D} (ha : PE X a (tzF X.K m g)) (hb : PE X b (tzF X.K m h))
    (hf : f = fun st => (g st).bind fun d st => (h st).bind fun d' st => .ok [d, d'] st) (hs : notStar a = true) (hs2 : notStar b = true) :
    PE X (.Call (.Name x p) [.Call (.Name "range" p2) [a, b] [] pos2] [] pos) (tz X.K m fun st => (f st).bind fun ds st => lift (rgD tu ds) st) := by
  subst hf
  have key : ∀ σ H Q, tz X.K m (fun st => ((g st).bind fun d st => (h st).bind fun d' st => (.ok [d, d'] st : Res (List D))).bind fun ds st => lift (rgD tu ds) st) σ H Q →
      tRg2 (tzF X.K m g) (tzF X.K m h) σ H fun i j H1 => RgOk i j ∧ ∀ q, H1 q = none → Q (.ref q) (upd H1 q (if tu = true then .tup (rgV i j) else .lst (rgV i j))) := by
    intro σ H Q ⟨e, w, st, s, P⟩
    refine ⟨e, w, st, s, P.bind.bind.mono fun d st1 w1 H1 s1 t1 P1 y r => ?_⟩
    refine ⟨e, w1, st1, s1, P1.bind.mono fun d2 st2 w2 H2 s2 t2 P2 y2 r2 => ?_⟩
    have rr := r.mono t2.le
    obtain ⟨v, hv, P3⟩ := (P2.ok s2).lift
    unfold rgD at hv
    split at hv
    · rename_i hj; cases hj
    · rename_i i j hj
      cases hj
      split at hv
      · rename_i ho
        rw [Bool.and_eq_true, Bool.and_eq_true, decide_eq_true_eq] at ho
        cases rr
        cases r2
        refine ⟨i, j, rfl, rfl, rg_ok ho.1.1 ho.1.2 ho.2, fun q n => ?_⟩
        have wn : Wn X.K e σ st2 w2 H2 v Q := fun z w' H' s' t' r => P3.okT s' t' z (r.since (t1.trans t2).dom)
        cases tu with
        | true => cases hv; exact wn.tup s2 (rg_reps i j) n
        | false => cases hv; exact wn.lst s2 (rg_reps i j) n
      · cases hv
    · cases hv
  cases tu with
  | true => subst hx; exact (pe_tupRg hc hgl hml (prg_2 hg hm ha hb (na := star_cons hs) (nb := star_cons hs2) (hp := star_any (by simp [hs2])))).zm key
  | false => subst hx; exact (pe_listRg hc hgl hml (prg_2 hg hm ha hb (na := star_cons hs) (nb := star_cons hs2) (hp := star_any (by simp [hs2])))).zm key
/-- name.pop() -/
theorem ze_pop {i : Nat} {x : Str} {p1 apos cpos : Pos} (hN : X.N[i]? = some x) (hv : Vis X.env.scope x) (hd : (x == ("__debug__" : Str)) = false) (hcd : (x == ("__classdict__" : Str)) = false) (hline : (apos.endLine == cpos.line) = true) :
    PE X (.Call (.Attribute (.Name x p1) "pop" apos) [] [] cpos) (tz X.K m fun st => match st.sl[i]? with
    | some (.ow (.lst l)) => match l.getLast? with
      | some d => .ok (.f d) (st.put i (.ow (.lst l.dropLast)))
      | none => .stuck
    | _ => .stuck) := (pe_bm0 PySem.F.plainAttrs_list PySem.F.slot_list_pop PySem.F.type_list_pop mt_pop (pe_var hN hv hd hcd) rfl hline).zm fun σ H Q ⟨e, w, st, s, P⟩ => by
  dsimp only at P
  split at P
  · rename_i l hs
    obtain ⟨p, vs, h1, h2, r⟩ := s.own_get hs
    split at P
    · rename_i d hl
      have hl' : l[l.length - 1]? = some d := by rw [← List.getLast?_eq_getElem?]; exact hl
      obtain ⟨v, k1, k2⟩ := r.got hl'
      have rd : Reps X.K w vs.dropLast l.dropLast := by
        rw [List.dropLast_eq_take, List.dropLast_eq_take, r.length]; exact r.take _
      have u := s.ownUpd hs h1 (o := .lst vs.dropLast) (.lst upd_same rd)
      refine ⟨.ref p, h1, .inl ⟨rfl, vs, .of h2⟩, p, vs, v, rfl, rfl, h2, by rw [r.length]; exact k1, ?_⟩
      exact P.okT u.1 u.2 v k2
    · exact P.no.elim
  · exact P.no.elim
theorem ze_popa {i : Nat} {f : Ev D} {x : Str} {p1 apos cpos : Pos} (hN : X.N[i]? = some x) (hv : Vis X.env.scope x) (hd : (x == ("__debug__" : Str)) = false) (hcd : (x == ("__classdict__" : Str)) = false) (h : PE X a (tzF X.K m f)) (hn : notStar a = true) (hline : (apos.endLine == cpos.line) = true) :
    PE X (.Call (.Attribute (.Name x p1) "pop" apos) [a] [] cpos) (tz X.K m fun st => if st.ownL i = true then (f st).bind fun x st => match st.sl[i]?, x with
    | some (.ow (.lst l)), .int k => match seqIndex? k l.length with
      | some j => match l[j]? with
        | some d => if -(2 ^ 63) ≤ k ∧ k < 2 ^ 63 then .ok (.f d) (st.put i (.ow (.lst (l.eraseIdx j)))) else .stuck
        | none => .stuck
      | none => .stuck
    | _, _ => .stuck else .stuck) := (pe_bm PySem.F.plainAttrs_list PySem.F.slot_list_pop PySem.F.type_list_pop mt_popAt (pe_var hN hv hd hcd) (pa_cons h pa_nil (star_cons hn)) rfl (few_one hn) hline (star_cons hn) rfl).zm fun σ H Q ⟨e, w, st, s, P⟩ => by
  dsimp only at P
  split at P
  · rename_i ho
    unfold S.ownL at ho
    split at ho
    · rename_i l0 hs0
      obtain ⟨p, vs0, h1, h20, r0⟩ := s.own_get hs0
      refine ⟨.ref p, h1, .inl ⟨rfl, vs0, .of h20⟩, e, w, st, s, P.bind.mono fun d st1 w1 H1 s1 t1 P1 y ry => ?_⟩
      split at P1
      · rename_i l k hs
        obtain ⟨p', vs, k1, h2, r⟩ := s1.own_get hs
        rw [h1] at k1; cases k1
        split at P1
        · rename_i j hj
          split at P1
          · rename_i dd hd'
            split at P1
            · rename_i hk
              obtain ⟨v, m1, m2⟩ := r.got hd'
              have er : Reps X.K w1 (vs.eraseIdx j) (l.eraseIdx j) := by
                rw [List.eraseIdx_eq_take_drop_succ, List.eraseIdx_eq_take_drop_succ]
                exact (r.take _).append (r.drop _)
              have u := s1.ownUpd hs h1 (o := .lst (vs.eraseIdx j)) (.lst upd_same er)
              cases ry
              refine ⟨p, vs, k, j, v, rfl, rfl, h2, hk.1, hk.2, by rw [r.length]; exact hj, m1, ?_⟩
              exact P1.okT u.1 u.2 v m2
            · exact P1.no.elim
          · exact P1.no.elim
        · exact P1.no.elim
      · exact P1.no.elim
    · cases ho
  · exact P.no.elim
theorem RvsOk.len {K : Frag} {ix : Ix} {e : En ix} {w : Wd} {H : Hp} {σ : L2.St} {st : S} : ∀ {H0 : Hp} {xs : List V} {vs : List Rv}, RvsOk K e w H σ st H0 xs vs → xs.length = vs.length
  | _, _, _, .nil => rfl
  | _, _, _, .cons _ _ _ q => by rw [List.length_cons, List.length_cons, RvsOk.len q]
/-- x, y = a, b by a tuple -/
theorem zs_parT2 {i j : Nat} {x y : Str} {f : Ev (List Rv)} {px py pt : Pos} {kt k2 pt2} (hc : X.calm = true) (hN : X.N.Nodup) (hi : X.N[i]? = some x) (hj : X.N[j]? = some y) (hx : Loc X.env.scope x) (hy : Loc X.env.scope y)
    (hfx : X.fn x = true ∨ X.env.scope.names.lookup x = some .local) (hfy : X.fn y = true ∨ X.env.scope.names.lookup y = some .local) (ha : PA X [a, b] (tzRs X.K m f)) (hw : swappedStores [.Tuple [.Name x px, .Name y py] kt pt] (.Tuple [a, b] k2 pt2) X.env = pure none)
    (hs : swapsWithSole [.Tuple [.Name x px, .Name y py] kt pt] (.Tuple [a, b] k2 pt2) pos.line X.env = pure false) :
    PS X (.Assign [.Tuple [.Name x px, .Name y py] kt pt] (.Tuple [a, b] k2 pt2) pos) (tzS X.K m fun st => (f st).s fun vs st => match putAll st [i, j] vs with
    | some st => .nx st
    | none => .stuck) := (ps_asg (pe_tup ha) (pg_tup hc (pgs_cons (pg_name hN hi hx hfx) (pgs_cons (pg_name hN hj hy hfy) pgs_nil))) hs hw).zm fun D σ H ⟨e, w, st, s, P⟩ => by
  refine ⟨e, w, st, s, (P.s s).mono fun vs st1 w1 H1 s1 t1 P1 xs rs => ?_⟩
  have hlen : xs.length = vs.length := rs.len
  have h2 : vs.length = 2 := by
    rcases vs with _ | ⟨v1, _ | ⟨v2, _ | ⟨v3, vs⟩⟩⟩
    · exact P1.no.elim
    · exact P1.no.elim
    · rfl
    · exact P1.no.elim
  refine ⟨by rw [hlen, h2, ← line_eq]; decide, fun p n => ⟨p, xs, rfl, .of upd_same, by rw [hlen, h2]; rfl, ?_⟩⟩
  have rs := rs.step (Step.lay (o := .tup xs) s1 n)
  have s1 := s1.lay (o := .tup xs) n
  cases rs with
  | nil => exact P1.no.elim
  | cons r d n q =>
    cases q with
    | nil => exact P1.no.elim
    | cons r2 d2 n2 q2 =>
      cases q2 with
      | cons => exact P1.no.elim
      | nil =>
        have fin := P1.nx ((s1.put_v r).put_v (r2.put s1.len n))
        exact ⟨_, _, rfl, (⟨_, _, rfl, ⟨rfl, fin⟩⟩ : gCons (gName j) gNil _ _ _ _)⟩
theorem zs_parT3 {i j l : Nat} {x y z : Str} {f : Ev (List Rv)} {px py pz pt : Pos} {kt k2 pt2} (hc : X.calm = true) (hN : X.N.Nodup) (hi : X.N[i]? = some x) (hj : X.N[j]? = some y) (hl : X.N[l]? = some z) (hx : Loc X.env.scope x) (hy : Loc X.env.scope y) (hz : Loc X.env.scope z)
    (hfx : X.fn x = true ∨ X.env.scope.names.lookup x = some .local) (hfy : X.fn y = true ∨ X.env.scope.names.lookup y = some .local) (hfz : X.fn z = true ∨ X.env.scope.names.lookup z = some .local) (ha : PA X [a, b, c] (tzRs X.K m f))
    (hw : swappedStores [.Tuple [.Name x px, .Name y py, .Name z pz] kt pt] (.Tuple [a, b, c] k2 pt2) X.env = pure none)
    (hs : swapsWithSole [.Tuple [.Name x px, .Name y py, .Name z pz] kt pt] (.Tuple [a, b, c] k2 pt2) pos.line X.env = pure false) :
    PS X (.Assign [.Tuple [.Name x px, .Name y py, .Name z pz] kt pt] (.Tuple [a, b, c] k2 pt2) pos) (tzS X.K m fun st => (f st).s fun vs st => match putAll st [i, j, l] vs with
    | some st => .nx st
    | none => .stuck) := (ps_asg (pe_tup ha) (pg_tup hc (pgs_cons (pg_name hN hi hx hfx) (pgs_cons (pg_name hN hj hy hfy) (pgs_cons (pg_name hN hl hz hfz) pgs_nil)))) hs hw).zm fun D σ H ⟨e, w, st, s, P⟩ => by
  refine ⟨e, w, st, s, (P.s s).mono fun vs st1 w1 H1 s1 t1 P1 xs rs => ?_⟩
  have hlen : xs.length = vs.length := rs.len
  have h2 : vs.length = 3 := by
    rcases vs with _ | ⟨v1, _ | ⟨v2, _ | ⟨v3, _ | ⟨v4, vs⟩⟩⟩⟩
    · exact P1.no.elim
    · exact P1.no.elim
    · exact P1.no.elim
    · rfl
    · exact P1.no.elim
  refine ⟨by rw [hlen, h2, ← line_eq]; decide, fun p n => ⟨p, xs, rfl, .of upd_same, by rw [hlen, h2]; rfl, ?_⟩⟩
  have rs := rs.step (Step.lay (o := .tup xs) s1 n)
  have s1 := s1.lay (o := .tup xs) n
  cases rs with
  | nil => exact P1.no.elim
  | cons r d n q =>
    cases q with
    | nil => exact P1.no.elim
    | cons r2 d2 n2 q2 =>
      cases q2 with
      | nil => exact P1.no.elim
      | cons r3 d3 n3 q3 =>
        cases q3 with
        | cons => exact P1.no.elim
        | nil =>
          have s2 := s1.put_v (i := i) r
          have n' : ∀ p d, _ = V.ref p → _ = Rv.o d → ∃ o, _ = some o := fun p d' e1 e2 => by
            obtain ⟨o, z⟩ := n p d' e1 e2
            exact d2 p o z
          have fin := P1.nx ((s2.put_v (r2.put s1.len n)).put_v ((r3.put s1.len n').put s2.len n2))
          exact ⟨_, _, rfl, (⟨_, _, rfl, (⟨_, _, rfl, ⟨rfl, fin⟩⟩ : gCons (gName l) gNil _ _ _ _)⟩ : gCons (gName j) (gCons (gName l) gNil) _ _ _ _)⟩
end
end ZZ

/-! ZR: the rules as they are printed. -/
namespace ZZ
open L2 PyProof.Rows PySem.Spec PySem

abbrev evP (G : Gm) (z : Z) : Ev Pd := fun st => pend z (evE G z st) st
abbrev evF (G : Gm) (z : Z) : Ev D := fun st => frz (evE G z st)
abbrev evT (G : Gm) (z : Z) : Ev Bool := fun st => tru (evE G z st)
abbrev evO (G : Gm) (z : Z) : Ev (Option Int) := fun st => partE z (evE G z st) st
section
theorem tru_cmp {G : Gm} {o : Cop} {a b : Z} : evT G (.cmp o a b) = fun st => (evP G a st).bind fun p st => (evP G b st).bind fun q st => match p.get st, q.get st with
    | some x, some y => lift (cmpD o x y) st
    | _, _ => .stuck := by
  funext st
  show tru (evE G (.cmp o a b) st) = _
  unfold evE evP
  cases pend a (evE G a st) st with
  | exc x st => rfl
  | stuck => rfl
  | ok p st1 =>
    simp only [Res.bind_ok]
    cases pend b (evE G b st1) st1 with
    | exc x st => rfl
    | stuck => rfl
    | ok q st2 =>
      simp only [Res.bind_ok]
      cases p.get st2 with
      | none => rfl
      | some x =>
        cases q.get st2 with
        | none => rfl
        | some y =>
          dsimp only
          cases cmpD o x y with
          | none => rfl
          | some k => rfl
theorem tru_cmp2 {G : Gm} {o o' : Cop} {a b c : Z} : evT G (.cmp2 o o' a b c) = fun st => (evF G a st).bind fun x st => (evF G b st).bind fun y st => (lift (cmpD o x y) st).bind fun k st =>
    if k = true then (evF G c st).bind fun z st => lift (cmpD o' y z) st else .ok false st := by
  funext st
  show tru (evE G (.cmp2 o o' a b c) st) = _
  unfold evE evF
  cases frz (evE G a st) with
  | exc x st => rfl
  | stuck => rfl
  | ok x st1 =>
    simp only [Res.bind_ok]
    cases frz (evE G b st1) with
    | exc x st => rfl
    | stuck => rfl
    | ok y st2 =>
      simp only [Res.bind_ok]
      cases cmpD o x y with
      | none => rfl
      | some k =>
        cases k with
        | false => rfl
        | true =>
          simp only [lift_some, Res.bind_ok, if_true]
          cases frz (evE G c st2) with
          | exc x st => rfl
          | stuck => rfl
          | ok z st3 =>
            simp only [Res.bind_ok]
            cases cmpD o' y z with
            | none => rfl
            | some k => rfl
theorem tru_not {G : Gm} {a : Z} : evT G (.not a) = fun st => (evT G a st).bind fun b st => .ok (!b) st := by
  funext st
  show tru (evE G (.not a) st) = _
  unfold evE evT
  cases tru (evE G a st) <;> rfl
theorem tru_and {G : Gm} {a b : Z} : evT G (.and a b) = fun st => (evT G a st).bind fun k st => if k = true then evT G b st else .ok false st := by
  funext st
  show tru (evE G (.and a b) st) = _
  unfold evE
  show _ = (tru (evE G a st)).bind _
  unfold tru
  cases frz (evE G a st) with
  | exc x st => rfl
  | stuck => rfl
  | ok x st1 =>
    simp only [Res.bind_ok]
    cases h : truD x with
    | none => rfl
    | some k =>
      cases k with
      | true => rfl
      | false =>
        simp only [lift_some, Res.bind_ok]
        show (lift (truD x) st1) = _
        rw [h]; rfl
theorem tru_or {G : Gm} {a b : Z} : evT G (.or a b) = fun st => (evT G a st).bind fun k st => if k = true then .ok true st else evT G b st := by
  funext st
  show tru (evE G (.or a b) st) = _
  unfold evE
  show _ = (tru (evE G a st)).bind _
  unfold tru
  cases frz (evE G a st) with
  | exc x st => rfl
  | stuck => rfl
  | ok x st1 =>
    simp only [Res.bind_ok]
    cases h : truD x with
    | none => rfl
    | some k =>
      cases k with
      | false => rfl
      | true =>
        simp only [lift_some, Res.bind_ok]
        show (lift (truD x) st1) = _
        rw [h]; rfl
end
section
variable {X : Cx} {m : Pm} {G : Gm} {a b c : Expr} {pos : Pos} {es : List Expr} {za zb zc : Z} {zs : List Z}
/-! constants, names -/
theorem e_int {i : Int} {k : Nat} : PE X (.Constant (.int i) k pos) (tz X.K m (evE G (.con (.int i)))) := ze_const pe_int fun w => .int i
theorem e_str {i : Str} {k : Nat} : PE X (.Constant (.str i) k pos) (tz X.K m (evE G (.con (.str i)))) := ze_const pe_str fun w => .str i
theorem e_bl {i : Bool} {k : Nat} : PE X (.Constant (.bool i) k pos) (tz X.K m (evE G (.con (.bl i)))) := ze_const pe_bl fun w => .bl i
theorem e_non {k : Nat} : PE X (.Constant .none k pos) (tz X.K m (evE G (.con .non))) := ze_const pe_non fun w => .non
theorem e_glo {x : Str} {d : D} {v : V} {u : Value} (hm : X.mg x = some u) (r : RelV v u) (hr : ∀ w, Rep X.K w v d) (hg : Gl X x := by rfl) (hd : (x == ("__debug__" : Str)) = false := by decide) : PE X (.Name x pos) (tz X.K m (evE G (.glo x d))) := ze_const (pe_glob hg hm r hd) hr
theorem e_gint {x : Str} {i : Int} (hm : ∃ t, X.mg x = some (.int i t)) (hg : Gl X x := by rfl) (hd : (x == ("__debug__" : Str)) = false := by decide) : PE X (.Name x pos) (tz X.K m (evE G (.glo x (.int i)))) := by
  obtain ⟨t, hm⟩ := hm
  exact e_glo (v := .int i) hm ⟨t, rfl⟩ (fun w => .int i) hg hd
theorem e_gstr {x : Str} {i : Str} (hm : ∃ t, X.mg x = some (.str i t)) (hg : Gl X x := by rfl) (hd : (x == ("__debug__" : Str)) = false := by decide) : PE X (.Name x pos) (tz X.K m (evE G (.glo x (.str i)))) := by
  obtain ⟨t, hm⟩ := hm
  exact e_glo (v := .str i) hm ⟨t, rfl⟩ (fun w => .str i) hg hd
theorem e_var {i : Nat} {x : Str} (hN : X.N[i]? = some x := by rfl) (hv : Vis X.env.scope x := by first | exact Or.inl rfl | exact Or.inr (Or.inl rfl) | exact Or.inr (Or.inr rfl)) (hd : (x == ("__debug__" : Str)) = false := by decide) (hcd : (x == ("__classdict__" : Str)) = false := by decide) :
    PE X (.Name x pos) (tz X.K m (evE G (.var i))) := ze_var hN hv hd hcd G
theorem o_var {i : Nat} {x : Str} (hN : X.N[i]? = some x := by rfl) (hv : Vis X.env.scope x := by first | exact Or.inl rfl | exact Or.inr (Or.inl rfl) | exact Or.inr (Or.inr rfl)) (hd : (x == ("__debug__" : Str)) = false := by decide) (hcd : (x == ("__classdict__" : Str)) = false := by decide) :
    PE X (.Name x pos) (tzP X.K m (evP G (.var i))) := zp_var (r := .stuck) hN hv hd hcd
theorem o_of (h : PE X a (tz X.K m (evE G za))) (hz : za.isVar = false := by rfl) : PE X a (tzP X.K m (evP G za)) := zp_of hz h
theorem f_of (h : PE X a (tz X.K m (evE G za))) : PE X a (tzF X.K m (evF G za)) := zf_of h
/-! operators -/
theorem e_bin {o : Op} (ha : PE X a (tzP X.K m (evP G za))) (hb : PE X b (tzP X.K m (evP G zb))) : PE X (.BinOp a (opOf o) b pos) (tz X.K m (evE G (.bin o za zb))) := ze_bin ha hb
theorem e_cmp {o : Cop} (hu : X.A.units + 65 < cLine) (ha : PE X a (tzP X.K m (evP G za))) (hb : PE X b (tzP X.K m (evP G zb))) (hm : behindInMarks (copOf o) b = false := by rfl) : PE X (.Compare a [copOf o] [b] pos) (tz X.K m (evE G (.cmp o za zb))) := ze_cmp hu ha hb hm
theorem t_cmp {o : Cop} (hu : X.A.units + 65 < cLine) (ha : PE X a (tzP X.K m (evP G za))) (hb : PE X b (tzP X.K m (evP G zb))) (hm : behindInMarks (copOf o) b = false := by rfl) : PT X (.Compare a [copOf o] [b] pos) (tzT X.K m (evT G (.cmp o za zb))) := by
  rw [tru_cmp]
  exact zt_cmp hu ha hb hm
theorem e_cmp2 {o o' : Cop} (hu : X.A.units + 65 < cLine) (ha : PE X a (tz X.K m (evE G za))) (hb : PE X b (tz X.K m (evE G zb))) (hc : PE X c (tz X.K m (evE G zc))) (hm : lastMarks [copOf o, copOf o'] [b, c] = false := by rfl) : PE X (.Compare a [copOf o, copOf o'] [b, c] pos) (tz X.K m (evE G (.cmp2 o o' za zb zc))) := ze_cmp2 hu (zf_of ha) (zf_of hb) (zf_of hc) hm
theorem t_cmp2 {o o' : Cop} (hu : X.A.units + 65 < cLine) (ha : PE X a (tz X.K m (evE G za))) (hb : PE X b (tz X.K m (evE G zb))) (hc : PE X c (tz X.K m (evE G zc))) (hm : lastMarks [copOf o, copOf o'] [b, c] = false := by rfl) : PT X (.Compare a [copOf o, copOf o'] [b, c] pos) (tzT X.K m (evT G (.cmp2 o o' za zb zc))) := by
  rw [tru_cmp2]
  exact zt_cmp2 hu (zf_of ha) (zf_of hb) (zf_of hc) hm
theorem t_val (h : PE X a (tz X.K m (evE G za))) (he : ∀ whole, isTrue a X.env whole = (do let v ← whole; standAt a.pos; holding [v] (truthy v)) := by intro _; rfl) : PT X a (tzT X.K m (evT G za)) := zt_val h he
theorem t_not (h : PT X a (tzT X.K m (evT G za))) : PT X (.UnaryOp .Not a pos) (tzT X.K m (evT G (.not za))) := by
  rw [tru_not]
  exact zt_not h
theorem w_and1 (h : PT X a (tzT X.K m (evT G za))) : PW X (.BoolOp .And [a] pos) (tzT X.K m (evT G za)) := pw_and1 h
theorem w_or1 (h : PT X a (tzT X.K m (evT G za))) : PW X (.BoolOp .Or [a] pos) (tzT X.K m (evT G za)) := pw_or1 h
theorem w_and {rest : List Expr} (h : PT X a (tzT X.K m (evT G za))) (k : PW X (.BoolOp .And (b :: rest) pos) (tzT X.K m (evT G zb))) : PW X (.BoolOp .And (a :: b :: rest) pos) (tzT X.K m (evT G (.and za zb))) := by
  rw [tru_and]
  exact zw_and h k
theorem w_or {rest : List Expr} (h : PT X a (tzT X.K m (evT G za))) (k : PW X (.BoolOp .Or (b :: rest) pos) (tzT X.K m (evT G zb))) : PW X (.BoolOp .Or (a :: b :: rest) pos) (tzT X.K m (evT G (.or za zb))) := by
  rw [tru_or]
  exact zw_or h k
theorem t_pw {e : Expr} (h : PW X e (tzT X.K m (evT G za))) : PT X e (tzT X.K m (evT G za)) := h.pt
theorem e_one {op : BoolOp} (h : PE X a (tz X.K m (evE G za))) : PE X (.BoolOp op [a] pos) (tz X.K m (evE G za)) := ze_one h
theorem e_and {rest : List Expr} (h : PE X a (tz X.K m (evE G za))) (k : PE X (.BoolOp .And (b :: rest) pos) (tz X.K m (evE G zb))) : PE X (.BoolOp .And (a :: b :: rest) pos) (tz X.K m (evE G (.and za zb))) := ze_and (zf_of h) k
theorem e_or {rest : List Expr} (h : PE X a (tz X.K m (evE G za))) (k : PE X (.BoolOp .Or (b :: rest) pos) (tz X.K m (evE G zb))) : PE X (.BoolOp .Or (a :: b :: rest) pos) (tz X.K m (evE G (.or za zb))) := ze_or (zf_of h) k
theorem e_not (h : PE X a (tz X.K m (evE G za))) : PE X (.UnaryOp .Not a pos) (tz X.K m (evE G (.not za))) := ze_not h
theorem e_neg (h : PE X a (tz X.K m (evE G za))) : PE X (.UnaryOp .USub a pos) (tz X.K m (evE G (.neg za))) := ze_neg (zf_of h)
theorem e_ife (hc : PT X c (tzT X.K m (evT G zc))) (ha : PE X a (tz X.K m (evE G za))) (hb : PE X b (tz X.K m (evE G zb))) : PE X (.IfExp c a b pos) (tz X.K m (evE G (.ife zc za zb))) := ze_ife hc ha hb
/-! rows of expressions -/
theorem a_nil : PA X [] (tzA X.K m (evEs G [])) := za_nil
theorem a_cons (h : PE X a (tz X.K m (evE G za))) (k : PA X es (tzA X.K m (evEs G zs))) (hs : notStar a = true := by rfl) : PA X (a :: es) (tzA X.K m (evEs G (za :: zs))) := za_cons (zf_of h) k (star_cons hs)
theorem b_nil : PA X [] (tzPs X.K m (evPs G [])) := zb_nil
theorem b_cons (h : PE X a (tzP X.K m (evP G za))) (k : PA X es (tzPs X.K m (evPs G zs))) (hs : notStar a = true := by rfl) : PA X (a :: es) (tzPs X.K m (evPs G (za :: zs))) := zb_cons h k (star_cons hs)
theorem r_nil : PA X [] (tzRs X.K m (evRs G [])) := zr_nil
theorem r_cons (h : PE X a (tz X.K m (evE G za))) (k : PA X es (tzRs X.K m (evRs G zs))) (hs : notStar a = true := by rfl) : PA X (a :: es) (tzRs X.K m (evRs G (za :: zs))) := zr_cons h k (star_cons hs)
theorem e_tup {k : Nat} (h : PA X es (tzA X.K m (evEs G zs))) : PE X (.Tuple es k pos) (tz X.K m (evE G (.tup zs))) := ze_tup h
theorem e_lst (h : PA X es (tzA X.K m (evEs G zs))) : PE X (.List es pos) (tz X.K m (evE G (.lst zs))) := ze_lst h
theorem e_idx (ha : PE X a (tzP X.K m (evP G za))) (hb : PE X b (tzP X.K m (evP G zb))) (hs : PlainIx b := by intro _ _; rfl) : PE X (.Subscript a b pos) (tz X.K m (evE G (.idx za zb))) := ze_idx ha hb hs
theorem o_none : PO X none (tzO X.K m (evO G (.con .non))) := zo_none
def Z.isNon : Z → Bool
  | .con .non => true
  | _ => false
theorem part_not {z : Z} (h : z.isNon = false) (r : Res Rv) (st : S) : partE z r st = (frz r).bind fun d st => match d with
    | .int i => .ok (some i) st
    | _ => .stuck := by
  cases z with
  | con d => cases d <;> first | (cases h; done) | rfl
  | _ => rfl
theorem o_some (h : PE X a (tz X.K m (evE G za))) (hz : za.isNon = false := by rfl) : PO X (some a) (tzO X.K m (evO G za)) := by
  have e : evO G za = fun st => (evF G za st).bind fun d st => match d with
    | .int i => .ok (some i) st
    | _ => .stuck := by
    funext st
    exact part_not hz _ _
  rw [e]
  exact zo_some (zf_of h)
theorem e_sli {lo hi : Option Expr} {p2 : Pos} (ha : PE X a (tzP X.K m (evP G za))) (hl : PO X lo (tzO X.K m (evO G zb))) (hh : PO X hi (tzO X.K m (evO G zc))) : PE X (.Subscript a (.Slice lo hi none p2) pos) (tz X.K m (evE G (.sli za zb zc))) := ze_sli ha hl hh
theorem e_fn {e : Expr} {f : Fn} {x : Str} {p : Pos} (hm : X.mg x = none) (ha : PA X (e :: es) (tzPs X.K m (evPs G zs))) (hv : bootBuiltins x = some (fnVal f) := by rfl) (hg : Gl X x := by rfl) (hc : X.calm = true := by rfl) (hn : x ≠ "__name__" := by decide) (hdb : (x == ("__debug__" : Str)) = false := by decide)
    (hs : notStar e = true := by rfl) (hs2 : es.all notStar = true := by rfl) : PE X (.Call (.Name x p) (e :: es) [] pos) (tz X.K m (evE G (.fn f zs))) := ze_fn hc hg hm hv ha hn hdb (star_cons hs) (star_any hs2)
theorem e_fx {e : Expr} {f : Fx} {x : Str} {p : Pos} (hu : X.A.units + 65 < cLine) (hm : X.mg x = none) (ha : PA X (e :: es) (tzPs X.K m (evPs G zs))) (hv : bootBuiltins x = some (fxVal f) := by rfl) (hg : Gl X x := by rfl) (hc : X.calm = true := by rfl) (hn : x ≠ "__name__" := by decide) (hdb : (x == ("__debug__" : Str)) = false := by decide)
    (hs : notStar e = true := by rfl) (hs2 : es.all notStar = true := by rfl) : PE X (.Call (.Name x p) (e :: es) [] pos) (tz X.K m (evE G (.fx f zs))) := ze_fx hc hu hg hm hv ha hn hdb (star_cons hs) (star_any hs2)
theorem e_rev {k : Nat} {p1 p2 p3 : Pos} (h : PE X a (tz X.K m (evE G za))) : PE X (.Subscript a (.Slice none none (some (.UnaryOp .USub (.Constant (.int 1) k p1) p2)) p3) pos) (tz X.K m (evE G (.rev za))) := ze_rev (zf_of h)
theorem e_lrg1 {tu : Bool} {x : Str} {p p2 pos2 : Pos} (hml : X.mg x = none) (hm : X.mg "range" = none) (ha : PE X a (tz X.K m (evE G za))) (hx : x = (if tu = true then ("tuple" : Str) else "list") := by rfl) (hgl : Gl X x := by rfl) (hg : Gl X "range" := by rfl) (hc : X.calm = true := by rfl) (hs : notStar a = true := by rfl) :
    PE X (.Call (.Name x p) [.Call (.Name "range" p2) [a] [] pos2] [] pos) (tz X.K m (evE G (.lrg tu [za]))) := ze_lrg1 (f := evEs G [za]) hc hx hgl hml hg hm (zf_of ha) rfl hs
theorem e_lrg2 {tu : Bool} {x : Str} {p p2 pos2 : Pos} (hml : X.mg x = none) (hm : X.mg "range" = none) (ha : PE X a (tz X.K m (evE G za))) (hb : PE X b (tz X.K m (evE G zb))) (hx : x = (if tu = true then ("tuple" : Str) else "list") := by rfl) (hgl : Gl X x := by rfl) (hg : Gl X "range" := by rfl) (hc : X.calm = true := by rfl) (hs : notStar a = true := by rfl) (hs2 : notStar b = true := by rfl) :
    PE X (.Call (.Name x p) [.Call (.Name "range" p2) [a, b] [] pos2] [] pos) (tz X.K m (evE G (.lrg tu [za, zb]))) := ze_lrg2 (f := evEs G [za, zb]) hc hx hgl hml hg hm (zf_of ha) (zf_of hb) (by
      funext st
      show (frz (evE G za st)).bind _ = (frz (evE G za st)).bind _
      congr 1
      funext d st1
      show ((frz (evE G zb st1)).bind fun d st => (Res.ok [] st).bind fun ds st => .ok (d :: ds) st).bind (fun ds st => .ok (d :: ds) st) = _
      cases frz (evE G zb st1) <;> rfl) hs hs2
theorem e_pop {i : Nat} {x : Str} {p1 apos cpos : Pos} (hN : X.N[i]? = some x := by rfl) (hv : Vis X.env.scope x := by first | exact Or.inl rfl | exact Or.inr (Or.inl rfl) | exact Or.inr (Or.inr rfl)) (hd : (x == ("__debug__" : Str)) = false := by decide) (hcd : (x == ("__classdict__" : Str)) = false := by decide) (hline : (apos.endLine == cpos.line) = true := by rfl) :
    PE X (.Call (.Attribute (.Name x p1) "pop" apos) [] [] cpos) (tz X.K m (evE G (.pop i))) := ze_pop hN hv hd hcd hline
theorem e_popa {i : Nat} {x : Str} {p1 apos cpos : Pos} (h : PE X a (tz X.K m (evE G za))) (hN : X.N[i]? = some x := by rfl) (hv : Vis X.env.scope x := by first | exact Or.inl rfl | exact Or.inr (Or.inl rfl) | exact Or.inr (Or.inr rfl)) (hd : (x == ("__debug__" : Str)) = false := by decide) (hcd : (x == ("__classdict__" : Str)) = false := by decide) (hn : notStar a = true := by rfl) (hline : (apos.endLine == cpos.line) = true := by rfl) :
    PE X (.Call (.Attribute (.Name x p1) "pop" apos) [a] [] cpos) (tz X.K m (evE G (.popa i za))) := ze_popa hN hv hd hcd (zf_of h) hn hline
end
end ZZ

/-! ZS: the rules as they are printed: calls, comprehensions, statements. -/
namespace ZZ
open L2 PyProof.Rows PySem.Spec PySem

theorem evEs_len {G : Gm} : ∀ {zs : List Z} {st st' : S} {ds : List D}, evEs G zs st = .ok ds st' → ds.length = zs.length
  | [], st, st', ds, h => by
    have h : (Res.ok [] st : Res (List D)) = .ok ds st' := h
    cases h; rfl
  | z :: zs, st, st', ds, h => by
    have h : (frz (evE G z st)).bind (fun d st => (evEs G zs st).bind fun ds st => .ok (d :: ds) st) = .ok ds st' := h
    cases h1 : frz (evE G z st) with
    | exc x st => rw [h1] at h; cases h
    | stuck => rw [h1] at h; cases h
    | ok d st1 =>
      rw [h1] at h
      have h : (evEs G zs st1).bind (fun ds st => .ok (d :: ds) st) = .ok ds st' := h
      cases h2 : evEs G zs st1 with
      | exc x st => rw [h2] at h; cases h
      | stuck => rw [h2] at h; cases h
      | ok ds2 st2 =>
        rw [h2] at h
        cases h
        rw [List.length_cons, List.length_cons, evEs_len h2]
/-- every def of the table may be called -/
def AllC (T : List (Addr × Str)) (P : Program) (w : World) (K : Frag) (mg : Str → Option Value) (base : Heap) (Tb : List Df) (G : Gm) (k : Nat) : Prop :=
  ∀ i d, Tb[i]? = some d → CalZ T P w K mg base (xtZ mg) k d.name (G.cal i) d.ps
section
variable {X : Cx} {m : Pm} {G : Gm} {a b c tg iter elt : Expr} {pos : Pos} {es : List Expr} {za zb zc : Z} {zs : List Z}
theorem e_call {Tb : List Df} {k j i : Nat} {d : Df} {x : Str} {p : Pos} (hC : AllC m.ix.T X.prog X.w X.K X.mg X.base Tb G k) (hr : Room j X.A) (hk : k ≤ j) (tk : Takes X m.wx) (ha : PA X (a :: es) (tzA X.K m (evEs G zs))) (hi : Tb[i]? = some d := by rfl) (hx : d.name = x := by rfl) (hm : m.X = xtZ X.mg := by rfl)
    (hg : Gl X x := by rfl) (hn : zs.length = d.ps := by rfl) (he : (a :: es).length = d.ps := by rfl) (hdb : (x == ("__debug__" : Str)) = false := by decide) (hs : notStar a = true := by rfl) (hs2 : es.all notStar = true := by rfl) :
    PE X (.Call (.Name x p) (a :: es) [] pos) (tz X.K m (evE G (.call i zs))) := by
  subst hx
  have C := hC i d hi
  rw [← hm] at C
  exact ze_call C hr hk tk hg ha he (fun st ds st' h => (evEs_len h).trans hn) hdb (star_cons hs) (star_any hs2)
theorem e_isi {cl : Cl} {p q : Pos} (hm : X.mg "isinstance" = none) (hmx : X.mg (clTy cl) = none) (ha : PE X a (tz X.K m (evE G za))) (hc : X.calm = true := by rfl) (hg : Gl X "isinstance" := by rfl) (hgx : Gl X (clTy cl) := by rfl) (hs : notStar a = true := by rfl) :
    PE X (.Call (.Name "isinstance" p) [a, .Name (clTy cl) q] [] pos) (tz X.K m (evE G (.isi za cl))) := ze_isi hc hg hm hgx hmx (zf_of ha) hs
theorem e_isi2 {cl cl' : Cl} {p q q' pt : Pos} {k : Nat} (hm : X.mg "isinstance" = none) (hmx : X.mg (clTy cl) = none) (hmy : X.mg (clTy cl') = none) (ha : PE X a (tz X.K m (evE G za))) (hc : X.calm = true := by rfl) (hg : Gl X "isinstance" := by rfl) (hgx : Gl X (clTy cl) := by rfl) (hgy : Gl X (clTy cl') := by rfl) (hs : notStar a = true := by rfl) :
    PE X (.Call (.Name "isinstance" p) [a, .Tuple [.Name (clTy cl) q, .Name (clTy cl') q'] k pt] [] pos) (tz X.K m (evE G (.isi2 za cl cl'))) := ze_isi2 hc hg hm hgx hmx hgy hmy (zf_of ha) hs
theorem e_index {apos : Pos} (ha : PE X a (tzP X.K m (evP G za))) (hb : PA X [b] (tzPs X.K m (evPs G zs))) (hba : attributeBase a "index" X.env (eval a X.env) = eval a X.env := by rfl) (hl : (apos.endLine == pos.line) = true := by rfl) (hs : notStar b = true := by rfl) :
    PE X (.Call (.Attribute a "index" apos) [b] [] pos) (tz X.K m (evE G (.mt .index za zs))) :=
  ze_mt (fun h1 h2 => pe_bm PySem.F.plainAttrs_list PySem.F.slot_list_index PySem.F.type_list_index mt_index h1 h2 hba (few_one hs) hl (star_cons hs) rfl) ha hb
theorem e_count {apos : Pos} (ha : PE X a (tzP X.K m (evP G za))) (hb : PA X [b] (tzPs X.K m (evPs G zs))) (hba : attributeBase a "count" X.env (eval a X.env) = eval a X.env := by rfl) (hl : (apos.endLine == pos.line) = true := by rfl) (hs : notStar b = true := by rfl) :
    PE X (.Call (.Attribute a "count" apos) [b] [] pos) (tz X.K m (evE G (.mt .count za zs))) :=
  ze_mt (fun h1 h2 => pe_bm PySem.F.plainAttrs_list PySem.F.slot_list_count PySem.F.type_list_count mt_cntF h1 h2 hba (few_one hs) hl (star_cons hs) rfl) ha hb
theorem e_join {apos : Pos} (ha : PE X a (tzP X.K m (evP G za))) (hb : PA X [b] (tzPs X.K m (evPs G zs))) (hba : attributeBase a "join" X.env (eval a X.env) = eval a X.env := by rfl) (hl : (apos.endLine == pos.line) = true := by rfl) (hs : notStar b = true := by rfl) :
    PE X (.Call (.Attribute a "join" apos) [b] [] pos) (tz X.K m (evE G (.mt .join za zs))) :=
  ze_mt (fun h1 h2 => pe_bm PySem.F.plainAttrs_str PySem.F.slot_str_join PySem.F.type_str_join mt_join h1 h2 hba (few_one hs) hl (star_cons hs) rfl) ha hb
/-! what is gone over -/
abbrev evI (G : Gm) (k : Ik) (zs : List Z) : Ev (List D) := fun st => iterE k (evEs G zs st)
theorem i_val (h : PE X a (tz X.K m (evE G za))) : PI X tg a (tzI X.K m (evI G .val [za])) := zi_val (zf_of h)
theorem i_rng1 {p : Pos} (hm : X.mg "range" = none) (h : PA X [a] (tzA X.K m (evEs G zs))) (hg : Gl X "range" := by rfl) (hs : notStar a = true := by rfl) : PI X tg (.Call (.Name "range" p) [a] [] pos) (tzI X.K m (evI G .rng1 zs)) := zi_rng1 hg hm h hs
theorem i_rng2 {p : Pos} (hm : X.mg "range" = none) (h : PA X [a, b] (tzA X.K m (evEs G zs))) (hg : Gl X "range" := by rfl) (hs : notStar a = true := by rfl) (hs2 : notStar b = true := by rfl) : PI X tg (.Call (.Name "range" p) [a, b] [] pos) (tzI X.K m (evI G .rng2 zs)) := zi_rng2 hg hm h hs hs2
theorem i_enum {elts : List Expr} {kk : Nat} {p tpos : Pos} (hm : X.mg "enumerate" = none) (h : PA X [a] (tzA X.K m (evEs G zs))) (hg : Gl X "enumerate" := by rfl) (hs : notStar a = true := by rfl) : PI X (.Tuple elts kk tpos) (.Call (.Name "enumerate" p) [a] [] pos) (tzI X.K m (evI G .enum zs)) := zi_enum hg hm h hs
theorem i_zip {elts : List Expr} {kk : Nat} {p tpos : Pos} (hm : X.mg "zip" = none) (h : PA X [a, b] (tzA X.K m (evEs G zs))) (hg : Gl X "zip" := by rfl) (hs : notStar a = true := by rfl) (hs2 : notStar b = true := by rfl) : PI X (.Tuple elts kk tpos) (.Call (.Name "zip" p) [a, b] [] pos) (tzI X.K m (evI G .zip zs)) := zi_zip hg hm h hs hs2
/-! targets -/
theorem g_nm {i : Nat} {x : Str} (hN : X.N.Nodup) (hi : X.N[i]? = some x := by rfl) (hx : Loc X.env.scope x := by first | exact Or.inl rfl | exact Or.inr rfl) (hf : X.fn x = true ∨ X.env.scope.names.lookup x = some .local := by first | exact Or.inl rfl | exact Or.inr rfl) : PG X (.Name x pos) (tzG X.K m.ix (.nm i)) := zg_nm hN hi hx hf
theorem gs_nil : PGs X [] (tzGs X.K m.ix []) := zgs_nil
theorem gs_cons {t : Tg} {ts : List Tg} (h : PG X a (tzG X.K m.ix t)) (k : PGs X es (tzGs X.K m.ix ts)) (hs : (assignEach (a :: es) X.env).map (·.2) = assign a X.env :: (assignEach es X.env).map (·.2) := by rfl) : PGs X (a :: es) (tzGs X.K m.ix (t :: ts)) := zgs_cons h k hs
theorem g_tp {k : Nat} {ts : List Tg} (h : PGs X es (tzGs X.K m.ix ts)) (hc : X.calm = true := by rfl) (hn : (assignEach es X.env).length = ts.length := by rfl) (hst : (assignEach es X.env).findIdx? (·.1) = none := by rfl) : PG X (.Tuple es k pos) (tzG X.K m.ix (.tp ts)) := zg_tp hc h hn hst
/-! comprehensions -/
theorem ev_lc0 {k : Ik} {t : Tg} {ow : List Nat} : evE G (.lc ow t k zs none za) = fun st => (evI G k zs st).bind fun ds st => match lcRun ow t (fun st => .ok true st) (evF G za) ds [] st with
    | some (l, st') => .ok (.o (.lst l)) (unwipe st.sl st' ow)
    | none => .stuck := by
  funext st
  show evE G (.lc ow t k zs none za) st = _
  unfold evE
  rfl
theorem ev_lc1 {k : Ik} {t : Tg} {ow : List Nat} : evE G (.lc ow t k zs (some zc) za) = fun st => (evI G k zs st).bind fun ds st => match lcRun ow t (evT G zc) (evF G za) ds [] st with
    | some (l, st') => .ok (.o (.lst l)) (unwipe st.sl st' ow)
    | none => .stuck := by
  funext st
  show evE G (.lc ow t k zs (some zc) za) st = _
  unfold evE
  rfl
theorem ev_set {i : Nat} {z : Z} : evS G (.set i z) = fun st => (evE G z st).s fun v st => .nx (st.put i v.slot) := by
  funext st
  show evS G (.set i z) st = _
  unfold evS
  rfl
abbrev evLc (G : Gm) (own : List Nat) (t : Tg) (k : Ik) (zs : List Z) (zi : Option Z) (ze : Z) : Ev Rv := evE G (.lc own t k zs zi ze)
theorem e_lc0 {k : Ik} {t : Tg} {ow : List Nat} {scope : Scope} (ow_ : List (Str × Nat)) (hN : X.N.Nodup) (hi : PI X tg iter (tzI X.K m (evI G k zs)))
    (hg : ∀ (s : Shared) (H : Hp) (C : Addr) (cl : List (Str × Addr)) (fp : List Addr), PG (X.blk s H scope (compEnvC scope cl C X.env) fp) tg (tzG X.K m.ix t))
    (he : ∀ (s : Shared) (H : Hp) (C : Addr) (cl : List (Str × Addr)) (fp : List Addr), PE (X.blk s H scope (compEnvC scope cl C X.env) fp) elt (tz X.K m.dry (evE G za))) (ho : ow_.map (·.2) = ow := by rfl) (ok : blkC X.N X.env.scope scope ow_ = true := by rfl) (hv : ∀ i ∈ t.at_, i ∈ ow := by decide) (hc : X.calm = true := by rfl) (hs : ∀ x, foldedSetIterable iter X.env x = pure x := by intro _; rfl) :
    PE X (.ListComp elt [⟨tg, iter, [], 0⟩] scope pos) (tz X.K m (evE G (.lc ow t k zs none za))) := by
  subst ho
  rw [ev_lc0]
  exact ze_lc hc hN hi ok hg (fun _ _ _ _ _ => pts_nil) tt_none (fun s H C cl fp => zf_of (he s H C cl fp)) hv hs
theorem e_lc1 {k : Ik} {t : Tg} {ow : List Nat} {scope : Scope} (ow_ : List (Str × Nat)) (hN : X.N.Nodup) (hi : PI X tg iter (tzI X.K m (evI G k zs)))
    (hg : ∀ (s : Shared) (H : Hp) (C : Addr) (cl : List (Str × Addr)) (fp : List Addr), PG (X.blk s H scope (compEnvC scope cl C X.env) fp) tg (tzG X.K m.ix t))
    (ht : ∀ (s : Shared) (H : Hp) (C : Addr) (cl : List (Str × Addr)) (fp : List Addr), PT (X.blk s H scope (compEnvC scope cl C X.env) fp) c (tzT X.K m.dry (evT G zc)))
    (he : ∀ (s : Shared) (H : Hp) (C : Addr) (cl : List (Str × Addr)) (fp : List Addr), PE (X.blk s H scope (compEnvC scope cl C X.env) fp) elt (tz X.K m.dry (evE G za))) (ho : ow_.map (·.2) = ow := by rfl) (ok : blkC X.N X.env.scope scope ow_ = true := by rfl) (hv : ∀ i ∈ t.at_, i ∈ ow := by decide) (hc : X.calm = true := by rfl) (hs : ∀ x, foldedSetIterable iter X.env x = pure x := by intro _; rfl) :
    PE X (.ListComp elt [⟨tg, iter, [c], 0⟩] scope pos) (tz X.K m (evE G (.lc ow t k zs (some zc) za))) := by
  subst ho
  rw [ev_lc1]
  exact ze_lc (tt := tzT X.K m.dry (evT G zc)) hc hN hi ok hg (fun s H C cl fp => pts_one (ht s H C cl fp)) (fun _ _ _ h => h) (fun s H C cl fp => zf_of (he s H C cl fp)) hv hs
theorem s_lc0 {i : Nat} {y : Str} {py spos : Pos} {k : Ik} {t : Tg} {ow : List Nat} {scope : Scope} (ow_ : List (Str × Nat)) (hN : X.N.Nodup) (hi : PI X tg iter (tzI X.K m (evI G k zs)))
    (hg : ∀ (s : Shared) (H : Hp) (C : Addr) (cl : List (Str × Addr)) (fp : List Addr), PG (X.blk s H scope (compEnvC scope cl C X.env) fp) tg (tzG X.K m.ix t))
    (he : ∀ (s : Shared) (H : Hp) (C : Addr) (cl : List (Str × Addr)) (fp : List Addr), PE (X.blk s H scope (compEnvC scope cl C X.env) fp) elt (tz X.K m.dry (evE G za))) (hy : X.N[i]? = some y := by rfl) (hyl : X.env.scope.names.lookup y = some .local := by rfl)
    (hsw : swapsWith (.ListComp elt [⟨tg, iter, [], 0⟩] scope pos) (some (.Name y py)) spos.line X.env = pure true := by rfl) (ho : ow_.map (·.2) = ow := by rfl) (ok : blkC X.N X.env.scope scope ow_ = true := by rfl) (hv : ∀ i ∈ t.at_, i ∈ ow := by decide) (hc : X.calm = true := by rfl) (hs : ∀ x, foldedSetIterable iter X.env x = pure x := by intro _; rfl) :
    PS X (.Assign [.Name y py] (.ListComp elt [⟨tg, iter, [], 0⟩] scope pos) spos) (tzS X.K m (evS G (.set i (.lc ow t k zs none za)))) := by
  subst ho
  rw [ev_set, ev_lc0]
  exact zs_setlc hc hN hy hyl hsw hi ok hg (fun _ _ _ _ _ => pts_nil) tt_none (fun s H C cl fp => zf_of (he s H C cl fp)) hv hs
theorem s_lc1 {i : Nat} {y : Str} {py spos : Pos} {k : Ik} {t : Tg} {ow : List Nat} {scope : Scope} (ow_ : List (Str × Nat)) (hN : X.N.Nodup) (hi : PI X tg iter (tzI X.K m (evI G k zs)))
    (hg : ∀ (s : Shared) (H : Hp) (C : Addr) (cl : List (Str × Addr)) (fp : List Addr), PG (X.blk s H scope (compEnvC scope cl C X.env) fp) tg (tzG X.K m.ix t))
    (ht : ∀ (s : Shared) (H : Hp) (C : Addr) (cl : List (Str × Addr)) (fp : List Addr), PT (X.blk s H scope (compEnvC scope cl C X.env) fp) c (tzT X.K m.dry (evT G zc)))
    (he : ∀ (s : Shared) (H : Hp) (C : Addr) (cl : List (Str × Addr)) (fp : List Addr), PE (X.blk s H scope (compEnvC scope cl C X.env) fp) elt (tz X.K m.dry (evE G za))) (hy : X.N[i]? = some y := by rfl) (hyl : X.env.scope.names.lookup y = some .local := by rfl)
    (hsw : swapsWith (.ListComp elt [⟨tg, iter, [c], 0⟩] scope pos) (some (.Name y py)) spos.line X.env = pure true := by rfl) (ho : ow_.map (·.2) = ow := by rfl) (ok : blkC X.N X.env.scope scope ow_ = true := by rfl) (hv : ∀ i ∈ t.at_, i ∈ ow := by decide) (hc : X.calm = true := by rfl) (hs : ∀ x, foldedSetIterable iter X.env x = pure x := by intro _; rfl) :
    PS X (.Assign [.Name y py] (.ListComp elt [⟨tg, iter, [c], 0⟩] scope pos) spos) (tzS X.K m (evS G (.set i (.lc ow t k zs (some zc) za)))) := by
  subst ho
  rw [ev_set, ev_lc1]
  exact zs_setlc (tt := tzT X.K m.dry (evT G zc)) hc hN hy hyl hsw hi ok hg (fun s H C cl fp => pts_one (ht s H C cl fp)) (fun _ _ _ h => h) (fun s H C cl fp => zf_of (he s H C cl fp)) hv hs
end
section
variable {X : Cx} {m : Pm} {G : Gm} {a b c tg iter elt : Expr} {pos : Pos} {es : List Expr} {za zb zc : Z} {zs : List Z} {s : Stmt} {ss t e : List Stmt} {y : ZS} {ys ys' : List ZS}
/-! dict displays -/
theorem k_nil : PPz X m pos [] [] (evEs G []) := zk_nil
theorem k_cons {k v : Expr} {ks : List (Option Expr)} {vs : List Expr} (hk : PE X k (tz X.K m (evE G za))) (hv : PE X v (tz X.K m (evE G zb))) (hr : PPz X m pos ks vs (evEs G zs)) : PPz X m pos (some k :: ks) (v :: vs) (evEs G (za :: zb :: zs)) := zk_cons (zf_of hk) (zf_of hv) hr
theorem e_dic {keys : List (Option Expr)} {values : List Expr} (h : PPz X m pos keys values (evEs G zs)) (h0 : keys ≠ [] := by exact List.cons_ne_nil _ _) (h15 : keys.length ≤ 15 := by decide) : PE X (.Dict keys values pos) (tz X.K m (evE G (.dic zs))) := ze_dic h h0 h15
theorem e_dic0 : PE X (.Dict [] [] pos) (tz X.K m (evE G (.dic []))) := ze_dic0
/-! statements -/
theorem s_nil : PSs X [] (tzS X.K m (evSs G [])) := zs_nil
theorem s_cons (h : PS X s (tzS X.K m (evS G y))) (k : PSs X ss (tzS X.K m (evSs G ys))) : PSs X (s :: ss) (tzS X.K m (evSs G (y :: ys))) := zs_cons h k
theorem s_ex (h : PE X a (tz X.K m (evE G za))) (hs : swapsWith a none pos.line X.env = pure false := by rfl) : PS X (.Expr a pos) (tzS X.K m (evS G (.ex za))) := zs_expr h hs
theorem s_set {i : Nat} {x : Str} {pos' : Pos} (hN : X.N.Nodup) (h : PE X a (tz X.K m (evE G za))) (hi : X.N[i]? = some x := by rfl) (hx : Loc X.env.scope x := by first | exact Or.inl rfl | exact Or.inr rfl) (hs : swapsWith a (some (.Name x pos')) pos.line X.env = pure false := by rfl)
    (hf : X.fn x = true ∨ X.env.scope.names.lookup x = some .local := by first | exact Or.inl rfl | exact Or.inr rfl) : PS X (.Assign [.Name x pos'] a pos) (tzS X.K m (evS G (.set i za))) := zs_set hN hi hx h hs hf
theorem s_hnd {i : Nat} {x : Str} {pos' : Pos} (hN : X.N.Nodup) (h : PE X a (tz X.K m (evE G za))) (hi : X.N[i]? = some x := by rfl) (hx : Loc X.env.scope x := by first | exact Or.inl rfl | exact Or.inr rfl) (hs : swapsWith a (some (.Name x pos')) pos.line X.env = pure false := by rfl)
    (hf : X.fn x = true ∨ X.env.scope.names.lookup x = some .local := by first | exact Or.inl rfl | exact Or.inr rfl) : PS X (.Assign [.Name x pos'] a pos) (tzS X.K m (evS G (.hnd i za))) := zs_hnd hN hi hx h hs hf
theorem s_sett {l : List Tg} (h : PE X a (tz X.K m (evE G za))) (hg : PG X tg (tzG X.K m.ix (.tp l))) (hs : swapsWithSole [tg] a pos.line X.env = pure false := by rfl) (hw : swappedStores [tg] a X.env = pure none := by rfl) (h1 : (assignEach [tg] X.env).map (·.2) = [assign tg X.env] := by rfl) :
    PS X (.Assign [tg] a pos) (tzS X.K m (evS G (.sett l za))) := zs_sett h hg hs hw h1
theorem s_par2 {i j : Nat} {x y : Str} {px py pt : Pos} {kt k2 pt2} (hN : X.N.Nodup) (ha : PA X [a, b] (tzRs X.K m (evRs G zs))) (hi : X.N[i]? = some x := by rfl) (hj : X.N[j]? = some y := by rfl) (hij : i ≠ j := by decide) (hx : X.env.scope.names.lookup x = some .local := by rfl) (hy : X.env.scope.names.lookup y = some .local := by rfl)
    (hw : swappedStores [.Tuple [.Name x px, .Name y py] kt pt] (.Tuple [a, b] k2 pt2) X.env = pure (some [x, y]) := by rfl) (hs : swapsWithSole [.Tuple [.Name x px, .Name y py] kt pt] (.Tuple [a, b] k2 pt2) pos.line X.env = pure false := by rfl) (hc : X.calm = true := by rfl) :
    PS X (.Assign [.Tuple [.Name x px, .Name y py] kt pt] (.Tuple [a, b] k2 pt2) pos) (tzS X.K m (evS G (.par [i, j] zs))) := zs_par2 hc hN hi hj hij hx hy ha hw hs
theorem s_par3 {i j l : Nat} {x y z : Str} {px py pz pt : Pos} {kt k2 pt2} (hN : X.N.Nodup) (ha : PA X [a, b, c] (tzRs X.K m (evRs G zs))) (hi : X.N[i]? = some x := by rfl) (hj : X.N[j]? = some y := by rfl) (hl : X.N[l]? = some z := by rfl) (hij : i ≠ j := by decide) (hil : i ≠ l := by decide) (hjl : j ≠ l := by decide)
    (hx : X.env.scope.names.lookup x = some .local := by rfl) (hy : X.env.scope.names.lookup y = some .local := by rfl) (hz : X.env.scope.names.lookup z = some .local := by rfl)
    (hw : swappedStores [.Tuple [.Name x px, .Name y py, .Name z pz] kt pt] (.Tuple [a, b, c] k2 pt2) X.env = pure (some [x, y, z]) := by rfl) (hs : swapsWithSole [.Tuple [.Name x px, .Name y py, .Name z pz] kt pt] (.Tuple [a, b, c] k2 pt2) pos.line X.env = pure false := by rfl) (hc : X.calm = true := by rfl) :
    PS X (.Assign [.Tuple [.Name x px, .Name y py, .Name z pz] kt pt] (.Tuple [a, b, c] k2 pt2) pos) (tzS X.K m (evS G (.par [i, j, l] zs))) := zs_par3 hc hN hi hj hl hij hil hjl hx hy hz ha hw hs
theorem s_parT2 {i j : Nat} {x y : Str} {px py pt : Pos} {kt k2 pt2} (hN : X.N.Nodup) (ha : PA X [a, b] (tzRs X.K m (evRs G zs))) (hi : X.N[i]? = some x := by rfl) (hj : X.N[j]? = some y := by rfl) (hx : Loc X.env.scope x := by first | exact Or.inl rfl | exact Or.inr rfl) (hy : Loc X.env.scope y := by first | exact Or.inl rfl | exact Or.inr rfl)
    (hfx : X.fn x = true ∨ X.env.scope.names.lookup x = some .local := by first | exact Or.inl rfl | exact Or.inr rfl) (hfy : X.fn y = true ∨ X.env.scope.names.lookup y = some .local := by first | exact Or.inl rfl | exact Or.inr rfl)
    (hw : swappedStores [.Tuple [.Name x px, .Name y py] kt pt] (.Tuple [a, b] k2 pt2) X.env = pure none := by rfl) (hs : swapsWithSole [.Tuple [.Name x px, .Name y py] kt pt] (.Tuple [a, b] k2 pt2) pos.line X.env = pure false := by rfl) (hc : X.calm = true := by rfl) :
    PS X (.Assign [.Tuple [.Name x px, .Name y py] kt pt] (.Tuple [a, b] k2 pt2) pos) (tzS X.K m (evS G (.par [i, j] zs))) := zs_parT2 hc hN hi hj hx hy hfx hfy ha hw hs
theorem s_parT3 {i j l : Nat} {x y z : Str} {px py pz pt : Pos} {kt k2 pt2} (hN : X.N.Nodup) (ha : PA X [a, b, c] (tzRs X.K m (evRs G zs))) (hi : X.N[i]? = some x := by rfl) (hj : X.N[j]? = some y := by rfl) (hl : X.N[l]? = some z := by rfl) (hx : Loc X.env.scope x := by first | exact Or.inl rfl | exact Or.inr rfl) (hy : Loc X.env.scope y := by first | exact Or.inl rfl | exact Or.inr rfl) (hz : Loc X.env.scope z := by first | exact Or.inl rfl | exact Or.inr rfl)
    (hfx : X.fn x = true ∨ X.env.scope.names.lookup x = some .local := by first | exact Or.inl rfl | exact Or.inr rfl) (hfy : X.fn y = true ∨ X.env.scope.names.lookup y = some .local := by first | exact Or.inl rfl | exact Or.inr rfl) (hfz : X.fn z = true ∨ X.env.scope.names.lookup z = some .local := by first | exact Or.inl rfl | exact Or.inr rfl)
    (hw : swappedStores [.Tuple [.Name x px, .Name y py, .Name z pz] kt pt] (.Tuple [a, b, c] k2 pt2) X.env = pure none := by rfl) (hs : swapsWithSole [.Tuple [.Name x px, .Name y py, .Name z pz] kt pt] (.Tuple [a, b, c] k2 pt2) pos.line X.env = pure false := by rfl) (hc : X.calm = true := by rfl) :
    PS X (.Assign [.Tuple [.Name x px, .Name y py, .Name z pz] kt pt] (.Tuple [a, b, c] k2 pt2) pos) (tzS X.K m (evS G (.par [i, j, l] zs))) := zs_parT3 hc hN hi hj hl hx hy hz hfx hfy hfz ha hw hs
theorem s_aug {i : Nat} {x : Str} {o : Op} {pos' : Pos} (hN : X.N.Nodup) (h : PE X a (tz X.K m (evE G za))) (ho : augOk o = true := by rfl) (hi : X.N[i]? = some x := by rfl) (hx : Loc X.env.scope x := by first | exact Or.inl rfl | exact Or.inr rfl) (hf : X.fn x = true ∨ X.env.scope.names.lookup x = some .local := by first | exact Or.inl rfl | exact Or.inr rfl) :
    PS X (.AugAssign (.Name x pos') (opOf o) a pos) (tzS X.K m (evS G (.aug i o za))) := zs_aug ho hN hi hx (zf_of h) hf
theorem s_seti {i : Nat} {x : Str} {p1 tpos : Pos} (h : PE X a (tz X.K m (evE G zb))) (hix : PE X b (tz X.K m (evE G za))) (hN : X.N[i]? = some x := by rfl) (hv : Vis X.env.scope x := by first | exact Or.inl rfl | exact Or.inr (Or.inl rfl) | exact Or.inr (Or.inr rfl)) (hd : (x == ("__debug__" : Str)) = false := by decide) (hcd : (x == ("__classdict__" : Str)) = false := by decide)
    (hpg : ∀ {to ti : TE}, PE X (.Name x p1) to → PE X b ti → PG X (.Subscript (.Name x p1) b tpos) (gSub to ti rSetL) := by intro _ _ h1 h2; exact pg_sub h1 h2 set_list)
    (hs : swapsWithSole [.Subscript (.Name x p1) b tpos] a pos.line X.env = pure false := by rfl) (hw : swappedStores [.Subscript (.Name x p1) b tpos] a X.env = pure none := by rfl) (h1 : (assignEach [.Subscript (.Name x p1) b tpos] X.env).map (·.2) = [assign (.Subscript (.Name x p1) b tpos) X.env] := by rfl) :
    PS X (.Assign [.Subscript (.Name x p1) b tpos] a pos) (tzS X.K m (evS G (.seti i za zb))) := zs_seti hN hv hd hcd (zf_of h) (zf_of hix) hpg hs hw h1
theorem s_if (hc : PT X c (tzT X.K m (evT G zc))) (ht : PSs X t (tzS X.K m (evSs G ys))) (he : PSs X e (tzS X.K m (evSs G ys'))) : PS X (.If c t e pos) (tzS X.K m (evS G (.ift zc ys ys'))) := zs_if hc ht he
theorem s_wh (hp : PassesOwn (model X.prog X.w) X.A X.env X.xe) (hc : PT X c (tzT X.K m (evT G zc))) (hb : PSs X t (tzS X.K m (evSs G ys))) : PS X (.While c t [] pos) (tzS X.K m (evS G (.wh zc ys))) := zs_while G.loops hp hc hb
theorem s_fr {k : Ik} {tt : Tg} (hp : PassesOwn (model X.prog X.w) X.A X.env X.xe) (hi : PI X tg iter (tzI X.K m (evI G k zs))) (hg : PG X tg (tzG X.K m.ix tt)) (hb : PSs X t (tzS X.K m (evSs G ys))) (hc : X.calm = true := by rfl) (hs : ∀ x, foldedSetIterable iter X.env x = pure x := by intro _; rfl) :
    PS X (.For tg iter t [] pos) (tzS X.K m (evS G (.fr tt k zs ys))) := zs_for hp hc hi hg hb hs
theorem ret_not {z : Z} (h : z.isVar = false) (r : Res Rv) (st : S) : retZ z r st = r.s fun v st => .ret v st := by
  cases z <;> first | (cases h; done) | rfl
theorem s_ret (h : PE X a (tz X.K m (evE G za))) (hz : za.isVar = false := by rfl) : PS X (.Return (some a) pos) (tzS X.K m (evS G (.ret za))) := by
  have e : evS G (.ret za) = fun st => (evE G za st).s fun v st => .ret v st := by
    funext st
    exact ret_not hz _ _
  rw [e]
  exact zs_ret h
theorem s_retv {i : Nat} {x : Str} {p : Pos} (hN : X.N[i]? = some x := by rfl) (hv : Vis X.env.scope x := by first | exact Or.inl rfl | exact Or.inr (Or.inl rfl) | exact Or.inr (Or.inr rfl)) (hd : (x == ("__debug__" : Str)) = false := by decide) (hcd : (x == ("__classdict__" : Str)) = false := by decide) :
    PS X (.Return (some (.Name x p)) pos) (tzS X.K m (evS G (.ret (.var i)))) := zs_retv (r := fun st => evE G (.var i) st) hN hv hd hcd
theorem s_retn : PS X (.Return none pos) (tzS X.K m (evS G .retn)) := zs_retn
theorem s_brk : PS X (.Break pos) (tzS X.K m (evS G .brk)) := zs_brk
theorem s_cnt : PS X (.Continue pos) (tzS X.K m (evS G .cnt)) := zs_cnt
theorem s_pass : PS X (.Pass pos) (tzS X.K m (evS G .pass)) := zs_pass
theorem s_app {i : Nat} {x : Str} {p1 apos cpos : Pos} (h : PE X a (tz X.K m (evE G za))) (hN : X.N[i]? = some x := by rfl) (hv : Vis X.env.scope x := by first | exact Or.inl rfl | exact Or.inr (Or.inl rfl) | exact Or.inr (Or.inr rfl)) (hd : (x == ("__debug__" : Str)) = false := by decide) (hcd : (x == ("__classdict__" : Str)) = false := by decide) (hn : notStar a = true := by rfl) (hline : (apos.endLine == cpos.line) = true := by rfl) :
    PS X (.Expr (.Call (.Attribute (.Name x p1) "append" apos) [a] [] cpos) pos) (tzS X.K m (evS G (.app i za))) := zs_app hN hv hd hcd (zf_of h) hn hline
theorem s_ext {i : Nat} {x : Str} {p1 apos cpos : Pos} (h : PE X a (tz X.K m (evE G za))) (hN : X.N[i]? = some x := by rfl) (hv : Vis X.env.scope x := by first | exact Or.inl rfl | exact Or.inr (Or.inl rfl) | exact Or.inr (Or.inr rfl)) (hd : (x == ("__debug__" : Str)) = false := by decide) (hcd : (x == ("__classdict__" : Str)) = false := by decide) (hn : notStar a = true := by rfl) (hline : (apos.endLine == cpos.line) = true := by rfl) :
    PS X (.Expr (.Call (.Attribute (.Name x p1) "extend" apos) [a] [] cpos) pos) (tzS X.K m (evS G (.ext i za))) := zs_ext hN hv hd hcd (zf_of h) hn hline
theorem s_rai {x : Str} {C : Addr} {k j : Nat} {p pos2 : Pos} (tk : Takes X m.wx) (Z : ErrZ X.prog X.w X.K X.mg X.base k x C) (hr : Room j X.A) (hk : k + 1 ≤ j) (hm : m.X = xtZ X.mg := by rfl) (hc : X.calm = true := by rfl) (hg : Gl X x := by rfl) (hdb : (x == ("__debug__" : Str)) = false := by decide) :
    PS X (.Raise (some (.Call (.Name x p) [] [] pos)) none pos2) (tzS X.K m (evS G (.rai x []))) := zs_raise hc tk hm Z hr hk hg hdb
theorem s_try {x n : Str} {cv : Value} {i : Nat} {b₀ : Stmt} {np pos' : Pos} {zb zs : List ZS} {suite : List Stmt} (hN : X.N.Nodup) (tk : Takes X m.wx) (hcl : X.mg x = some cv) (hsub : SubX X.K X.mg G.sub x cv)
    (hb : ∀ (W : WX) (pn : List (Addr × Obj)) (xe : Value → Shared → Prop), Takes (X.tr pn xe) W → PassesOwn (model X.prog X.w) X.A X.env xe → PSs (X.tr pn xe) t (tzS X.K ⟨m.X, W, m.ix⟩ (evSs G zb)))
    (hsu : ∀ (a : Addr) (oe : Obj) (C : Addr) (pn : List (Addr × Obj)), Zc (.ref C) none oe → (∃ vs, oe.data = .fields vs) → PSs (X.suite a ((a, oe) :: pn)) (b₀ :: suite) (tzS X.K (m.su X.mg a C) (evSs G zs)))
    (hs : X.stack = X.env :: X.outer := by rfl) (hf : X.env.frame = some X.env.locals := by rfl) (hi : X.N[i]? = some n := by rfl) (hln : X.env.kindOf n = some .local := by rfl) (hg : Gl X x := by rfl) (hdb : (x == ("__debug__" : Str)) = false := by decide) (hm : m.X = xtZ X.mg := by rfl) (hix : m.ix.ea = none := by rfl) :
    PS X (.Try t [.ExceptHandler (some (.Name x np)) (some n) (b₀ :: suite) pos'] [] [] pos) (tzS X.K m (evS G (.try_ zb x i zs))) :=
  zs_try hs hf hN hi hln ⟨hg, hdb, .inl hcl⟩ tk hm hix hsub hb hsu
theorem e_isE {ad C cv' : Addr} {oe : Obj} {pn : List (Addr × Obj)} {i : Nat} {x y : Str} {p q r pos : Pos} (hz : Zc (.ref C) none oe) (hf : ∃ vs, oe.data = .fields vs) (hm : X.mg "isinstance" = none) (hcl : X.mg y = some (.ref cv')) (hsub : SubI X.K X.mg G.sub y (.ref cv'))
    (hx : X.N[i]? = some x := by rfl) (hv : Vis X.env.scope x := by first | exact Or.inl rfl | exact Or.inr (Or.inl rfl) | exact Or.inr (Or.inr rfl)) (hd : (x == ("__debug__" : Str)) = false := by decide) (hcd : (x == ("__classdict__" : Str)) = false := by decide) (hg : Gl X "isinstance" := by rfl) (hgy : Gl X y := by rfl) (hdy : (y == ("__debug__" : Str)) = false := by decide) :
    PE (X.suite ad ((ad, oe) :: pn)) (.Call (.Name "isinstance" p) [.Name x q, .Name y r] [] pos) (tz X.K (m.su X.mg ad C) (evE G (.isE i y))) :=
  ze_isE (tc := .ref cv') hz hf hx hv hd hcd hg hm (pe_glob hgy hcl rfl hdy) (fun u h => h) hsub
theorem e_isEb {ad C : Addr} {oe : Obj} {pn : List (Addr × Obj)} {i : Nat} {x y : Str} {n : String} {p q r pos : Pos} (hz : Zc (.ref C) none oe) (hf : ∃ vs, oe.data = .fields vs) (hm : X.mg "isinstance" = none) (hcl : X.mg y = none) (hsub : SubI X.K X.mg G.sub y (.type n)) (hb : bootBuiltins y = some (.type n) := by rfl) (hny : y ≠ "__name__" := by decide)
    (hx : X.N[i]? = some x := by rfl) (hv : Vis X.env.scope x := by first | exact Or.inl rfl | exact Or.inr (Or.inl rfl) | exact Or.inr (Or.inr rfl)) (hd : (x == ("__debug__" : Str)) = false := by decide) (hcd : (x == ("__classdict__" : Str)) = false := by decide) (hg : Gl X "isinstance" := by rfl) (hgy : Gl X y := by rfl) (hdy : (y == ("__debug__" : Str)) = false := by decide) :
    PE (X.suite ad ((ad, oe) :: pn)) (.Call (.Name "isinstance" p) [.Name x q, .Name y r] [] pos) (tz X.K (m.su X.mg ad C) (evE G (.isE i y))) :=
  ze_isE (tc := .ty n) hz hf hx hv hd hcd hg hm (pe_bltn hgy hcl hb rfl hny hdy) (fun u h => h) hsub
theorem e_lam {x : Str} {c P : Addr} {k j i : Nat} {cap : List Nat} {params : Arguments} {body : Expr} {scope : Scope} {p lpos pos : Pos}
    (C : LamZ m.ix.T X.prog X.w X.K X.mg X.base (k + 1) x (G.lam i)) (TB : LamX.TabB X.base X.mg c P) (hcode : X.env.code = .ref c) (hmT : (P, X.env.qual ++ "<lambda>") ∈ m.ix.T) (hu : ∀ p ∈ m.ix.T, p.1 = P → p.2 = X.env.qual ++ "<lambda>") (hr : Room j X.A) (hk : k + 2 ≤ j)
    (hbody : ∀ (E : XK) (A : Around) (outer : List Env) (s : Shared) (H : Hp) (f c' : Addr), Room k (A.deeper (LamX.lamEnv X scope s.heap.objs.size f c')) → PE (LamX.lamCx X A outer s H E scope f c') body (tz X.K (lamPm X.mg m.ix.T E) (evE G za)))
    (L : LamX.lamSB X.env.scope scope = true := by rfl) (hdef : defaultsOf params X.env = ([], []) := by rfl) (hbind : ∀ (q : Str) (cl : List (Str × Addr)) (pm cv ctv : Value), bindArgs (PySem.W.kla_fn "<lambda>" q params body scope cl pm cv ctv) ⟨[], []⟩ = pure [] := by intro _ _ _ _ _; rfl)
    (hg : Gl X x := by rfl) (hdb : (x == ("__debug__" : Str)) = false := by decide) :
    PE X (.Call (.Name x p) [.Lambda params body scope lpos] [] pos) (tz X.K m (evE G (.lam i cap za))) :=
  ze_lam C hg hdb TB hcode hmT hu hr hk (LamX.lamS_by L) hdef hbind hbody
theorem e_lamD {x : Str} {y : Str} {d0 : Int} {dk : Nat} {dp : Pos} {c P : Addr} {k j i : Nat} {cap : List Nat} {params : Arguments} {body : Expr} {scope : Scope} {p lpos pos : Pos}
    (C : LamZ m.ix.T X.prog X.w X.K X.mg X.base (k + 1) x (G.lam i)) (TB : LamX.TabB X.base X.mg c P) (hcode : X.env.code = .ref c) (hmT : (P, X.env.qual ++ "<lambda>") ∈ m.ix.T) (hu : ∀ p ∈ m.ix.T, p.1 = P → p.2 = X.env.qual ++ "<lambda>") (hr : Room j X.A) (hk : k + 2 ≤ j)
    (hbody : ∀ (E : XK) (A : Around) (outer : List Env) (s : Shared) (H : Hp) (f c' : Addr), Room k (A.deeper (LamX.lamEnv X scope s.heap.objs.size f c')) → PE (LamX.lamCx X A outer s H E scope f c') body (tz X.K (lamPm X.mg m.ix.T E) (evE G za)))
    (hpd : params.defaults = [.Constant (.int d0) dk dp] := by rfl) (hk0 : params.kw_defaults = [] := by rfl) (L : lamDB X.env.scope scope y = true := by rfl) (hyN : X.N.contains y = false := by rfl)
    (hbind : LamBinds params body scope y := by intro _ _ _ _ _ _ _ _; exact ⟨_, rfl, rfl⟩)
    (hg : Gl X x := by rfl) (hdb : (x == ("__debug__" : Str)) = false := by decide) :
    PE X (.Call (.Name x p) [.Lambda params body scope lpos] [] pos) (tz X.K m (evE G (.lam i cap za))) :=
  ze_lamD C hg hdb TB hcode hmT hu hr hk (lamD_by L) (fun h => by rw [List.contains_iff_mem.mpr h] at hyN; cases hyN) hpd hk0 hbind hbody
end
end ZZ

/-! ZT: the head: what is read of the module, what it gives. -/
namespace ZZ
open L2 PyProof.Rows PySem.Spec PySem

theorem room_u {k : Nat} {A : Around} (r : Room k A) : A.units + 65 < cLine := by have := r.un; omega
theorem room_us {k : Nat} {A : Around} {v : Option Value} (r : Room k A) : (A.mark v).units + 65 < cLine := by have := r.un; show A.units + 65 < cLine; omega
/-! ### levels -/
section
variable {P : Program} {w : World} {K : Frag} {mg : Str → Option Value} {base : Heap} {xt : ExT} {T : List (Addr × Str)}
theorem fn_zc {x qual : Str} {params : Arguments} {body : List Stmt} {scope : Scope} {f : Addr} {fd : FuncData} {N ps : List Str} {k : Nat} {kws : List (Str × V)} (F : FunD K x qual params body scope [] kws f fd) (S : FnScope N ps scope) {G : Gm} {d : Df} (hn : d.n = N.length) (hp : d.ps = ps.length)
    (hb : ∀ (A : Around) (outer : List Env) (s : Shared) (H : Hp) (E : XK), Room k (A.deeper (envOfC qual scope s.heap.objs.size f fd.code)) →
      PSs (cxOf (L2.CX P w) P w K mg base N qual scope f fd.code A outer s H E) body (tzS K ⟨xt, fun cls d _ H => E cls d H, ⟨none, none, T⟩⟩ (evSs G d.body))) :
    FnOk P w K mg base (L2.CX P w) (k + 1) f fd ps (spZ T K xt (callD G d) ps.length) := by
  (obtain ⟨oc, od, dV, kV, doc, pm, an, cdv, ct, osl, rfl, lk, hcd, _, _⟩ := F.ex)
  refine fn_of lk hcd S (fun vs H Q E h => h.1) fun A outer s H vs Q E hr h => ⟨_, hb A outer s H E hr, ?_⟩
  obtain ⟨hl, wd, ds, hd, sub, nt, ha, tb, r, ho⟩ := h
  have hnl : ps.length ≤ N.length := by have := congrArg List.length S.pre; rw [List.length_take] at this; omega
  refine ⟨⟨H, wd.F, tb⟩, wd, _, start_sim sub nt ha r (by omega) tb, ?_⟩
  have hds : ds.length = d.ps := by rw [hp, ← hl, r.length]
  unfold callD at ho
  rw [if_pos hds, hn] at ho
  cases hr : evSs G d.body ⟨ds.map Slot.fz ++ List.replicate (N.length - ds.length) .un, hd⟩ with
  | nx st => rw [hr] at ho; exact fun σ' w' H' s' t' => ho .non w' H' (CEnd.of s' t') .non
  | ret v st => rw [hr] at ho; exact fun x σ' w' H' s' t' q => ho x w' H' (CEnd.of s' t') q.c
  | exc ex st => rw [hr] at ho; exact fun cls dd σ' w' H' s' t' q => ho cls dd w' H' (CEnd.of s' t') q
  | brk st => rw [hr] at ho; exact ho.elim
  | cnt st => rw [hr] at ho; exact ho.elim
  | stuck => rw [hr] at ho; exact ho.elim
theorem fn_z0 {x qual : Str} {params : Arguments} {body : List Stmt} {scope : Scope} {f : Addr} {fd : FuncData} {N ps : List Str} {kws : List (Str × V)} (F : FunD K x qual params body scope [] kws f fd) (S : FnScope N ps scope) :
    FnOk P w K mg base (L2.CX P w) 1 f fd ps (spZ T K xt (fun _ _ => .stuck) ps.length) :=
  F.ok S (fun vs H Q E h => h.1) fun cdv A outer s H vs Q E hr h => by
    obtain ⟨_, _, _, _, _, _, _, _, _, h⟩ := h
    exact h.elim
end
theorem cal_eq {Tb : List Df} {l : Nat} {sub : Str → Str → Option Bool} {n i : Nat} {d : Df} (h : Tb[i]? = some d) : (gmN Tb l sub (n + 1)).cal i = callD (gmN Tb l sub n) d := by
  funext ds hd
  show (match Tb[i]? with | some d => callD (gmN Tb l sub n) d ds hd | none => Out.stuck) = _
  rw [h]
theorem lam_eq {Tb : List Df} {l : Nat} {sub : Str → Str → Option Bool} {n i : Nat} {d : Df} (h : Tb[i]? = some d) (th : Option (List D) → Out) (hd : Option (List D)) : (gmN Tb l sub (n + 1)).lam i th hd = callL { gmN Tb l sub n with act := th } d hd := by
  show (match Tb[i]? with | some d => callL { gmN Tb l sub n with act := th } d hd | none => Out.stuck) = _
  rw [h]
theorem sub_eq {Tb : List Df} {l : Nat} {sub : Str → Str → Option Bool} : ∀ n, (gmN Tb l sub n).sub = sub
  | 0 => rfl
  | _ + 1 => rfl
theorem act_eq {Tb : List Df} {l : Nat} {sub : Str → Str → Option Bool} : ∀ n, (gmN Tb l sub n).act = noG
  | 0 => rfl
  | _ + 1 => rfl
/-- nobody handed in a callable -/
theorem act_void {X : Cx} {m : Pm} {G : Gm} {e : Expr} (h : G.act = noG) : PE X e (tz X.K m (evE G (.act 0))) := ⟨fun pins s σ H Q I ⟨e', w, st, s', P⟩ => by
  rw [ev_act h] at P
  have P : Pz X.K m e' σ st w H (match st.sl[0]? with
    | some (Slot.sp none) => (noG st.hd).res st
    | _ => .stuck) _ := P
  exfalso
  split at P
  · exact P
  · exact P⟩
theorem lam0 {P : Program} {w : World} {K : Frag} {mg : Str → Option Value} {base : Heap} {T : List (Addr × Str)} {k : Nat} {x a : Str} {g : Addr} {fd : FuncData} {sg : Scope} {Ng : List Str} {pg : Arguments} {bg : List Stmt} {runL : (Option (List D) → Out) → Option (List D) → Out}
    (hm : mg x = some (.ref g)) (F : FunD K x x pg bg sg [] [] g fd) (hb : Binds K fd [a] []) (S : FnScope Ng [a] sg) (h0 : Ng[0]? = some a) (hv : Vis sg a) (hd : (a == ("__debug__" : Str)) = false) (hcd : (a == ("__classdict__" : Str)) = false) (hr : ∀ th hd, runL th hd = .stuck) : LamZ T P w K mg base k x runL :=
  ⟨g, fd, a, sg, Ng, pg, bg, ⟨x, Ng.length, 0, [.ex (.dc [] (.nm 0) .val [] none (.var 0) (.var 0))]⟩, fun th => ⟨fun _ _ _ => .stuck, 0, fun _ _ => none, fun _ _ _ => .stuck, th⟩, hm, F, hb, S, h0, hv, hd, hcd, rfl, fun th hd => (hr th hd).trans rfl, fun _ => rfl,
    fun cdv A outer s H th c _ _ => ⟨fun pins s σ H D I ⟨e, w, st, _, P⟩ => (show False from P).elim⟩⟩
/-! ### the module, read -/
/-- as growD of the kit, but a code object's own parts are left (its table is written) -/
def growX (g : Addr → Option Obj) (as : List Addr) : List Addr := (as ++ as.flatMap fun a => match g a with
  | some o => (match o.cls with
    | .type c => (if c = "code" then [] else He.refsD o)
    | _ => He.refsD o)
  | none => []).eraseDups
def asX (g : Addr → Option Obj) : Nat → List Addr
  | 0 => [mainGlobals]
  | n + 1 => growX g (asX g n)
abbrev AlX : Type := He.AlD × Bool
def obsX (fa : List He.Fa) (fn : List He.DefD) (ex : Frag → Bool) (K : Frag) : AlX := (He.obsD fa fn K, ex K)
def valX (fn : List He.DefD) : AlX := (He.valD fn, true)
def obsXG (n : Nat) (fa : List He.Fa) (fn : List He.DefD) (ex : Frag → Bool) (g : Addr → Option Obj) : AlX := obsX fa fn ex (He.frG g (asX g n))
structure SaysX (fa : List He.Fa) (fn : List He.DefD) (ex : Frag → Bool) (K : Frag) : Prop where
  d : He.SaysD fa fn K
  x : ex K = true
def hookX (n : Nat) (fa : List He.Fa) (fn : List He.DefD) (ex : Frag → Bool) : PySem.W.Hook where
  α := AlX
  obs := fun s => obsXG n fa fn ex s.heap.get?
  val := fun _ => valX fn
  says := fun _ h => ∃ K : Frag, K.In h ∧ SaysX fa fn ex K
  of := fun _ _ e => ⟨_, He.frG_in, congrArg (fun z : AlX => z.1) e, congrArg (fun z : AlX => z.2) e⟩
  keeps := fun _ _ _ ⟨K, hin, says⟩ k => ⟨K, PySem.W.Frag.In.keeps hin k, says⟩
theorem obsXG_eq {n : Nat} {fa : List He.Fa} {fn : List He.DefD} {ex : Frag → Bool} {g : Addr → Option Obj} {s : Shared} (h : ∀ a, g a = s.heap.get? a) : obsXG n fa fn ex g = (hookX n fa fn ex).obs s := by
  (have e : g = s.heap.get? := funext h)
  rw [e] <;> rfl
/-! ### error classes -/
def oexB (K : Frag) (C : Addr) : Bool := match K.lookup C with
  | some ⟨.type t, _, .cls cd, sl⟩ => (match cd.mro, sl.toList with
    | .ref C' :: bm, [_, _, _, _, some (.builtin n), _] => t == "type" && (C' == C && (n == "ValueError.__new__" && (!cd.hasDel && (cd.hasDict && PySem.HandSPX.refsVE bm))))
    | _, _ => false)
  | _ => false
theorem oexB_ok {K : Frag} {C : Addr} (h : oexB K C = true) : ∃ nm q N bs bm sn sub ab col dd k0 k1 k2 k3 k5, K.lookup C = some (excClassObj nm q C N bs bm true sn sub ab col dd k0 k1 k2 k3 k5 "ValueError.__new__") ∧ PySem.HandSPX.refsVE bm = true := by
  unfold oexB at h
  split at h
  · rename_i t dd cd sl ho
    split at h
    · (rename_i C' bm k0 k1 k2 k3 n k5 hm hs)
      simp only [Bool.and_eq_true, beq_iff_eq, Bool.not_eq_true'] at h
      obtain ⟨e0, e1, e2, e3, e4, e5⟩ := h
      subst e0 e1 e2
      (obtain ⟨nm, bs, mro, ns, qn, hd, sn, sub, ab, col, del⟩ := cd)
      dsimp only at hm e3 e4
      subst hm e3 e4
      have hsl : sl = #[k0, k1, k2, k3, some (.builtin "ValueError.__new__"), k5] := by
        obtain ⟨l⟩ := sl
        simp only at hs
        rw [hs]
      subst hsl
      exact ⟨nm, qn, ns, bs, bm, sn, sub, ab, col, dd, k0, k1, k2, k3, k5, ho, e5⟩
    · cases h
  · cases h
abbrev eqS (a b : Option (Option Value)) : Bool := decide (a = b)
/-- the class named x: an error, its __init__ is the def init's -/
def errB (x b : Str) (K : Frag) : Bool :=
  oexB K (He.ga K x) && (eqS (PySem.W.findIn K (.ref (He.ga K x)) "__setattr__") (some (some (.builtin "object.__setattr__"))) && (decide (PySem.W.subIn K (.ref (He.ga K x)) (.type "BaseException") = some true) && (decide (PySem.W.typeIn K (.ref (He.ga K x)) = some (.type "type")) && (PySem.W.keepIn K (.ref (He.ga K x)) &&
  (eqS (PySem.W.findIn K (.ref (He.ga K x)) "__init__") (some (some (.ref (He.ma K (He.ga K b) "__init__")))) && (decide (PySem.W.typeIn K (.ref (He.ma K (He.ga K b) "__init__")) = some (.type "function")) &&
  (eqS (PySem.W.findIn K (.ref (He.ga K x)) "__getattribute__") (some (some (.builtin "BaseException.__getattribute__"))) && (eqS (PySem.W.findIn K (.ref (He.ga K x)) "__getattr__") (some none) && (PySem.W.hasDictIn K (He.ga K x) && (eqS (PySem.W.findIn K (.ref (He.ga K x)) "__class__") (some (some (.builtin "object.__class__"))) &&
  (eqS (PySem.W.specialIn K (.builtin "object.__class__") "__get__") (some (some (.builtin "getset_descriptor.__get__"))) && (decide (PySem.W.takesIn K (.builtin "object.__class__") = some true) && decide (PySem.W.mroIn K (He.ga K x) (.type "object") = some true)))))))))))))
structure ErrF (K : Frag) (x b : Str) : Prop where
  T : OexC K (He.ga K x)
  i : PySem.W.findIn K (.ref (He.ga K x)) "__init__" = some (some (.ref (He.ma K (He.ga K b) "__init__")))
  ti : PySem.W.typeIn K (.ref (He.ma K (He.ga K b) "__init__")) = some (.type "function")
  c : ExcC K (He.ga K x)
theorem errB_ok {K : Frag} {x b : Str} (h : errB x b K = true) : ErrF K x b := by
  unfold errB at h
  (simp only [Bool.and_eq_true, decide_eq_true_eq] at h)
  obtain ⟨h1, h2, h3, h4, h5, h6, h7, h8, h9, h10, h11, h12, h13, h14⟩ := h
  exact ⟨⟨oexB_ok h1, h2, h3, h4, h5⟩, h6, h7, ⟨h8, h9, h3, h10, h11, h12, h13, h14⟩⟩
/-- ValueError.__init__, looked up -/
def veB (K : Frag) : Bool := match PySem.W.findCls K (.type "ValueError") (.type "type") "__init__" with
  | some (.val (.builtin n)) => n == "ValueError.__init__"
  | _ => false
theorem veB_ok {K : Frag} (h : veB K = true) : PySem.W.findCls K (.type "ValueError") (.type "type") "__init__" = some (.val (.builtin "ValueError.__init__")) := by
  unfold veB at h
  split at h
  · rename_i n e
    rw [e, beq_iff_eq.mp h]
  · cases h
/-- the table of classes -/
abbrev SubL : Type := List ((Str × Str) × Bool)
def subL (L : SubL) (a b : Str) : Option Bool := (L.find? fun p => p.1.1 == a && p.1.2 == b).map (·.2)
theorem subL_mem {L : SubL} {a b : Str} {k : Bool} (h : subL L a b = some k) : ((a, b), k) ∈ L := by
  obtain ⟨p, h1, h2⟩ := Option.map_eq_some_iff.mp h
  have h3 := List.find?_some h1
  rw [Bool.and_eq_true] at h3
  have h4 := List.mem_of_find?_eq_some h1
  obtain ⟨⟨a', b'⟩, k'⟩ := p
  obtain ⟨e1, e2⟩ := h3
  have e1 : a' = a := eq_of_beq e1
  have e2 : b' = b := eq_of_beq e2
  have h2 : k' = k := h2
  subst e1 e2 h2
  exact h4
/-- own classes asked by own classes: as except clauses, by isinstance -/
def ownB (L : SubL) (K : Frag) : Bool := L.all fun p => decide (PySem.W.exmOne K (.ref (He.ga K p.1.1)) (.ref (He.ga K p.1.2)) = some p.2) && decide (PySem.W.kitOne K (.ref (He.ga K p.1.1)) (.ref (He.ga K p.1.2)) = some p.2)
/-- .. by a built-in class -/
def bltB (n : String) (L : SubL) (K : Frag) : Bool := L.all fun p => decide (PySem.W.kitOne K (.ref (He.ga K p.1.1)) (.type n) = some p.2)
theorem subX_ok {K : Frag} {mg : Str → Option Value} {L M : SubL} {x : Str} (h : ownB L K = true) (hg : ∀ p ∈ L, mg p.1.1 = some (.ref (He.ga K p.1.1))) (hM : ∀ p ∈ M, p.1.2 = x → p ∈ L) : SubX K mg (subL M) x (.ref (He.ga K x)) := fun c0 b hb C hC => by
  have m := hM _ (subL_mem hb) rfl
  have h1 := List.all_eq_true.mp h _ m
  rw [Bool.and_eq_true, decide_eq_true_eq] at h1
  have e1 := hg _ m
  rw [hC] at e1
  cases e1
  exact h1.1
theorem subI_ok {K : Frag} {mg : Str → Option Value} {L M : SubL} {x : Str} (h : ownB L K = true) (hg : ∀ p ∈ L, mg p.1.1 = some (.ref (He.ga K p.1.1))) (hM : ∀ p ∈ M, p.1.2 = x → p ∈ L) (hc : ∀ p ∈ L, ExcC K (He.ga K p.1.1)) : SubI K mg (subL M) x (.ref (He.ga K x)) := fun c0 b hb C hC => by
  have m := hM _ (subL_mem hb) rfl
  have h1 := List.all_eq_true.mp h _ m
  (rw [Bool.and_eq_true, decide_eq_true_eq, decide_eq_true_eq] at h1)
  have e1 := hg _ m
  rw [hC] at e1
  cases e1
  exact ⟨hc _ m, h1.2⟩
theorem subIb_ok {K : Frag} {mg : Str → Option Value} {L M : SubL} {x : Str} {n : String} (h : bltB n L K = true) (hg : ∀ p ∈ L, mg p.1.1 = some (.ref (He.ga K p.1.1))) (hM : ∀ p ∈ M, p.1.2 = x → p ∈ L) (hc : ∀ p ∈ L, ExcC K (He.ga K p.1.1)) : SubI K mg (subL M) x (.type n) := fun c0 b hb C hC => by
  have m := hM _ (subL_mem hb) rfl
  have h1 := List.all_eq_true.mp h _ m
  rw [decide_eq_true_eq] at h1
  have e1 := hg _ m
  rw [hC] at e1
  cases e1
  exact ⟨hc _ m, h1⟩
/-! ### where the code objects keep their tables -/
def cdA (K : Frag) (x : Str) : Addr := match K.lookup (He.ga K x) with
  | some ⟨_, _, .func fo, _⟩ => (match fo.code with
    | .ref c => c
    | _ => 0)
  | _ => 0
def tbA (K : Frag) (x : Str) : Addr := match K.lookup (cdA K x) with
  | some ⟨_, _, .fields fs, _⟩ => (match (fs[11]? : Option Value) with
    | some (.ref P) => P
    | _ => 0)
  | _ => 0
/-- the def x makes lambdas: its code object, its table (which is not of K) -/
def cdB (x : Str) (K : Frag) : Bool := PySem.W.codeHdIn K (cdA K x) (tbA K x) && ((K.lookup (tbA K x)).isNone && (match K.lookup (He.ga K x) with
  | some ⟨_, _, .func fo, _⟩ => (match fo.code with
    | .ref c => true
    | _ => false)
  | _ => false))
theorem cdB_hd {K : Frag} {x : Str} (h : cdB x K = true) : PySem.W.codeHdIn K (cdA K x) (tbA K x) = true ∧ K.lookup (tbA K x) = none := by
  unfold cdB at h
  simp only [Bool.and_eq_true, Option.isNone_iff_eq_none] at h
  exact ⟨h.1, h.2.1⟩
theorem cdB_tab {K : Frag} {x : Str} {h : Heap} (e : cdB x K = true) (own : LamX.OwnTab K (He.ga K x) h) : h.get? (tbA K x) = some { cls := .none, data := .fields #[] } := by
  obtain ⟨e1, _⟩ := cdB_hd e
  have e2 := e
  unfold cdB at e2
  simp only [Bool.and_eq_true] at e2
  obtain ⟨_, _, e2⟩ := e2
  split at e2
  · rename_i c1 d1 fd s1 ho
    split at e2
    · rename_i c hc
      have hcd : cdA K x = c := by unfold cdA; rw [ho]; dsimp only; rw [hc]
      unfold PySem.W.codeHdIn at e1
      split at e1
      · rename_i dd vs sl hl
        rw [hcd] at hl
        simp only [Bool.and_eq_true] at e1
        have e3 := e1.1.1.1.1.1
        split at e3
        · rename_i P' hP
          rw [beq_iff_eq] at e3
          subst e3
          exact own c _ _ fd _ _ _ _ ho rfl hc hl hP
        · cases e3
      · cases e1
    · cases e2
  · cases e2
theorem cdB_code {K : Frag} {x : Str} {f : Addr} {fd : FuncData} {oc : Value} {od : Option Addr} {osl : Array (Option Value)} (h : cdB x K = true) (e : f = He.ga K x) (lk : K.lookup f = some ⟨oc, od, .func fd, osl⟩) : fd.code = .ref (cdA K x) := by
  subst e
  unfold cdB at h
  unfold cdA
  rw [lk] at h ⊢
  (simp only [Bool.and_eq_true] at h)
  obtain ⟨_, _, h⟩ := h
  split at h
  · rename_i c e
    dsimp only
    rw [e]
  · cases h
end ZZ
namespace LamX
open L2 PyProof.Rows PySem.Spec PySem
/-- the table of the def that stands at fa is empty, for every def of the top -/
theorem walk_ofAll {l : PySem.W.OpenLaw} {n k : Nat} {q : Program} {loose : List Str} {XP : (Str → Option Value) → Heap → Prop} {YP : World → Heap → Prop} {d : DefRec} {CX : World → CXT} {x : Str}
    (hn : l.most = some n) (hn2 : n ≤ sizeLine)
    (hdf : d.params.defaults = []) (hr : Room k callerA)
    (F : ∀ (w : World) (mg : Str → Option Value)
    (fa : Addr) (h : Heap), YP w h → h.Ns mainGlobals mg → mg d.name = some (.ref fa) →
      (∀ (K : PySem.W.Frag) (y : Str) (f : Addr), K.In h → ((recsOf q).any fun e => e.name == y) = true → mg y = some (.ref f) → OwnTab K f h) → ∃ K : PySem.W.Frag, K.In h ∧ LawAtS l w K (CX w) k n x mg fa h)
    (hCX : ∀ (w : World) (H : Hp) (s : Shared)
    (e : Value) (s' : Shared), CX w [] H s (fun _ _ _ => False) e s' → False) :
    PySem.W.WalkO q loose XP YP l.row.toRowW d []
      (fun f vs => PySem.call f vs) := by
  (refine Att.attach_callB hn hdf fun w s₀ s₁ mg mb fa o pm cd doc a vs ns G Y ho hd hcd hmg hobj hints hlen hbits hg => ?_)
  have own : ∀ (K : PySem.W.Frag) (y : Str) (f : Addr), K.In s₁.heap → ((recsOf q).any fun e => e.name == y) = true → mg y = some (.ref f) → OwnTab K f s₁.heap := by
    intro K y f KX hrec hy c P o1 fd1 e dd vs1 sl k1 k2 k3 k4 k5
    (obtain ⟨dL, hm, hn1⟩ := List.any_eq_true.mp hrec)
    (obtain ⟨a', o', fd', c', P', h1, h2, h3, h4, h5, h6⟩ := G.T.tab dL hm)
    rw [beq_iff_eq.mp hn1, hy] at h1
    cases h1
    rw [KX _ _ k1] at h2
    cases h2
    rw [k2] at h3
    cases h3
    rw [k3] at h4
    cases h4
    (obtain ⟨⟨oc, vc, e1, _, e3, e4⟩, hP⟩ := h6)
    rw [KX _ _ k4] at e1
    cases e1
    cases e3
    rw [k5] at e4
    cases e4
    exact hP
  obtain ⟨K, KX, fd, cs, sp, hT, nT, C, hb, hsp, hF⟩ := F w mg fa _ Y G.T.g hmg own
  (exact law_callTs KX G.T.g G.T.b G.T.builtins G.T.nolimit hg hT nT C G.T.bmain hobj hints (Nat.le_trans hlen hn2) hr hF hb (fun H hH hS => hsp H a ns hlen hbits hH hS) fun H e s' => hCX w H s₁ e s')
end LamX

/-! ZU: the plain laws' tools. -/
namespace ZZ
open PySem
@[simp] theorem frz_ok (v : Rv) (st : S) : frz (.ok v st) = .ok v.d st := rfl
@[simp] theorem frz_exc (x : Ex) (st : S) : frz (.exc x st) = .exc x st := rfl
@[simp] theorem tru_ok (v : Rv) (st : S) : tru (.ok v st) = lift (truD v.d) st := rfl
@[simp] theorem put_cons0 (s : Slot) (sl : List Slot) (hd : Option (List D)) (t : Slot) : S.put ⟨s :: sl, hd⟩ 0 t = ⟨t :: sl, hd⟩ := rfl
@[simp] theorem put_cons (s : Slot) (sl : List Slot) (hd : Option (List D)) (i : Nat) (t : Slot) : S.put ⟨s :: sl, hd⟩ (i + 1) t = ⟨s :: (S.put ⟨sl, hd⟩ i t).sl, hd⟩ := rfl
theorem fmod_bd {a b : Int} (h : 0 < b) : 0 ≤ a.fmod b ∧ a.fmod b < b := ⟨Int.fmod_nonneg_of_pos a h, Int.fmod_lt_of_pos a h⟩
end ZZ
namespace ZZ
open PySem
@[simp] theorem eqD_ii (i j : Int) : eqD (.int i) (.int j) = some (decide (i = j)) := by
  simp only [eqD, D.pd]
  have h : (SeqAt.shaped (.int i) = true ∧ SeqAt.shaped (.int j) = true) := by constructor <;> rfl
  rw [if_pos h]
  by_cases e : i = j <;> simp [PyData.eqv, e]
@[simp] theorem eqD_ss (i j : Str) : eqD (.str i) (.str j) = some (decide (i = j)) := rfl
@[simp] theorem ltD_ii (i j : Int) : ltD (.int i) (.int j) = some (decide (i < j)) := rfl
theorem atI_nat {l : List D} {k : Nat} (h : k < l.length) : L2.atI l ((k : Int)) = l[k]? := by
  have h1 : (k : Int) < (l.length : Int) := by omega
  unfold L2.atI L2.ixN
  rw [if_pos (Int.natCast_nonneg k), if_pos h1]
  rfl
end ZZ
namespace ZZ
open PySem
section
variable (a b c d e : D)
@[simp] theorem at5_0 : L2.atI [a, b, c, d, e] 0 = some a := rfl
@[simp] theorem at5_1 : L2.atI [a, b, c, d, e] 1 = some b := rfl
@[simp] theorem at5_2 : L2.atI [a, b, c, d, e] 2 = some c := rfl
@[simp] theorem at5_3 : L2.atI [a, b, c, d, e] 3 = some d := rfl
@[simp] theorem at5_4 : L2.atI [a, b, c, d, e] 4 = some e := rfl
@[simp] theorem at3_0 : L2.atI [a, b, c] 0 = some a := rfl
@[simp] theorem at3_1 : L2.atI [a, b, c] 1 = some b := rfl
@[simp] theorem at3_2 : L2.atI [a, b, c] 2 = some c := rfl
@[simp] theorem at2_0 : L2.atI [a, b] 0 = some a := rfl
@[simp] theorem at2_1 : L2.atI [a, b] 1 = some b := rfl
@[simp] theorem at1_0 : L2.atI [a] 0 = some a := rfl
end
@[simp] theorem ix5_0 : L2.ixN 5 0 = some 0 := rfl
@[simp] theorem ix5_1 : L2.ixN 5 1 = some 1 := rfl
@[simp] theorem ix5_2 : L2.ixN 5 2 = some 2 := rfl
@[simp] theorem ix5_3 : L2.ixN 5 3 = some 3 := rfl
@[simp] theorem ix5_4 : L2.ixN 5 4 = some 4 := rfl
theorem atI_int {cs : List Int} {i : Int} (h0 : 0 ≤ i) (h1 : i < cs.length) : ∃ x, x ∈ cs ∧ L2.atI (cs.map D.int) i = some (.int x) := by
  have h2 : i.toNat < cs.length := by omega
  refine ⟨cs[i.toNat], List.getElem_mem h2, ?_⟩
  unfold L2.atI L2.ixN
  rw [if_pos h0, if_pos (by rw [List.length_map]; exact h1)]
  show (cs.map D.int)[i.toNat]? = _
  rw [List.getElem?_map, List.getElem?_eq_getElem h2]
  rfl
theorem small_of {i : Int} (h0 : 0 ≤ i) (h1 : i < 2 ^ 62) : small64 i = true := by
  exact small64_iff.mpr ⟨by omega, by omega⟩
end ZZ
namespace ZZ
open PySem
@[simp] theorem small_fmod {a b : Int} (h0 : 0 < b) (h1 : b ≤ 4611686018427387904) : small64 (a.fmod b) = true :=
  small_of (Int.fmod_nonneg_of_pos a h0) (Int.lt_of_lt_of_le (Int.fmod_lt_of_pos a h0) h1)
/-- a hand: cells, the next, the big one, a state, a count -/
def hnd (cs : List Int) (i b s c : Int) : Option (List D) := some [.lst (cs.map .int), .int i, .int b, .int s, .int c]
structure HOk (hd : Option (List D)) : Prop where
  ex : ∃ cs i b s c, hd = hnd cs i b s c ∧ (∀ x ∈ cs, 0 ≤ x) ∧ 0 ≤ i ∧ 0 ≤ b
theorem HOk.of {cs : List Int} {i b s c : Int} (h1 : ∀ x ∈ cs, 0 ≤ x) (h2 : 0 ≤ i) (h3 : 0 ≤ b) : HOk (hnd cs i b s c) := ⟨cs, i, b, s, c, rfl, h1, h2, h3⟩
end ZZ

/-! ZV: the plain laws' tools, anew. -/
namespace ZZ
open PySem
/-! ### what is not yet reckoned is left alone -/
theorem Res.bind_cg {α β : Type} {r r' : Res α} {k : α → S → Res β} (h : r = r') : r.bind k = r'.bind k := by rw [h]
theorem Res.s_cg {α : Type} {r r' : Res α} {k : α → S → SR} (h : r = r') : r.s k = r'.s k := by rw [h]
theorem SR.seq_cg {r r' : SR} {k : S → SR} (h : r = r') : r.seq k = r'.seq k := by rw [h]
/-! ### a hand -/
structure Hn where
  cs : List Int
  i : Int
  b : Int
  s : Int
  c : Int
  p1 : ∀ x ∈ cs, 0 ≤ x
  p2 : 0 ≤ i
  p3 : 0 ≤ b
def Hn.d (h : Hn) : Option (List D) := hnd h.cs h.i h.b h.s h.c
theorem HOk.hn {hd : Option (List D)} (h : HOk hd) : ∃ h : Hn, hd = h.d := by
  obtain ⟨cs, i, b, s, c, e, h1, h2, h3⟩ := h.ex
  exact ⟨⟨cs, i, b, s, c, h1, h2, h3⟩, e⟩
theorem Hn.ok (h : Hn) : HOk h.d := .of h.p1 h.p2 h.p3
/-! ### items of lists -/
section
variable (a b c d e f g : D) (l : List D)
theorem ixN_lt {n : Nat} {k : Nat} (h : k < n) : L2.ixN n (k : Int) = some k := by
  unfold L2.ixN
  rw [if_pos (Int.natCast_nonneg k), if_pos (by omega), Int.toNat_natCast]
theorem atI_k {l : List D} {k : Nat} {x : D} (h : l[k]? = some x) : L2.atI l (k : Int) = some x := by
  unfold L2.atI
  rw [ixN_lt (List.getElem?_eq_some_iff.mp h).1]
  exact h
@[simp] theorem atl_0 : L2.atI (a :: l) 0 = some a := atI_k (k := 0) rfl
@[simp] theorem atl_1 : L2.atI (a :: b :: l) 1 = some b := atI_k (k := 1) rfl
@[simp] theorem atl_2 : L2.atI (a :: b :: c :: l) 2 = some c := atI_k (k := 2) rfl
@[simp] theorem atl_3 : L2.atI (a :: b :: c :: d :: l) 3 = some d := atI_k (k := 3) rfl
@[simp] theorem atl_4 : L2.atI (a :: b :: c :: d :: e :: l) 4 = some e := atI_k (k := 4) rfl
@[simp] theorem atl_5 : L2.atI (a :: b :: c :: d :: e :: f :: l) 5 = some f := atI_k (k := 5) rfl
end
theorem atI_ge {l : List D} {i : Int} {x : D} (h0 : 0 ≤ i) (h : l[i.toNat]? = some x) : L2.atI l i = some x := by
  have e : i = ((i.toNat : Nat) : Int) := by omega
  rw [e]; exact atI_k h
theorem atI_neg1 {l : List D} {x : D} : L2.atI (l ++ [x]) (-1) = some x := by
  unfold L2.atI L2.ixN
  have e : (l ++ [x]).length = l.length + 1 := by simp
  rw [if_neg (by decide), e, if_pos (by omega)]
  have : ((-1 : Int) + ((l.length + 1 : Nat) : Int)).toNat = l.length := by omega
  rw [this]
  simp
/-! ### loops -/
/-- a for loop with an invariant over what was gone through; it may end early -/
theorem fr_ind {α : Type} {tg : Tg} {body : S → SR} (enc : α → D) (I : List α → S → Prop) (Q : SR → Prop) (xs : List α) (st : S) (h0 : I [] st)
    (hs : ∀ pre a post st, xs = pre ++ a :: post → I pre st → ∃ st1, asg tg (enc a) st = some st1 ∧ ((∃ st2, (body st1 = .nx st2 ∨ body st1 = .cnt st2) ∧ I (pre ++ [a]) st2) ∨ (∃ st2, body st1 = .brk st2 ∧ Q (.nx st2)) ∨ (∃ v st2, body st1 = .ret v st2 ∧ Q (.ret v st2)) ∨ ∃ x st2, body st1 = .exc x st2 ∧ Q (.exc x st2)))
    (hd : ∀ st, I xs st → Q (.nx st)) : Q (frRun tg body (xs.map enc) st) := by
  have key : ∀ (post pre : List α) (st : S), xs = pre ++ post → I pre st → Q (frRun tg body (post.map enc) st) := by
    intro post
    induction post with
    | nil =>
      intro pre st e h
      rw [List.append_nil] at e
      subst e
      exact hd st h
    | cons a post ih =>
      intro pre st e h
      obtain ⟨st1, e1, k⟩ := hs pre a post st e h
      rw [List.map_cons]
      unfold frRun
      rw [e1]
      dsimp only
      rcases k with ⟨st2, e2 | e2, h2⟩ | ⟨st2, e2, q⟩ | ⟨v, st2, e2, q⟩ | ⟨x, st2, e2, q⟩
      · rw [e2]; exact ih (pre ++ [a]) st2 (by rw [e, List.append_assoc]; rfl) h2
      · rw [e2]; exact ih (pre ++ [a]) st2 (by rw [e, List.append_assoc]; rfl) h2
      · rw [e2]; exact q
      · rw [e2]; exact q
      · rw [e2]; exact q
  exact key xs [] st rfl h0
/-- .. that goes through -/
theorem fr_all {α : Type} {tg : Tg} {body : S → SR} (enc : α → D) (I : List α → S → Prop) (xs : List α) (st : S) (h0 : I [] st)
    (hs : ∀ pre a post st, xs = pre ++ a :: post → I pre st → ∃ st1 st2, asg tg (enc a) st = some st1 ∧ body st1 = .nx st2 ∧ I (pre ++ [a]) st2) :
    ∃ st', frRun tg body (xs.map enc) st = .nx st' ∧ I xs st' :=
  fr_ind enc I (fun r => ∃ st', r = .nx st' ∧ I xs st') xs st h0 (fun pre a post st e h => by
    obtain ⟨st1, st2, e1, e2, h2⟩ := hs pre a post st e h
    exact ⟨st1, e1, .inl ⟨st2, .inl e2, h2⟩⟩) fun st h => ⟨st, rfl, h⟩
/-- a while loop with a measure -/
theorem wh_ind {test : S → Res Bool} {body : S → SR} (I : S → Prop) (μ : S → Nat) (Q : S → Prop)
    (hs : ∀ st, I st → (∃ st2, test st = .ok false st2 ∧ Q st2) ∨ ∃ st1 st2, test st = .ok true st1 ∧ body st1 = .nx st2 ∧ I st2 ∧ μ st2 < μ st) :
    ∀ (n : Nat) (st : S), I st → μ st < n → ∃ st', whRun test body n st = .nx st' ∧ Q st'
  | 0, st, _, h => absurd h (Nat.not_lt_zero _)
  | n + 1, st, h, hn => by
    unfold whRun
    rcases hs st h with ⟨st2, e, q⟩ | ⟨st1, st2, e1, e2, h2, hm⟩
    · rw [e]; exact ⟨st2, rfl, q⟩
    · rw [e1]
      show ∃ st', (match body st1 with
        | .nx st2 => whRun test body n st2
        | .cnt st2 => whRun test body n st2
        | .brk st2 => .nx st2
        | r => r) = .nx st' ∧ Q st'
      rw [e2]
      exact wh_ind I μ Q hs n st2 h2 (by omega)
/-- a comprehension with an invariant -/
theorem lc_ind {α : Type} {own : List Nat} {tg : Tg} {test : S → Res Bool} {el : S → Res D} (enc : α → D) (I : List α → List D → S → Prop) (xs : List α) (st : S) (h0 : I [] [] st) (hl : xs.length ≤ line) (hI : ∀ pre acc st, I pre acc st → acc.length ≤ pre.length)
    (hs : ∀ pre a post acc st, xs = pre ++ a :: post → I pre acc st → ∃ st1, asg tg (enc a) (wipeS st own) = some st1 ∧ ((∃ st2, test st1 = .ok false st2 ∧ I (pre ++ [a]) acc st2) ∨ ∃ st2 x st3, test st1 = .ok true st2 ∧ el st2 = .ok x st3 ∧ I (pre ++ [a]) (acc ++ [x]) st3)) :
    ∃ l st', lcRun own tg test el (xs.map enc) [] st = some (l, st') ∧ I xs l st' := by
  have key : ∀ (post pre : List α) (acc : List D) (st : S), xs = pre ++ post → I pre acc st → ∃ l st', lcRun own tg test el (post.map enc) acc st = some (l, st') ∧ I xs l st' := by
    intro post
    induction post with
    | nil =>
      intro pre acc st e h
      rw [List.append_nil] at e
      subst e
      exact ⟨acc, st, rfl, h⟩
    | cons a post ih =>
      intro pre acc st e h
      obtain ⟨st1, e1, k⟩ := hs pre a post acc st e h
      rw [List.map_cons]
      unfold lcRun
      rw [e1]
      dsimp only
      rcases k with ⟨st2, e2, h2⟩ | ⟨st2, x, st3, e2, e3, h3⟩
      · rw [e2]
        dsimp only
        (rw [if_neg Bool.false_ne_true])
        exact ih (pre ++ [a]) acc st2 (by rw [e, List.append_assoc]; rfl) h2
      · rw [e2]
        dsimp only
        rw [if_pos rfl, e3]
        dsimp only
        have := hI _ _ _ h
        have h5 : xs.length = pre.length + (post.length + 1) := by rw [e]; simp
        rw [if_pos (by omega)]
        exact ih (pre ++ [a]) (acc ++ [x]) st3 (by rw [e, List.append_assoc]; rfl) h3
  exact key xs [] [] st rfl h0
/-- .. that changes nothing but its own names -/
theorem lc_pure {α : Type} {own : List Nat} {tg : Tg} {test : S → Res Bool} {el : S → Res D} (enc : α → D) (p : α → Bool) (g : α → D) (xs : List α) (st : S) (hl : xs.length ≤ line)
    (hs : ∀ a ∈ xs, ∀ st0, wipeS st0 own = wipeS st own → ∃ st1, asg tg (enc a) (wipeS st own) = some st1 ∧ ∃ st2, test st1 = .ok (p a) st2 ∧ wipeS st2 own = wipeS st own ∧ (p a = true → ∃ st3, el st2 = .ok (g a) st3 ∧ wipeS st3 own = wipeS st own)) :
    ∃ st', lcRun own tg test el (xs.map enc) [] st = some ((xs.filter p).map g, st') ∧ wipeS st' own = wipeS st own := by
  obtain ⟨l, st', e, e1, e2⟩ := lc_ind enc (fun pre acc st' => acc = (pre.filter p).map g ∧ wipeS st' own = wipeS st own) xs st ⟨rfl, rfl⟩ hl (fun pre acc st' h => by rw [h.1, List.length_map]; exact List.length_filter_le ..) (tg := tg) (test := test) (el := el) (own := own)
    fun pre a post acc st0 e ⟨h1, h2⟩ => by
      obtain ⟨st1, k1, st2, k2, k3, k4⟩ := hs a (by rw [e]; simp) st0 h2
      refine ⟨st1, by rw [h2]; exact k1, ?_⟩
      cases hp : p a with
      | false => exact .inl ⟨st2, by rw [k2, hp], by rw [h1, List.filter_append]; simp [hp], k3⟩
      | true =>
        obtain ⟨st3, k5, k6⟩ := k4 hp
        exact .inr ⟨st2, g a, st3, by rw [k2, hp], k5, by rw [h1, List.filter_append]; simp [hp], k6⟩
  exact ⟨st', by rw [e, e1], e2⟩
theorem unwipe_eq {sl : List Slot} {st st' : S} : ∀ {own : List Nat}, wipeS st own = wipeS st' own → unwipe sl st own = unwipe sl st' own := by
  have key : ∀ (own : List Nat) (a b : S), a.hd = b.hd → a.sl.length = b.sl.length → (∀ j, j ∉ own → a.sl[j]? = b.sl[j]?) → unwipe sl a own = unwipe sl b own := by
    intro own a b h1 h2 h3
    have e1 : (unwipe sl a own).hd = (unwipe sl b own).hd := by rw [unwipe_hd, unwipe_hd, h1]
    have e2 : (unwipe sl a own).sl = (unwipe sl b own).sl := by
      apply List.ext_getElem?
      intro j
      by_cases hj : j ∈ own
      · have l1 := unwipe_len sl a own
        have l2 := unwipe_len sl b own
        by_cases hlt : j < a.sl.length
        · obtain ⟨x, hx⟩ : ∃ x, (unwipe sl a own).sl[j]? = some x := ⟨_, List.getElem?_eq_getElem (by rw [l1]; exact hlt)⟩
          obtain ⟨y, hy⟩ : ∃ y, (unwipe sl b own).sl[j]? = some y := ⟨_, List.getElem?_eq_getElem (by rw [l2, ← h2]; exact hlt)⟩
          rw [hx, hy, unwipe_in hj hx, unwipe_in hj hy]
        · rw [List.getElem?_eq_none (by rw [l1]; omega), List.getElem?_eq_none (by rw [l2]; omega)]
      · rw [unwipe_out hj, unwipe_out hj]; exact h3 j hj
    cases h : unwipe sl a own
    cases k : unwipe sl b own
    rw [h, k] at e1 e2
    simp only at e1 e2
    rw [e1, e2]
  intro own h
  refine key own st st' ?_ ?_ fun j hj => ?_
  · rw [← wipeS_hd st own, ← wipeS_hd st' own, h]
  · rw [← wipeS_len st own, ← wipeS_len st' own, h]
  · rw [← wipeS_out hj, h, wipeS_out hj]
def ifsT (G : Gm) (ifs : Option Z) (st : S) : Res Bool := match ifs with
  | none => .ok true st
  | some z => tru (evE G z st)
@[simp] theorem ifsT_none (G : Gm) (st : S) : ifsT G none st = .ok true st := rfl
@[simp] theorem ifsT_some (G : Gm) (z : Z) (st : S) : ifsT G (some z) st = tru (evE G z st) := rfl
theorem ev_lc {G : Gm} {own : List Nat} {tg : Tg} {k : Ik} {its : List Z} {ifs : Option Z} {elt : Z} {st : S} : evE G (.lc own tg k its ifs elt) st = (iterE k (evEs G its st)).bind fun ds st => match lcRun own tg (ifsT G ifs) (fun st => frz (evE G elt st)) ds [] st with
    | some (l, st') => .ok (.o (.lst l)) (unwipe st.sl st' own)
    | none => .stuck := by
  cases ifs with
  | none => exact congrFun ev_lc0 st
  | some z => exact congrFun ev_lc1 st
/-- the comprehension's value -/
theorem ev_lc_pure {α : Type} {G : Gm} {own : List Nat} {tg : Tg} {k : Ik} {its : List Z} {ifs : Option Z} {elt : Z} {st st1 : S} (enc : α → D) (p : α → Bool) (g : α → D) (xs : List α) (hi : iterE k (evEs G its st) = .ok (xs.map enc) st1) (hl : xs.length ≤ line)
    (hs : ∀ a ∈ xs, ∃ st2, asg tg (enc a) (wipeS st1 own) = some st2 ∧ ∃ st3, ifsT G ifs st2 = .ok (p a) st3 ∧ wipeS st3 own = wipeS st1 own ∧ (p a = true → ∃ st4, frz (evE G elt st3) = .ok (g a) st4 ∧ wipeS st4 own = wipeS st1 own)) :
    evE G (.lc own tg k its ifs elt) st = .ok (.o (.lst ((xs.filter p).map g))) (unwipe st1.sl (wipeS st1 own) own) := by
  rw [ev_lc, hi]
  obtain ⟨st', e, e'⟩ := lc_pure (own := own) (tg := tg) (test := ifsT G ifs) (el := fun st => frz (evE G elt st)) enc p g xs st1 hl fun a ha st0 _ => hs a ha
  show (match lcRun own tg (ifsT G ifs) (fun st => frz (evE G elt st)) (xs.map enc) [] st1 with
    | some (l, st') => (.ok (.o (.lst l)) (unwipe st1.sl st' own) : Res Rv)
    | none => .stuck) = _
  rw [e]
  show Res.ok _ (unwipe st1.sl st' own) = _
  congr 1
  refine unwipe_eq ?_
  rw [e']
  -- wiping twice is wiping once
  have key : ∀ (own : List Nat) (s : S), wipeS (wipeS s own) own = wipeS s own := by
    intro own s
    have e1 : (wipeS (wipeS s own) own).hd = (wipeS s own).hd := wipeS_hd _ _
    have e2 : (wipeS (wipeS s own) own).sl = (wipeS s own).sl := by
      apply List.ext_getElem?
      intro j
      by_cases hj : j ∈ own
      · by_cases hlt : j < s.sl.length
        · obtain ⟨x, hx⟩ : ∃ x, (wipeS (wipeS s own) own).sl[j]? = some x := ⟨_, List.getElem?_eq_getElem (by rw [wipeS_len, wipeS_len]; exact hlt)⟩
          obtain ⟨y, hy⟩ : ∃ y, (wipeS s own).sl[j]? = some y := ⟨_, List.getElem?_eq_getElem (by rw [wipeS_len]; exact hlt)⟩
          rw [hx, hy, wipeS_in hj hx, wipeS_in hj hy]
        · rw [List.getElem?_eq_none (by rw [wipeS_len, wipeS_len]; omega), List.getElem?_eq_none (by rw [wipeS_len]; omega)]
      · rw [wipeS_out hj]
    cases h : wipeS (wipeS s own) own
    cases k : wipeS s own
    rw [h, k] at e1 e2
    simp only at e1 e2
    rw [e1, e2]
  exact (key own st1).symm
/-! ### == of data -/
mutual
/-- plain data: no dict, no hand; so deep at most -/
def D.sh : Nat → D → Bool
  | _, .non => true
  | _, .bl _ => true
  | _, .int _ => true
  | _, .str s => PyData.strOk s
  | 0, .tup _ => false
  | 0, .lst _ => false
  | n + 1, .tup l => D.shs n l && decide (l.length ≤ 16777216)
  | n + 1, .lst l => D.shs n l && decide (l.length ≤ 16777216)
  | _, .dct _ => false
  | _, .hand => false
  | _, .scr _ => false
def D.shs : Nat → List D → Bool
  | _, [] => true
  | n, d :: l => D.sh n d && D.shs n l
end

mutual
theorem sh_pd : ∀ (n : Nat) (d : D), D.sh n d = true → ∃ p, d.pd = some p ∧ p.canLay0 = true ∧ p.depth ≤ n
  | n, .non, _ => ⟨.none, rfl, rfl, Nat.zero_le _⟩
  | n, .bl b, _ => ⟨.bool b, rfl, rfl, Nat.zero_le _⟩
  | n, .int b, _ => ⟨.int b, rfl, rfl, Nat.zero_le _⟩
  | n, .str b, h => ⟨.str b, rfl, by
      have h : PyData.strOk b = true := by cases n <;> exact h
      exact h, Nat.zero_le _⟩
  | 0, .tup l, h => by cases h
  | 0, .lst l, h => by cases h
  | n + 1, .tup l, h => by
    obtain ⟨ps, h1, h2, h3⟩ := shs_pd n l (Bool.and_eq_true_iff.mp h).1
    exact ⟨.tuple ps, by unfold D.pd; rw [h1]; rfl, h2, Nat.succ_le_succ h3⟩
  | n + 1, .lst l, h => by
    obtain ⟨ps, h1, h2, h3⟩ := shs_pd n l (Bool.and_eq_true_iff.mp h).1
    exact ⟨.list ps, by unfold D.pd; rw [h1]; rfl, h2, Nat.succ_le_succ h3⟩
  | n, .dct l, h => by cases n <;> cases h
  | n, .hand, h => by cases n <;> cases h
  | n, .scr l, h => by cases n <;> cases h
theorem shs_pd : ∀ (n : Nat) (d : List D), D.shs n d = true → ∃ p, D.pds d = some p ∧ PyData.canLayAll0 p = true ∧ PyData.depthAll p ≤ n
  | n, [], _ => ⟨[], rfl, rfl, Nat.zero_le _⟩
  | n, d :: l, h => by
    unfold D.shs at h
    rw [Bool.and_eq_true] at h
    obtain ⟨p, h1, h2, h3⟩ := sh_pd n d h.1
    obtain ⟨ps, k1, k2, k3⟩ := shs_pd n l h.2
    refine ⟨p :: ps, by unfold D.pds; rw [h1, k1], ?_, Nat.max_le.mpr ⟨h3, k3⟩⟩
    unfold PyData.canLayAll0
    rw [h2, k2]; rfl
end
theorem eqD_sh {x y : D} {n : Nat} (hn : n ≤ 60) (hx : x.sh n = true) (hy : y.sh n = true) : eqD x y = some (PyData.eqv x.pdn y.pdn) := by
  obtain ⟨p, h1, h2, h3⟩ := sh_pd n x hx
  obtain ⟨q, k1, k2, k3⟩ := sh_pd n y hy
  have ex : x.pdn = p := by unfold D.pdn; rw [h1]; rfl
  have ey : y.pdn = q := by unfold D.pdn; rw [k1]; rfl
  have sx : SeqAt.shaped p = true := by unfold SeqAt.shaped; rw [h2, decide_eq_true (by omega)]; rfl
  have sy : SeqAt.shaped q = true := by unfold SeqAt.shaped; rw [k2, decide_eq_true (by omega)]; rfl
  have gen : (match x.pd, y.pd with
    | some a, some b => if SeqAt.shaped a = true ∧ SeqAt.shaped b = true then some (PyData.eqv a b) else none
    | _, _ => none) = some (PyData.eqv x.pdn y.pdn) := by
    rw [h1, k1, ex, ey]
    dsimp only
    rw [if_pos ⟨sx, sy⟩]
  unfold eqD
  split
  · rename_i a b
    cases h1; cases k1
    rw [ex, ey]
    show some (decide (a = b)) = some (a == b)
    rfl
  · exact gen
theorem eqD_self {x : D} {n : Nat} (hn : n ≤ 60) (hx : x.sh n = true) : eqD x x = some true := by
  rw [eqD_sh hn hx hx]
  obtain ⟨p, h1, h2, h3⟩ := sh_pd n x hx
  have ex : x.pdn = p := by unfold D.pdn; rw [h1]; rfl
  rw [ex, SeqAt.eqv_refl p h2]
theorem shs_map {α : Type} {n : Nat} {f : α → D} {xs : List α} (h : ∀ x ∈ xs, (f x).sh n = true) : D.shs n (xs.map f) = true := by
  induction xs with
  | nil => rfl
  | cons a l ih =>
    rw [List.map_cons]
    unfold D.shs
    rw [h a List.mem_cons_self, ih fun x hx => h x (List.mem_cons_of_mem _ hx)]
    rfl
theorem shs_all {n : Nat} {xs : List D} (h : ∀ x ∈ xs, x.sh n = true) : D.shs n xs = true := by
  have := shs_map (f := id) h
  simpa using this
theorem shs_append {n : Nat} {xs ys : List D} (h : D.shs n xs = true) (k : D.shs n ys = true) : D.shs n (xs ++ ys) = true := by
  induction xs with
  | nil => exact k
  | cons a l ih =>
    unfold D.shs at h
    rw [Bool.and_eq_true] at h
    rw [List.cons_append]
    unfold D.shs
    rw [h.1, ih h.2]; rfl
theorem sh_tup {n : Nat} {l : List D} (h : D.shs n l = true) (k : l.length ≤ 16777216) : D.sh (n + 1) (.tup l) = true := by
  unfold D.sh
  rw [h, decide_eq_true k]; rfl
theorem sh_lst {n : Nat} {l : List D} (h : D.shs n l = true) (k : l.length ≤ 16777216) : D.sh (n + 1) (.lst l) = true := by
  unfold D.sh
  rw [h, decide_eq_true k]; rfl
theorem shs_mem {n : Nat} {l : List D} (h : D.shs n l = true) : ∀ x ∈ l, D.sh n x = true := by
  induction l with
  | nil => intro x hx; cases hx
  | cons a l ih =>
    unfold D.shs at h
    rw [Bool.and_eq_true] at h
    intro x hx
    (rcases List.mem_cons.mp hx with rfl | hx)
    · exact h.1
    · exact ih h.2 x hx
end ZZ
namespace ZZ
open PySem
def D.pl : D → Bool
  | .hand => false
  | .scr _ => false
  | _ => true
def D.within (l h : Int) : D → Bool
  | .int i => decide (l ≤ i) && decide (i ≤ h)
  | _ => false
def D.sized (l h : Int) : D → Bool
  | .tup xs => decide (l ≤ (xs.length : Int)) && decide ((xs.length : Int) ≤ h)
  | _ => false
def D.isT (k : Int) : D → Bool
  | .tup xs => decide ((xs.length : Int) = k)
  | _ => false
theorem sh_pl {n : Nat} {d : D} (h : d.sh n = true) : d.pl = true := by
  cases d with
  | hand => cases n <;> cases h
  | scr l => cases n <;> cases h
  | _ => rfl
@[simp] theorem wi_int (l h i : Int) : D.within l h (.int i) = (decide (l ≤ i) && decide (i ≤ h)) := rfl
@[simp] theorem sized_tup (l h : Int) (xs : List D) : D.sized l h (.tup xs) = (decide (l ≤ (xs.length : Int)) && decide ((xs.length : Int) ≤ h)) := rfl
@[simp] theorem isT_tup (k : Int) (xs : List D) : D.isT k (.tup xs) = decide ((xs.length : Int) = k) := rfl
theorem ss_nx {G : Gm} {z : ZS} {zs : List ZS} {st st' : S} (h : evS G z st = .nx st') : evSs G (z :: zs) st = evSs G zs st' := by
  show (evS G z st).seq (fun st => evSs G zs st) = _
  rw [h]; rfl
theorem ss_ret {G : Gm} {z : ZS} {zs : List ZS} {st st' : S} {v : Rv} (h : evS G z st = .ret v st') : evSs G (z :: zs) st = .ret v st' := by
  show (evS G z st).seq (fun st => evSs G zs st) = _
  rw [h]; rfl
theorem small_fdiv {a c : Int} (h0 : 0 ≤ a) (h1 : a ≤ 4611686018427387904) (h2 : 0 < c) : small64 (a.fdiv c) = true := by
  have e : a.fdiv c = a / c := Int.fdiv_eq_ediv_of_nonneg a (by omega)
  rw [e]
  have q0 : 0 ≤ a / c := Int.ediv_nonneg h0 (by omega)
  have q1 : a / c ≤ a := Int.ediv_le_self c h0
  exact small64_iff.mpr ⟨by omega, by omega⟩
theorem small_bd {i : Int} (h0 : -4611686018427387904 ≤ i) (h1 : i ≤ 4611686018427387904) : small64 i = true := by
  exact small64_iff.mpr ⟨by omega, by omega⟩
@[simp] theorem eqD_bb (a b : Bool) : eqD (.bl a) (.bl b) = some (decide (a = b)) := by
  cases a <;> cases b <;> rfl
theorem okR_bd {i : Int} (h0 : -4611686018427387904 < i) (h1 : i < 4611686018427387904) : okR i = true := by
  unfold okR
  rw [decide_eq_true_eq]
  omega
end ZZ

/-! ZW: step by step through a def. -/
namespace ZZ
open PySem
/-- the rows' end is as wanted -/
def Sd (Q : SR → Prop) (r : SR) : Prop := Q r
/-- a call's end is as wanted -/
def OkQ (Q : Rv → Option (List D) → Prop) (o : Out) : Prop := ∃ v hd, o = .ok v hd ∧ Q v hd
section
variable {G : Gm} {z : ZS} {zs : List ZS} {st st' st1 : S} {Q : SR → Prop}
theorem evSs_cons : evSs G (z :: zs) st = (evS G z st).seq fun st => evSs G zs st := rfl
theorem evSs_app : ∀ (xs ys : List ZS) (st : S), evSs G (xs ++ ys) st = (evSs G xs st).seq fun st => evSs G ys st
  | [], ys, st => rfl
  | x :: xs, ys, st => by
    rw [List.cons_append, evSs_cons, evSs_cons]
    cases evS G x st with
    | nx st' => exact evSs_app xs ys st'
    | _ => rfl
theorem sNx (h : evS G z st = .nx st') (k : Sd Q (evSs G zs st')) : Sd Q (evSs G (z :: zs) st) := by
  rw [evSs_cons, h]; exact k
theorem sRet {v : Rv} (h : evS G z st = .ret v st') (k : Q (.ret v st')) : Sd Q (evSs G (z :: zs) st) := by
  rw [evSs_cons, h]; exact k
theorem sExc {x : Ex} (h : evS G z st = .exc x st') (k : Q (.exc x st')) : Sd Q (evSs G (z :: zs) st) := by
  rw [evSs_cons, h]; exact k
theorem sNil (k : Q (.nx st)) : Sd Q (evSs G [] st) := k
theorem sIf {c : Z} {t e : List ZS} {b : Bool} (h : tru (evE G c st) = .ok b st1) (k : Sd Q (evSs G ((if b = true then t else e) ++ zs) st1)) : Sd Q (evSs G (.ift c t e :: zs) st) := by
  rw [evSs_cons]
  have e1 : evS G (.ift c t e) st = evSs G (if b = true then t else e) st1 := by
    show (tru (evE G c st)).s (fun b st => if b = true then evSs G t st else evSs G e st) = _
    rw [h]
    cases b <;> rfl
  rw [e1, ← evSs_app]
  exact k
theorem sFr {α : Type} {tg : Tg} {k : Ik} {its : List Z} {body : List ZS} (enc : α → D) (xs : List α) (I : List α → S → Prop) (hi : iterE k (evEs G its st) = .ok (xs.map enc) st1) (h0 : I [] st1)
    (hs : ∀ pre a post s, xs = pre ++ a :: post → I pre s → ∃ s1, asg tg (enc a) s = some s1 ∧ Sd (fun r => (∃ s2, (r = .nx s2 ∨ r = .cnt s2) ∧ I (pre ++ [a]) s2) ∨ (∃ s2, r = .brk s2 ∧ Sd Q (evSs G zs s2)) ∨ ∃ v s2, r = .ret v s2 ∧ Q (.ret v s2)) (evSs G body s1))
    (hd : ∀ s, I xs s → Sd Q (evSs G zs s)) : Sd Q (evSs G (.fr tg k its body :: zs) st) := by
  rw [evSs_cons]
  have e1 : evS G (.fr tg k its body) st = frRun tg (fun st => evSs G body st) (xs.map enc) st1 := by
    show (iterE k (evEs G its st)).s (fun ds st => frRun tg (fun st => evSs G body st) ds st) = _
    rw [hi]; rfl
  rw [e1]
  refine fr_ind enc I (fun r => Sd Q (r.seq fun st => evSs G zs st)) xs st1 h0 (fun pre a post s e h => ?_) hd
  obtain ⟨s1, e2, k⟩ := hs pre a post s e h
  refine ⟨s1, e2, ?_⟩
  rcases k with ⟨s2, e3, h3⟩ | ⟨s2, e3, h3⟩ | ⟨v, s2, e3, h3⟩
  · exact .inl ⟨s2, e3, h3⟩
  · exact .inr (.inl ⟨s2, e3, h3⟩)
  · exact .inr (.inr (.inl ⟨v, s2, e3, h3⟩))
theorem sWh {c : Z} {body : List ZS} (I : S → Prop) (μ : S → Nat) (h0 : I st) (hn : μ st < G.loops)
    (hs : ∀ s, I s → ∃ b s1, tru (evE G c s) = .ok b s1 ∧ (b = false → Sd Q (evSs G zs s1)) ∧ (b = true → Sd (fun r => ∃ s2, r = .nx s2 ∧ I s2 ∧ μ s2 < μ s) (evSs G body s1))) : Sd Q (evSs G (.wh c body :: zs) st) := by
  rw [evSs_cons]
  have e1 : evS G (.wh c body) st = whRun (fun st => tru (evE G c st)) (fun st => evSs G body st) G.loops st := rfl
  obtain ⟨s', e, q⟩ := wh_ind (test := fun st => tru (evE G c st)) (body := fun st => evSs G body st) I μ (fun s1 => Sd Q (evSs G zs s1)) (fun s h => by
    obtain ⟨b, s1, h1, h2, h3⟩ := hs s h
    cases b with
    | false => exact .inl ⟨s1, h1, h2 rfl⟩
    | true =>
      obtain ⟨s2, k1, k2, k3⟩ := h3 rfl
      exact .inr ⟨s1, s2, h1, k1, k2, k3⟩) G.loops st h0 hn
  rw [e1, e]
  exact q
end
section
variable {G : Gm} {d : Df} {ds : List D} {hd : Option (List D)}
theorem callD_eq (h : ds.length = d.ps) : callD G d ds hd = outOf (evSs G d.body ⟨ds.map Slot.fz ++ List.replicate (d.n - ds.length) .un, hd⟩) := by
  unfold callD; rw [if_pos h]
theorem callE {X : Out} (h : ds.length = d.ps) (k : Sd (fun r => outOf r = X) (evSs G d.body ⟨ds.map Slot.fz ++ List.replicate (d.n - ds.length) .un, hd⟩)) : callD G d ds hd = X := by
  rw [callD_eq h]; exact k
theorem callK {Q : Rv → Option (List D) → Prop} (h : ds.length = d.ps) (k : Sd (fun r => OkQ Q (outOf r)) (evSs G d.body ⟨ds.map Slot.fz ++ List.replicate (d.n - ds.length) .un, hd⟩)) : OkQ Q (callD G d ds hd) := by
  rw [callD_eq h]; exact k
end
/-! ### comprehensions with one name -/
theorem wipe1 (st : S) (j : Nat) : wipeS st [j] = st.put j .un := rfl
theorem put_put (st : S) (j : Nat) (a b : Slot) : (st.put j a).put j b = st.put j b := by
  unfold S.put
  simp
section
variable {α : Type} {G : Gm} {j : Nat} {k : Ik} {its : List Z} {ifs : Option Z} {elt : Z} {st st1 : S}
/-- [elt for j in its if ifs], all of it told at once -/
theorem lc_one (enc : α → D) (p : α → Bool) (g : α → D) (xs : List α) (hi : iterE k (evEs G its st) = .ok (xs.map enc) st1) (hl : xs.length ≤ 16777216)
    (hs : ∀ a ∈ xs, ifsT G ifs (st1.put j (.fz (enc a))) = .ok (p a) (st1.put j (.fz (enc a))) ∧ (p a = true → frz (evE G elt (st1.put j (.fz (enc a)))) = .ok (g a) (st1.put j (.fz (enc a))))) :
    evE G (.lc [j] (.nm j) k its ifs elt) st = .ok (.o (.lst ((xs.filter p).map g))) (st1.put j (st1.sl.getD j .un).keepF) := by
  have e := ev_lc_pure (own := [j]) (tg := .nm j) (elt := elt) (ifs := ifs) enc p g xs hi hl fun a ha => by
    obtain ⟨h1, h2⟩ := hs a ha
    refine ⟨st1.put j (.fz (enc a)), by rw [wipe1]; show some ((st1.put j .un).put j (.fz (enc a))) = _; rw [put_put], _, h1, by rw [wipe1, wipe1, put_put], fun hp => ⟨_, h2 hp, by rw [wipe1, wipe1, put_put]⟩⟩
  rw [e]
  congr 1
  show ((st1.put j .un).put j _) = _
  rw [put_put]
end
section
variable {α : Type} {G : Gm} {k : Ik} {its : List Z} {ifs : Option Z} {elt : Z} {st st1 : S}
/-- .. with a tuple of names -/
theorem lc_tup {own : List Nat} {l : List Tg} (enc : α → D) (at_ : α → S) (p : α → Bool) (g : α → D) (xs : List α) (hi : iterE k (evEs G its st) = .ok (xs.map enc) st1) (hl : xs.length ≤ 16777216)
    (hs : ∀ a ∈ xs, asg (.tp l) (enc a) (wipeS st1 own) = some (at_ a) ∧ wipeS (at_ a) own = wipeS st1 own ∧ ifsT G ifs (at_ a) = .ok (p a) (at_ a) ∧ (p a = true → frz (evE G elt (at_ a)) = .ok (g a) (at_ a))) :
    evE G (.lc own (.tp l) k its ifs elt) st = .ok (.o (.lst ((xs.filter p).map g))) (unwipe st1.sl (wipeS st1 own) own) :=
  ev_lc_pure (own := own) (tg := .tp l) (elt := elt) (ifs := ifs) enc p g xs hi hl fun a ha => by
    obtain ⟨h1, h2, h3, h4⟩ := hs a ha
    exact ⟨_, h1, _, h3, h2, fun hp => ⟨_, h4 hp, h2⟩⟩
end
theorem bls_map : ∀ (l : List Bool), D.bls (l.map .bl) = some l
  | [] => rfl
  | a :: l => by rw [List.map_cons]; unfold D.bls; rw [bls_map l]; rfl
@[simp] theorem bls_mapf {α : Type} (f : α → Bool) (l : List α) : D.bls (l.map fun a => .bl (f a)) = some (l.map f) := by
  have := bls_map (l.map f)
  rwa [List.map_map] at this
@[simp] theorem ints_map : ∀ (l : List Int), D.ints (l.map .int) = some l
  | [] => rfl
  | a :: l => by rw [List.map_cons]; unfold D.ints; rw [ints_map l]; rfl
@[simp] theorem ints_mapf {α : Type} (f : α → Int) (l : List α) : D.ints (l.map fun a => .int (f a)) = some (l.map f) := by
  have := ints_map (l.map f)
  rwa [List.map_map] at this
end ZZ

/-! ZX: loops with numbers, and more for the plain laws. -/
namespace ZZ
open PySem
def mapI {α : Type} (enc : Nat → α → D) : Nat → List α → List D
  | _, [] => []
  | k, a :: l => enc k a :: mapI enc (k + 1) l
theorem enum_map {α : Type} (enc : α → D) : ∀ (l : List α) (k : Nat), ((l.map enc).zipIdx k).map (fun p => D.tup [.int p.2, p.1]) = mapI (fun i a => .tup [.int i, enc a]) k l
  | [], k => rfl
  | a :: l, k => by
    rw [List.map_cons, List.zipIdx_cons, List.map_cons, enum_map enc l (k + 1)]
    rfl
theorem fr_indI {α : Type} {tg : Tg} {body : S → SR} (enc : Nat → α → D) (I : List α → S → Prop) (Q : SR → Prop) (xs : List α) (st : S) (h0 : I [] st)
    (hs : ∀ pre a post st, xs = pre ++ a :: post → I pre st → ∃ st1, asg tg (enc pre.length a) st = some st1 ∧ ((∃ st2, (body st1 = .nx st2 ∨ body st1 = .cnt st2) ∧ I (pre ++ [a]) st2) ∨ (∃ st2, body st1 = .brk st2 ∧ Q (.nx st2)) ∨ (∃ v st2, body st1 = .ret v st2 ∧ Q (.ret v st2)) ∨ ∃ x st2, body st1 = .exc x st2 ∧ Q (.exc x st2)))
    (hd : ∀ st, I xs st → Q (.nx st)) : Q (frRun tg body (mapI enc 0 xs) st) := by
  have key : ∀ (post pre : List α) (st : S), xs = pre ++ post → I pre st → Q (frRun tg body (mapI enc pre.length post) st) := by
    intro post
    induction post with
    | nil =>
      intro pre st e h
      rw [List.append_nil] at e
      subst e
      exact hd st h
    | cons a post ih =>
      intro pre st e h
      obtain ⟨st1, e1, k⟩ := hs pre a post st e h
      unfold mapI frRun
      rw [e1]
      dsimp only
      have ih2 := fun st2 => ih (pre ++ [a]) st2 (by rw [e, List.append_assoc]; rfl)
      rw [List.length_append] at ih2
      rcases k with ⟨st2, e2 | e2, h2⟩ | ⟨st2, e2, q⟩ | ⟨v, st2, e2, q⟩ | ⟨x, st2, e2, q⟩
      · rw [e2]; exact ih2 st2 h2
      · rw [e2]; exact ih2 st2 h2
      · rw [e2]; exact q
      · rw [e2]; exact q
      · rw [e2]; exact q
  exact key xs [] st rfl h0
section
variable {G : Gm} {z : ZS} {zs : List ZS} {st st' st1 : S} {Q : SR → Prop}
theorem sFrI {α : Type} {tg : Tg} {k : Ik} {its : List Z} {body : List ZS} (enc : Nat → α → D) (xs : List α) (I : List α → S → Prop) (hi : iterE k (evEs G its st) = .ok (mapI enc 0 xs) st1) (h0 : I [] st1)
    (hs : ∀ pre a post s, xs = pre ++ a :: post → I pre s → ∃ s1, asg tg (enc pre.length a) s = some s1 ∧ Sd (fun r => (∃ s2, (r = .nx s2 ∨ r = .cnt s2) ∧ I (pre ++ [a]) s2) ∨ (∃ s2, r = .brk s2 ∧ Sd Q (evSs G zs s2)) ∨ (∃ v s2, r = .ret v s2 ∧ Q (.ret v s2)) ∨ ∃ x s2, r = .exc x s2 ∧ Q (.exc x s2)) (evSs G body s1))
    (hd : ∀ s, I xs s → Sd Q (evSs G zs s)) : Sd Q (evSs G (.fr tg k its body :: zs) st) := by
  rw [evSs_cons]
  have e1 : evS G (.fr tg k its body) st = frRun tg (fun st => evSs G body st) (mapI enc 0 xs) st1 := by
    show (iterE k (evEs G its st)).s (fun ds st => frRun tg (fun st => evSs G body st) ds st) = _
    rw [hi]; rfl
  rw [e1]
  refine fr_indI enc I (fun r => Sd Q (r.seq fun st => evSs G zs st)) xs st1 h0 (fun pre a post s e h => ?_) hd
  obtain ⟨s1, e2, k⟩ := hs pre a post s e h
  exact ⟨s1, e2, k⟩
/-- enumerate -/
theorem it_enum {α : Type} {its : List Z} {x : D} (enc : α → D) (xs : List α) (h : evEs G its st = .ok [x] st1) (hx : seqOf x = some (xs.map enc)) : iterE .enum (evEs G its st) = .ok (mapI (fun i a => .tup [.int i, enc a]) 0 xs) st1 := by
  rw [h]
  show lift (iterD .enum [x]) st1 = _
  cases x <;> first | (cases hx; done) | skip
  all_goals
    cases hx
    show Res.ok _ st1 = _
    rw [enum_map]
theorem rangeI0 (j : Int) : (rangeI 0 j).map D.int = (List.range j.toNat).map fun (k : Nat) => D.int (k : Int) := by
  unfold rangeI
  rw [List.map_map, Int.sub_zero]
  (refine List.map_congr_left fun k _ => ?_)
  show D.int (0 + (k : Int)) = _
  rw [Int.zero_add]
/-- range(j) -/
theorem it_rng {its : List Z} {j : Int} (h : evEs G its st = .ok [.int j] st1) (h0 : -4611686018427387904 < j) (h1 : j < 4611686018427387904) : iterE .rng1 (evEs G its st) = .ok ((List.range j.toNat).map fun (k : Nat) => D.int (k : Int)) st1 := by
  rw [h]
  show lift (if okR j = true then some ((rangeI 0 j).map D.int) else none) st1 = _
  rw [if_pos (okR_bd h0 h1), rangeI0]
  rfl
end
theorem range_at {n : Nat} {pre post : List Nat} {a : Nat} (h : List.range n = pre ++ a :: post) : pre.length = a ∧ a < n := by
  have h1 : (List.range n)[pre.length]? = some a := by rw [h]; simp
  obtain ⟨h2, h3⟩ := List.getElem?_eq_some_iff.mp h1
  rw [List.length_range] at h2
  rw [List.getElem_range] at h3
  exact ⟨h3, by omega⟩
theorem length_mapI {α : Type} (enc : Nat → α → D) : ∀ (k : Nat) (l : List α), (mapI enc k l).length = l.length
  | _, [] => rfl
  | k, a :: l => congrArg (· + 1) (length_mapI enc (k + 1) l)
/-- a for loop, with an exception too -/
theorem sFrX {α : Type} {G : Gm} {zs : List ZS} {st st1 : S} {Q : SR → Prop} {tg : Tg} {k : Ik} {its : List Z} {body : List ZS} (enc : α → D) (xs : List α) (I : List α → S → Prop) (hi : iterE k (evEs G its st) = .ok (xs.map enc) st1) (h0 : I [] st1)
    (hs : ∀ pre a post s, xs = pre ++ a :: post → I pre s → ∃ s1, asg tg (enc a) s = some s1 ∧ Sd (fun r => (∃ s2, (r = .nx s2 ∨ r = .cnt s2) ∧ I (pre ++ [a]) s2) ∨ (∃ s2, r = .brk s2 ∧ Sd Q (evSs G zs s2)) ∨ (∃ v s2, r = .ret v s2 ∧ Q (.ret v s2)) ∨ ∃ x s2, r = .exc x s2 ∧ Q (.exc x s2)) (evSs G body s1))
    (hd : ∀ s, I xs s → Sd Q (evSs G zs s)) : Sd Q (evSs G (.fr tg k its body :: zs) st) := by
  rw [evSs_cons]
  have e1 : evS G (.fr tg k its body) st = frRun tg (fun st => evSs G body st) (xs.map enc) st1 := by
    show (iterE k (evEs G its st)).s (fun ds st => frRun tg (fun st => evSs G body st) ds st) = _
    rw [hi]; rfl
  rw [e1]
  refine fr_ind enc I (fun r => Sd Q (r.seq fun st => evSs G zs st)) xs st1 h0 (fun pre a post s e h => ?_) hd
  obtain ⟨s1, e2, k⟩ := hs pre a post s e h
  exact ⟨s1, e2, k⟩
@[simp] theorem ixN_0 (n : Nat) : L2.ixN (n + 1) 0 = some 0 := ixN_lt (k := 0) (by omega)
@[simp] theorem ixN_1 (n : Nat) : L2.ixN (n + 2) 1 = some 1 := ixN_lt (k := 1) (by omega)
@[simp] theorem ixN_2 (n : Nat) : L2.ixN (n + 3) 2 = some 2 := ixN_lt (k := 2) (by omega)
@[simp] theorem ixN_3 (n : Nat) : L2.ixN (n + 4) 3 = some 3 := ixN_lt (k := 3) (by omega)
@[simp] theorem ixN_n (n : Nat) : L2.ixN (n + 1) (n : Int) = some n := ixN_lt (by omega)
@[simp] theorem set_n (l : List D) (x y : D) : (l ++ [x]).set l.length y = l ++ [y] := by
  rw [List.set_append_right _ _ (Nat.le_refl _), Nat.sub_self]; rfl
@[simp] theorem atI_n (l : List D) (x : D) : L2.atI (l ++ [x]) (l.length : Int) = some x := atI_k (by simp)
theorem cut_to {α : Type} {l : List α} {k : Int} (h0 : 0 ≤ k) : cutD l none (some k) = l.take k.toNat := by
  obtain ⟨n, rfl⟩ : ∃ n : Nat, k = n := ⟨k.toNat, by omega⟩
  unfold cutD
  rw [HT.sIx_none, HT.sIx_nat, List.drop_zero, Nat.sub_zero, Int.toNat_natCast]
  rcases Nat.le_total n l.length with h | h
  · rw [Nat.min_eq_left h]
  · rw [Nat.min_eq_right h, List.take_of_length_le (Nat.le_refl _), List.take_of_length_le h]
theorem cut_from {α : Type} {l : List α} {k : Int} (h0 : 0 ≤ k) : cutD l (some k) none = l.drop k.toNat := by
  obtain ⟨n, rfl⟩ : ∃ n : Nat, k = n := ⟨k.toNat, by omega⟩
  unfold cutD
  rw [HT.sIx_none, HT.sIx_nat, Int.toNat_natCast]
  rcases Nat.le_total n l.length with h | h
  · (rw [Nat.min_eq_left h, List.take_of_length_le (by simp)])
  · rw [Nat.min_eq_right h, Nat.sub_self, List.drop_eq_nil_of_le h]
    rfl
theorem cut_fromto {α : Type} {l : List α} {j k : Int} (h0 : 0 ≤ j) (h1 : j ≤ k) : cutD l (some j) (some k) = (l.drop j.toNat).take (k.toNat - j.toNat) := by
  obtain ⟨n, rfl⟩ : ∃ n : Nat, j = n := ⟨j.toNat, by omega⟩
  obtain ⟨m, rfl⟩ : ∃ n : Nat, k = n := ⟨k.toNat, by omega⟩
  unfold cutD
  rw [HT.sIx_nat, HT.sIx_nat, Int.toNat_natCast, Int.toNat_natCast]
  rcases Nat.le_total n l.length with h | h
  · rw [Nat.min_eq_left h]
    rcases Nat.le_total m l.length with h2 | h2
    · rw [Nat.min_eq_left h2]
    · rw [Nat.min_eq_right h2, List.take_of_length_le (by simp), List.take_of_length_le (by rw [List.length_drop]; omega)]
  · rw [Nat.min_eq_right h, List.drop_length, List.drop_eq_nil_of_le h, List.take_nil, List.take_nil]
@[simp] theorem cut_to0 {α : Type} (l : List α) : cutD l none (some 0) = [] := by rw [cut_to (Int.le_refl 0)]; rfl
@[simp] theorem cut_from1 {α : Type} (a : α) (l : List α) : cutD (a :: l) (some 1) none = l := by rw [cut_from (by decide)]; rfl
@[simp] theorem cut_ton {α : Type} (l : List α) (x : α) : cutD (l ++ [x]) none (some (l.length : Int)) = l := by rw [cut_to (by omega)]; simp
@[simp] theorem cut_fromn {α : Type} (l : List α) (x : α) : cutD (l ++ [x]) (some ((l.length : Int) + 1)) none = [] := by
  rw [cut_from (by omega)]
  exact List.drop_eq_nil_of_le (by rw [List.length_append]; show l.length + 1 ≤ _; omega)
theorem filt_true {α : Type} (l : List α) : l.filter (fun _ => true) = l := List.filter_eq_self.mpr fun _ _ => rfl
section
variable {α : Type} {G : Gm} {j : Nat} {k : Ik} {its : List Z} {elt : Z} {st st1 : S}
theorem lc_one0 (enc g : α → D) (xs : List α) (hi : iterE k (evEs G its st) = .ok (xs.map enc) st1) (hl : xs.length ≤ 16777216)
    (hs : ∀ a ∈ xs, frz (evE G elt (st1.put j (.fz (enc a)))) = .ok (g a) (st1.put j (.fz (enc a)))) :
    evE G (.lc [j] (.nm j) k its none elt) st = .ok (.o (.lst (xs.map g))) (st1.put j (st1.sl.getD j .un).keepF) := by
  have := lc_one (G := G) (j := j) (k := k) (its := its) (ifs := none) (elt := elt) enc (fun _ => true) g xs hi hl fun a ha => ⟨rfl, fun _ => hs a ha⟩
  rw [this, filt_true]
theorem lc_tup0 {own : List Nat} {l : List Tg} (enc : α → D) (at_ : α → S) (g : α → D) (xs : List α) (hi : iterE k (evEs G its st) = .ok (xs.map enc) st1) (hl : xs.length ≤ 16777216)
    (hs : ∀ a ∈ xs, asg (.tp l) (enc a) (wipeS st1 own) = some (at_ a) ∧ wipeS (at_ a) own = wipeS st1 own ∧ frz (evE G elt (at_ a)) = .ok (g a) (at_ a)) :
    evE G (.lc own (.tp l) k its none elt) st = .ok (.o (.lst (xs.map g))) (unwipe st1.sl (wipeS st1 own) own) := by
  have := lc_tup (G := G) (own := own) (l := l) (k := k) (its := its) (ifs := none) (elt := elt) enc at_ (fun _ => true) g xs hi hl fun a ha => by
    obtain ⟨h1, h2, h3⟩ := hs a ha
    exact ⟨h1, h2, rfl, fun _ => h3⟩
  rw [this, filt_true]
end
/-- the turns of a law -/
theorem ev_turns {G : Gm} {j k : Nat} {its : List Z} {elt : Z} {st st1 : S} {h : Hn} (hi : iterE .rng1 (evEs G its st) = .ok ((List.range k).map fun (k : Nat) => D.int (k : Int)) st1) (h1 : st1.hd = h.d) (hk : k ≤ 16777216)
    (hs : ∀ (a : Nat) (h : Hn), a < k → ∃ h' : Hn, evE G elt ⟨(st1.put j (.fz (.int a))).sl, h.d⟩ = .ok (.f (.bl true)) ⟨(st1.put j (.fz (.int a))).sl, h'.d⟩) :
    ∃ h' : Hn, evE G (.lc [j] (.nm j) .rng1 its none elt) st = .ok (.o (.lst (List.replicate k (.bl true)))) ⟨(st1.put j (st1.sl.getD j .un).keepF).sl, h'.d⟩ := by
  obtain ⟨l, st', e, e1, s, h', e2⟩ := lc_ind (own := [j]) (tg := .nm j) (test := ifsT G none) (el := fun st => frz (evE G elt st)) (fun (k : Nat) => D.int (k : Int)) (fun pre acc st => acc = List.replicate pre.length (.bl true) ∧ ∃ (s : Slot) (h : Hn), st = ⟨(st1.put j s).sl, h.d⟩ ∨ st = st1) (List.range k) st1 ⟨rfl, .un, h, .inr rfl⟩ (by rw [List.length_range]; exact hk) (fun pre acc st h => by rw [h.1, List.length_replicate]; exact Nat.le_refl _) fun pre a post acc st e ⟨e1, s, h0, e2⟩ => by
    have ha := (range_at e).2
    have e3 : ∃ h2 : Hn, wipeS st [j] = ⟨(st1.put j .un).sl, h2.d⟩ := by
      rcases e2 with e2 | e2
      · refine ⟨h0, ?_⟩
        rw [e2, wipe1]
        show S.mk (((st1.put j s).sl).set j .un) _ = _
        unfold S.put
        rw [List.set_set]
      · refine ⟨h, ?_⟩
        rw [e2, wipe1, ← h1]
        rfl
    obtain ⟨h2, e3⟩ := e3
    obtain ⟨h3, e4⟩ := hs a h2 ha
    have e5 : asg (.nm j) (.int a) (wipeS st [j]) = some ⟨(st1.put j (.fz (.int a))).sl, h2.d⟩ := by
      rw [e3]
      show some (S.mk (((st1.put j .un).sl).set j _) _) = _
      unfold S.put
      rw [List.set_set]
    refine ⟨_, e5, .inr ⟨_, .bl true, _, rfl, by rw [e4]; rfl, ?_, _, h3, .inl rfl⟩⟩
    rw [e1, List.length_append]
    show _ = List.replicate (pre.length + 1) _
    rw [List.replicate_succ']
  rw [List.length_range] at e1
  rw [e1] at e
  rcases e2 with e2 | e2
  · refine ⟨h', ?_⟩
    rw [ev_lc, hi]
    show (match lcRun [j] (.nm j) (ifsT G none) (fun st => frz (evE G elt st)) ((List.range k).map fun (k : Nat) => D.int (k : Int)) [] st1 with
      | some (l, st') => (.ok (.o (.lst l)) (unwipe st1.sl st' [j]) : Res Rv)
      | none => .stuck) = _
    rw [e]
    show Res.ok _ (st'.put j _) = _
    rw [e2]
    unfold S.put
    simp only [List.set_set]
  · refine ⟨h, ?_⟩
    rw [ev_lc, hi]
    show (match lcRun [j] (.nm j) (ifsT G none) (fun st => frz (evE G elt st)) ((List.range k).map fun (k : Nat) => D.int (k : Int)) [] st1 with
      | some (l, st') => (.ok (.o (.lst l)) (unwipe st1.sl st' [j]) : Res Rv)
      | none => .stuck) = _
    rw [e]
    show Res.ok _ (st'.put j _) = _
    rw [e2]
    unfold S.put
    rw [← h1]
theorem all_rep (k : Nat) : D.bls (List.replicate k (.bl true)) = some (List.replicate k true) := by
  induction k with
  | zero => rfl
  | succ k ih => rw [List.replicate_succ, List.replicate_succ]; unfold D.bls; rw [ih]; rfl
section
variable {G : Gm} {z : ZS} {zs b s : List ZS} {st st' st1 : S} {Q : SR → Prop} {c : Str} {i : Nat} {x : Ex}
theorem sTryX (h : evSs G b st = .exc x st1) (hs : G.sub x.c c = some true) (k : Sd (fun r => ∃ st2, r = .nx st2 ∧ Sd Q (evSs G zs (clrS st2 i))) (evSs G s (st1.put i (.sp (some x.c))))) : Sd Q (evSs G (.try_ b c i s :: zs) st) := by
  obtain ⟨st2, e, k⟩ := k
  rw [evSs_cons]
  have e1 : evS G (.try_ b c i s) st = SR.nx (clrS st2 i) := by
    show (match evSs G b st with
    | .exc x st1 => match G.sub x.c c with
      | some true => match evSs G s (st1.put i (.sp (some x.c))) with
        | .nx st2 => SR.nx (clrS st2 i)
        | .brk st2 => SR.brk (clrS st2 i)
        | .cnt st2 => SR.cnt (clrS st2 i)
        | .ret v st2 => SR.ret v (clrS st2 i)
        | _ => SR.stuck
      | some false => SR.exc x st1
      | none => SR.stuck
    | r => r) = _
    rw [h]
    dsimp only
    rw [hs]
    dsimp only
    rw [e]
  rw [e1]
  exact k
theorem sTryR (h : evSs G b st = .exc x st1) (hs : G.sub x.c c = some true) (k : Sd (fun r => ∃ v st2, r = .ret v st2 ∧ Q (.ret v (clrS st2 i))) (evSs G s (st1.put i (.sp (some x.c))))) : Sd Q (evSs G (.try_ b c i s :: zs) st) := by
  obtain ⟨v, st2, e, k⟩ := k
  rw [evSs_cons]
  have e1 : evS G (.try_ b c i s) st = SR.ret v (clrS st2 i) := by
    show (match evSs G b st with
    | SR.exc x st1 => match G.sub x.c c with
      | some true => match evSs G s (st1.put i (.sp (some x.c))) with
        | SR.nx st2 => SR.nx (clrS st2 i)
        | SR.brk st2 => SR.brk (clrS st2 i)
        | SR.cnt st2 => SR.cnt (clrS st2 i)
        | SR.ret v st2 => SR.ret v (clrS st2 i)
        | _ => SR.stuck
      | some false => SR.exc x st1
      | none => SR.stuck
    | r => r) = _
    rw [h]
    dsimp only
    rw [hs]
    dsimp only
    rw [e]
  rw [e1]
  exact k
theorem sTryN (h : evSs G b st = .nx st1) (k : Sd Q (evSs G zs st1)) : Sd Q (evSs G (.try_ b c i s :: zs) st) := by
  rw [evSs_cons]
  have e1 : evS G (.try_ b c i s) st = SR.nx st1 := by
    show (match evSs G b st with
    | .exc x st1 => match G.sub x.c c with
      | some true => match evSs G s (st1.put i (.sp (some x.c))) with
        | .nx st2 => SR.nx (clrS st2 i)
        | .brk st2 => SR.brk (clrS st2 i)
        | .cnt st2 => SR.cnt (clrS st2 i)
        | .ret v st2 => SR.ret v (clrS st2 i)
        | _ => SR.stuck
      | some false => SR.exc x st1
      | none => SR.stuck
    | r => r) = _
    rw [h]
  rw [e1]
  exact k
end
theorem ev_lam {G : Gm} {f : Nat} {cap : List Nat} {a : Z} {st : S} {v : Rv} {hd : Option (List D)} (h : G.lam f (fun hd => (evE G a ⟨maskS (thawS st cap), hd⟩).out) st.hd = .ok v hd) : evE G (.lam f cap a) st = .ok v ⟨(thawS st cap).sl, hd⟩ := by
  show (match G.lam f (fun hd => (evE G a ⟨maskS (thawS st cap), hd⟩).out) st.hd with
    | .ok v hd => Res.ok v ⟨(thawS st cap).sl, hd⟩
    | _ => Res.stuck) = _
  rw [h]
theorem cal_exc {G : Gm} {ds : List D} {hd' : Option (List D)} {e : Ex} {z : List Z} {st st' : S} {f : Nat} (h : evEs G z st = .ok ds st') (k : G.cal f ds st'.hd = .exc e hd') : (evE G (.call f z) st).out = .exc e hd' := by
  show ((evEs G z st).bind fun ds st => (G.cal f ds st.hd).res st).out = _
  rw [h]
  show ((G.cal f ds st'.hd).res st').out = _
  rw [k]
  rfl
end ZZ

/-! ZY: plain facts of lists: put in order, gone through, counted. -/
namespace ZZ
open PySem
@[simp] theorem ltP_int (a b : Int) : ltP (.int a) (.int b) = decide (a < b) := PySem.W.dataLt_int a b
theorem pds_ints : ∀ (L : List Int), D.pds (L.map .int) = some (L.map .int)
  | [] => rfl
  | a :: l => by
    rw [List.map_cons]
    unfold D.pds D.pd
    rw [pds_ints l]
    rfl
theorem depthAll_ints : ∀ (L : List Int), PyData.depthAll (L.map .int) = 0
  | [] => rfl
  | a :: l => by
    rw [List.map_cons]
    show max (PyData.depth (.int a)) (PyData.depthAll (l.map .int)) = 0
    rw [depthAll_ints l]
    rfl
theorem cmpOk_ints (L : List Int) : cmpOk (L.map .int) = true := by
  unfold cmpOk
  rw [pds_ints]
  dsimp only
  rw [depthAll_ints, Bool.and_eq_true, Bool.and_eq_true, List.all_eq_true, List.all_eq_true]
  refine ⟨⟨fun x hx => ?_, fun x hx => ?_⟩, rfl⟩
  · obtain ⟨a, _, rfl⟩ := List.mem_map.mp hx
    rw [List.all_eq_true]
    intro y hy
    (obtain ⟨b, _, rfl⟩ := List.mem_map.mp hy)
    rfl
  · obtain ⟨a, _, rfl⟩ := List.mem_map.mp hx
    rfl
theorem srtOk_ints (L : List Int) : srtOk (L.map .int) = true := by
  unfold srtOk
  rw [cmpOk_ints, Bool.true_and, Bool.or_eq_true]
  refine .inr ?_
  rw [List.all_eq_true]
  intro x hx
  (obtain ⟨a, _, rfl⟩ := List.mem_map.mp hx)
  rfl
theorem sort_ints {L T : List Int} (h : L.Perm T) (k : T.Pairwise (· ≤ ·)) : L.mergeSort (fun a b => !decide (b < a)) = T := by
  have h1 := List.mergeSort_perm L (fun a b => !decide (b < a))
  have h2 := List.pairwise_mergeSort (le := fun (a b : Int) => !decide (b < a)) (fun a b c x y => by
    simp only [Bool.not_eq_true', decide_eq_false_iff_not] at x y ⊢
    omega) (fun a b => by
    simp only [Bool.or_eq_true, Bool.not_eq_true', decide_eq_false_iff_not]
    omega) L
  refine List.Perm.eq_of_pairwise (le := fun (a b : Int) => a ≤ b) (fun a b _ _ x y => Int.le_antisymm x y) (h2.imp fun {a b} x => ?_) k (h1.trans h)
  simp only [Bool.not_eq_true', decide_eq_false_iff_not] at x
  omega
theorem sortD_ints {L T : List Int} (h : L.Perm T) (k : T.Pairwise (· ≤ ·)) : sortD (L.map .int) = T.map .int := by
  rw [← sort_ints h k]
  unfold sortD
  exact (List.map_mergeSort fun a _ b _ => by rw [ltP_int]).symm
theorem pairwise_range (f : Int) (n : Nat) : ((List.range n).map fun (k : Nat) => f + (k : Int)).Pairwise (· ≤ ·) := by
  rw [List.pairwise_map]
  exact List.pairwise_lt_range.imp fun h => by omega
theorem rng_mul (a b : Nat) : (List.range a).flatMap (fun r => (List.range b).map fun c => r * b + c) = List.range (a * b) := by
  induction a with
  | zero => rw [Nat.zero_mul]; rfl
  | succ a ih =>
    rw [List.range_succ, List.flatMap_append, ih, Nat.succ_mul, List.range_add]
    simp
theorem rng_lt {n m : Nat} (h : m ≤ n) : (List.range n).filter (fun k => decide (k < m)) = List.range m := by
  obtain ⟨d, rfl⟩ : ∃ d, n = m + d := ⟨n - m, by omega⟩
  rw [List.range_add, List.filter_append, List.filter_eq_self.mpr, List.filter_eq_nil_iff.mpr, List.append_nil]
  · intro x hx
    obtain ⟨y, _, rfl⟩ := List.mem_map.mp hx
    simp
  · intro x hx
    exact decide_eq_true (List.mem_range.mp hx)
theorem fm_cons {α β : Type} (g : α → β) (F : α → List β) : ∀ (ys : List α), (ys.flatMap fun y => g y :: F y).Perm (ys.map g ++ ys.flatMap F)
  | [] => .nil
  | y :: ys => by
    rw [List.flatMap_cons, List.map_cons, List.flatMap_cons, List.cons_append, List.cons_append]
    refine .cons _ ?_
    refine ((fm_cons g F ys).append_left _).trans ?_
    (rw [← List.append_assoc, ← List.append_assoc])
    exact List.perm_append_comm.append_right _
theorem fm_swap {α β γ : Type} (g : α → β → γ) (ys : List β) : ∀ (xs : List α), (xs.flatMap fun x => ys.map (g x)).Perm (ys.flatMap fun y => xs.map fun x => g x y)
  | [] => by
    have : (ys.flatMap fun y => ([] : List α).map fun x => g x y) = [] := by
      induction ys with
      | nil => rfl
      | cons y l ih => rw [List.flatMap_cons, ih]; rfl
    rw [this]
    exact .nil
  | x :: xs => by
    rw [List.flatMap_cons]
    exact ((fm_swap g ys xs).append_left _).trans (fm_cons (g x) (fun y => xs.map fun x => g x y) ys).symm
theorem fm_len {α β : Type} {F : α → List β} {K : Nat} : ∀ {xs : List α}, (∀ x ∈ xs, (F x).length ≤ K) → (xs.flatMap F).length ≤ xs.length * K
  | [], _ => Nat.zero_le _
  | x :: xs, h => by
    rw [List.flatMap_cons, List.length_append, List.length_cons, Nat.succ_mul]
    have h1 := h x List.mem_cons_self
    have h2 := fm_len (xs := xs) fun y hy => h y (List.mem_cons_of_mem _ hy)
    omega
theorem fm_map {α β γ : Type} (f : β → γ) (F : α → List β) (xs : List α) : (xs.flatMap F).map f = xs.flatMap fun x => (F x).map f := List.map_flatMap ..
theorem atI_range {n r : Nat} (g : Nat → D) (h : r < n) : L2.atI ((List.range n).map g) (r : Int) = some (g r) := atI_k (by
  rw [List.getElem?_map, List.getElem?_range h]; rfl)
theorem ceil_nat {m n : Nat} (h : 0 < n) : (((m : Int) + n - 1)).fdiv n = (((m + n - 1) / n : Nat) : Int) := by
  rw [Int.fdiv_eq_ediv_of_nonneg _ (by omega)]
  have : ((m : Int) + n - 1) = ((m + n - 1 : Nat) : Int) := by omega
  rw [this]
  rfl
end ZZ

/-! the table, the rules of each def -/
namespace ZZ.L
open L2 PyProof.Rows PySem.Spec PySem
def top (i : Nat) : Stmt := PySem.Challenge.pw_printyard_k55_whole_numbers_stamped_on_s.main.body.getD i (.Pass ⟨0, 0, 0, 0⟩)
def inner (i j : Nat) : Stmt := match top i with
  | .ClassDef _ _ _ body _ _ _ _ _ _ _ => (body.getD j (.Pass ⟨0, 0, 0, 0⟩))
  | s => s
def b0 : List ZS := [.ret (.and (.isi (.var 0) .int) (.not (.isi (.var 0) .bool)))]
def b1 : List ZS := [.ret (.and (.call 0 [.var 0]) (.cmp2 .le .le (.var 1) (.var 0) (.var 2)))]
def b2 : List ZS := [.ret (.and (.isi (.var 0) .tuple) (.cmp .eq (.fx .len [.var 0]) (.var 1)))]
def b3 : List ZS := [.ift (.not (.call 1 [.var 0, .var 1, .var 2])) [.rai "NoNumber" []] []]
def b4 : List ZS := [.ret (.bin .fdiv (.bin .sub (.bin .add (.var 0) (.var 1)) (.con (.int 1))) (.var 1))]
def b5 : List ZS := [.ret (.and (.call 2 [.var 0, .con (.int 2)]) (.fn .all [.lc [1] (.nm 1) .val [.var 0] none (.call 1 [.var 1, .con (.int 1), .glo "MOST_SIDE" (.int 8)])]))]
def b6 : List ZS := [.ift (.not (.call 5 [.var 0])) [.rai "NoSheet" []] []]
def b7 : List ZS := [.ex (.call 6 [.var 0]),
  .ex (.call 3 [.var 1, .con (.int 1), .bin .pow (.con (.int 10)) (.con (.int 6))]),
  .ret (.call 4 [.var 1, .bin .mul (.idx (.var 0) (.con (.int 0))) (.idx (.var 0) (.con (.int 1)))])]
def b8 : List ZS := [.ex (.call 6 [.var 0]),
  .ex (.call 3 [.var 1, .con (.int 1), .bin .pow (.con (.int 10)) (.con (.int 6))]),
  .ex (.call 3 [.var 2, .con (.int 0), .bin .pow (.con (.int 10)) (.con (.int 9))]),
  .set 3 (.call 7 [.var 0, .var 1]),
  .set 4 (.lst []),
  .fr (.nm 5) .rng1 [.idx (.var 0) (.con (.int 0))] [.app 4 (.fn .tuple [.lc [6] (.nm 6) .rng1 [.idx (.var 0) (.con (.int 1))] none (.bin .add (.var 2) (.bin .mul (.bin .add (.bin .mul (.var 5) (.idx (.var 0) (.con (.int 1)))) (.var 6)) (.var 3)))])],
  .ret (.fn .tuple [.var 4])]
def b9 : List ZS := [.ex (.call 6 [.var 0]),
  .ex (.call 3 [.var 1, .con (.int 1), .bin .pow (.con (.int 10)) (.con (.int 6))]),
  .ex (.call 3 [.var 2, .con (.int 0), .bin .pow (.con (.int 10)) (.con (.int 9))]),
  .ex (.call 3 [.var 3, .con (.int 0), .bin .sub (.call 7 [.var 0, .var 1]) (.con (.int 1))]),
  .set 4 (.lst []),
  .fr (.nm 5) .val [.call 8 [.var 0, .var 1, .var 2]] [.app 4 (.fn .tuple [.lc [6] (.nm 6) .val [.var 5] none (.ife (.cmp .lt (.bin .add (.var 6) (.var 3)) (.bin .add (.var 2) (.var 1))) (.bin .add (.var 6) (.var 3)) (.con .non))])],
  .ret (.fn .tuple [.var 4])]
def b10 : List ZS := [.ex (.call 6 [.var 0]),
  .ex (.call 3 [.var 1, .con (.int 1), .glo "MOST_SHEETS" (.int 2000)]),
  .ex (.call 3 [.var 2, .con (.int 0), .bin .pow (.con (.int 10)) (.con (.int 9))]),
  .par [3, 4] [.call 7 [.var 0, .var 1], .lst []],
  .fr (.nm 5) .rng1 [.idx (.var 0) (.con (.int 0))] [.fr (.nm 6) .rng1 [.idx (.var 0) (.con (.int 1))] [.fr (.nm 7) .rng1 [.var 3] [.set 8 (.idx (.idx (.call 9 [.var 0, .var 1, .var 2, .var 7]) (.var 5)) (.var 6)),
  .ext 4 (.ife (.cmp .isn (.var 8) (.con .non)) (.lst [.var 8]) (.lst []))]]],
  .ret (.fn .tuple [.var 4])]
def b11 : List ZS := [.ret (.call 7 [.var 0, .var 1])]
def b12 : List ZS := [.set 1 (.lc [2] (.nm 2) .val [.sli (.var 0) (.con .non) (.con (.int 63))] none (.fn .abs [.fn .int [.var 2]])),
  .ret (.lst [.var 1, .con (.int 0), .con (.int 0), .bin .add (.con (.int 83)) (.bin .mul (.con (.int 5)) (.fx .len [.var 1])), .con (.int 0)])]
def b13 : List ZS := [.ift (.and (.cmp .eq (.idx (.var 0) (.con (.int 2))) (.con (.int 0))) (.cmp .lt (.idx (.var 0) (.con (.int 1))) (.fx .len [.idx (.var 0) (.con (.int 0))]))) [.set 2 (.idx (.idx (.var 0) (.con (.int 0))) (.idx (.var 0) (.con (.int 1)))),
  .seti 0 (.con (.int 1)) (.bin .add (.idx (.var 0) (.con (.int 1))) (.con (.int 1))),
  .seti 0 (.con (.int 3)) (.bin .mod (.fn .int [.bin .add (.bin .add (.bin .mul (.idx (.var 0) (.con (.int 3))) (.con (.int 69621))) (.bin .mul (.var 2) (.con (.int 40692)))) (.con (.int 17))]) (.con (.int 2147483629))),
  .ift (.cmp .ge (.var 2) (.bin .pow (.con (.int 10)) (.con (.int 18)))) [.seti 0 (.con (.int 2)) (.var 2)] []] [],
  .ift (.cmp .gt (.idx (.var 0) (.con (.int 2))) (.con (.int 0))) [.set 3 (.bin .mod (.fn .int [.idx (.var 0) (.con (.int 2))]) (.var 1)),
  .seti 0 (.con (.int 2)) (.bin .fdiv (.idx (.var 0) (.con (.int 2))) (.var 1)),
  .ret (.var 3)] [],
  .seti 0 (.con (.int 4)) (.bin .add (.idx (.var 0) (.con (.int 4))) (.con (.int 1))),
  .set 4 (.bin .mod (.fn .int [.bin .mul (.fn .int [.bin .add (.idx (.var 0) (.con (.int 3))) (.bin .mul (.con (.int 7919)) (.idx (.var 0) (.con (.int 4))))]) (.con (.int 48271))]) (.con (.int 2147483647))),
  .set 4 (.bin .mod (.fn .int [.bin .mul (.var 4) (.bin .add (.bin .fdiv (.var 4) (.con (.int 1009))) (.con (.int 69621)))]) (.con (.int 2147483647))),
  .set 4 (.bin .mod (.fn .int [.bin .mul (.var 4) (.bin .add (.bin .fdiv (.var 4) (.con (.int 2003))) (.con (.int 40014)))]) (.con (.int 2147483563))),
  .ret (.bin .mod (.fn .int [.bin .fdiv (.var 4) (.con (.int 16))]) (.var 1))]
def b14 : List ZS := [.ret (.idx (.var 1) (.call 13 [.var 0, .fx .len [.var 1]]))]
def b15 : List ZS := [.set 1 (.call 14 [.var 0, .lst [.con (.str "?"), .con (.str "X x")]]),
  .fr (.nm 2) .rng1 [.bin .add (.con (.int 5)) (.call 13 [.var 0, .con (.int 8)])] [.set 1 (.ife (.cmp .eq (.call 13 [.var 0, .con (.int 2)]) (.con (.int 0))) (.lst [.var 1]) (.tup [.var 1]))],
  .ret (.var 1)]
def b16 : List ZS := [.ret (.tup [.bin .add (.con (.int 1)) (.call 13 [.var 0, .call 14 [.var 0, .lst [.con (.int 3), .con (.int 8)]]]), .bin .add (.con (.int 1)) (.call 13 [.var 0, .call 14 [.var 0, .lst [.con (.int 3), .con (.int 8)]]])])]
def b17 : List ZS := [.ret (.bin .fdiv (.bin .sub (.bin .add (.var 1) (.bin .mul (.idx (.var 0) (.con (.int 0))) (.idx (.var 0) (.con (.int 1))))) (.con (.int 1))) (.bin .mul (.idx (.var 0) (.con (.int 0))) (.idx (.var 0) (.con (.int 1)))))]
def b18 : List ZS := [.par [4, 5] [.call 17 [.var 0, .var 1], .lst []],
  .fr (.nm 6) .rng1 [.idx (.var 0) (.con (.int 0))] [.set 7 (.lc [8] (.nm 8) .rng1 [.idx (.var 0) (.con (.int 1))] none (.bin .add (.bin .add (.var 2) (.bin .mul (.bin .add (.bin .mul (.var 6) (.idx (.var 0) (.con (.int 1)))) (.var 8)) (.var 4))) (.var 3))),
  .app 5 (.fn .tuple [.lc [9] (.nm 9) .val [.var 7] none (.ife (.cmp .lt (.var 9) (.bin .add (.var 2) (.var 1))) (.var 9) (.con .non))])],
  .ret (.fn .tuple [.var 5])]
def b19 : List ZS := [.set 1 (.lst [.con .non, .tup [], .tup [.con (.int 0), .con (.int 2)], .tup [.con (.int 9), .con (.int 2)], .lst [.con (.int 2), .con (.int 2)], .tup [.con (.int 2)], .tup [.con (.int 2), .con (.int 2), .con (.int 2)], .tup [.con (.bl true), .con (.int 2)], .tup [.con (.str "2"), .con (.int 2)], .con (.int 2), .con (.str "x"), .dic [], .tup [.con (.int 2), .neg (.con (.int 1))]]),
  .ret (.call 14 [.var 0, .bin .add (.var 1) (.lst [.call 15 [.var 0]])])]
def b20 : List ZS := [.ret (.call 14 [.var 0, .lst [.con (.int 0), .bin .add (.bin .pow (.con (.int 10)) (.con (.int 6))) (.con (.int 1)), .neg (.con (.int 1)), .con .non, .con (.bl true), .con (.str "5")]])]
def b21 : List ZS := [.try_ [.ex (.act 0)] "PrintError" 1 [.ift (.not (.isE 1 "ValueError")) [.ret (.con (.str "other"))] [],
  .set 2 (.lst [.isE 1 "NoNumber", .isE 1 "NoSheet"]),
  .ret (.ife (.cmp .eq (.mt .count (.var 2) [.con (.bl true)]) (.con (.int 1))) (.idx (.lst [.con (.str "number"), .con (.str "sheet")]) (.mt .index (.var 2) [.con (.bl true)])) (.con (.str "other")))],
  .ret (.con (.str "let"))]
def b22 : List ZS := [.par [2, 3] [.bin .add (.con (.int 1)) (.call 13 [.var 0, .call 14 [.var 0, .lst [.con (.int 40), .bin .pow (.con (.int 10)) (.con (.int 6))]]]), .call 13 [.var 0, .call 14 [.var 0, .lst [.con (.int 9), .bin .pow (.con (.int 10)) (.con (.int 9))]]]],
  .set 4 (.call 17 [.var 1, .var 2]),
  .ift (.cmp .ne (.lst [.call 7 [.var 1, .var 2], .call 11 [.var 1, .var 2], .call 11 [.var 1, .var 2]]) (.lst [.var 4, .var 4, .var 4])) [.ret (.con (.bl false))] [],
  .set 5 (.lst []),
  .fr (.nm 6) .rng1 [.idx (.var 1) (.con (.int 0))] [.app 5 (.fn .tuple [.lc [9] (.nm 9) .rng1 [.idx (.var 1) (.con (.int 1))] none (.bin .add (.var 3) (.bin .mul (.bin .add (.bin .mul (.var 6) (.idx (.var 1) (.con (.int 1)))) (.var 9)) (.var 4)))])],
  .ift (.cmp .ne (.lst [.call 8 [.var 1, .var 2, .var 3], .call 8 [.var 1, .var 2, .var 3]]) (.lst [.fn .tuple [.var 5], .fn .tuple [.var 5]])) [.ret (.con (.bl false))] [],
  .set 7 (.call 13 [.var 0, .var 4]),
  .set 8 (.call 18 [.var 1, .var 2, .var 3, .var 7]),
  .ret (.cmp .eq (.lst [.call 9 [.var 1, .var 2, .var 3, .var 7], .call 9 [.var 1, .var 2, .var 3, .var 7]]) (.lst [.var 8, .var 8]))]
def b23 : List ZS := [.par [2, 3] [.bin .add (.con (.int 1)) (.call 13 [.var 0, .con (.int 200)]), .call 13 [.var 0, .con (.int 1000)]],
  .set 4 (.fn .tuple [.lc [8] (.nm 8) .rng1 [.var 2] none (.bin .add (.var 3) (.var 8))]),
  .ift (.cmp .ne (.lst [.fn .tuple [.call 10 [.var 1, .var 2, .var 3]], .fn .tuple [.call 10 [.var 1, .var 2, .var 3]]]) (.lst [.var 4, .var 4])) [.ret (.con (.bl false))] [],
  .set 5 (.lst []),
  .fr (.nm 6) .rng1 [.call 11 [.var 1, .var 2]] [.fr (.nm 7) .val [.call 9 [.var 1, .var 2, .var 3, .var 6]] [.ext 5 (.lc [8] (.nm 8) .val [.var 7] (some (.cmp .isn (.var 8) (.con .non))) (.var 8))]],
  .ret (.cmp .eq (.fx .sorted [.var 5]) (.fn .list [.var 4]))]
def b24 : List ZS := [.hnd 5 (.call 12 [.var 0]),
  .ift (.or (.cmp .ne (.call 8 [.tup [.con (.int 2), .con (.int 1)], .con (.int 10), .con (.int 1)]) (.tup [.tup [.con (.int 1)], .tup [.con (.int 6)]])) (.cmp .ne (.call 9 [.tup [.con (.int 2), .con (.int 2)], .con (.int 7), .con (.int 1), .con (.int 1)]) (.tup [.tup [.con (.int 2), .con (.int 4)], .tup [.con (.int 6), .con .non]]))) [.ret (.con (.bl false))] [],
  .ift (.cmp .ne (.call 7 [.tup [.con (.int 2), .con (.int 2)], .con (.int 7)]) (.con (.int 2))) [.ret (.con (.bl false))] [],
  .fr (.nm 1) .rng1 [.con (.int 6)] [.set 4 (.call 16 [.var 5]),
  .ift (.or (.cmp .isn (.call 5 [.var 4]) (.con (.bl true))) (.or (.not (.call 22 [.var 5, .var 4])) (.not (.call 23 [.var 5, .var 4])))) [.ret (.con (.bl false))] [],
  .par [6, 3] [.call 19 [.var 5], .call 20 [.var 5]],
  .set 2 (.lst [.lam 21 [3, 6] (.call 7 [.var 6, .var 3]), .lam 21 [3, 4] (.call 7 [.var 4, .var 3])]),
  .set 2 (.bin .add (.var 2) (.lst [.lam 21 [3, 6] (.call 8 [.var 6, .var 3, .con (.int 0)]), .lam 21 [3, 4] (.call 8 [.var 4, .var 3, .con (.int 0)])])),
  .app 2 (.lam 21 [4, 5] (.call 8 [.var 4, .con (.int 5), .call 14 [.var 5, .lst [.neg (.con (.int 1)), .bin .add (.bin .pow (.con (.int 10)) (.con (.int 9))) (.con (.int 1)), .con .non, .con (.bl true)]]])),
  .ift (.or (.cmp .ne (.var 2) (.lst [.con (.str "sheet"), .con (.str "number"), .con (.str "sheet"), .con (.str "number"), .con (.str "number")])) (.cmp .isn (.call 5 [.var 6]) (.con (.bl false)))) [.ret (.con (.bl false))] []],
  .ret (.con (.bl true))]
def Tb : List Df := [⟨"is_integer", 1, 1, b0⟩,
  ⟨"is_within", 3, 3, b1⟩,
  ⟨"is_tuple", 2, 2, b2⟩,
  ⟨"check_number", 3, 3, b3⟩,
  ⟨"up", 2, 2, b4⟩,
  ⟨"is_grid", 2, 1, b5⟩,
  ⟨"check_grid", 1, 1, b6⟩,
  ⟨"sheets_for", 2, 2, b7⟩,
  ⟨"begins", 7, 3, b8⟩,
  ⟨"stamped", 7, 4, b9⟩,
  ⟨"stacked", 9, 3, b10⟩,
  ⟨"step_of", 2, 2, b11⟩,
  ⟨"_law_hand", 3, 1, b12⟩,
  ⟨"_law_draw", 5, 2, b13⟩,
  ⟨"_law_any", 2, 2, b14⟩,
  ⟨"_law_deep", 3, 1, b15⟩,
  ⟨"_law_grid", 1, 1, b16⟩,
  ⟨"_law_step", 2, 2, b17⟩,
  ⟨"_law_stamped", 10, 4, b18⟩,
  ⟨"_law_no_grid", 2, 1, b19⟩,
  ⟨"_law_no_many", 1, 1, b20⟩,
  ⟨"_law_said", 3, 1, b21⟩,
  ⟨"_law_is_right", 10, 2, b22⟩,
  ⟨"_law_is_stack_right", 9, 2, b23⟩,
  ⟨"law", 7, 1, b24⟩]
def L1 : SubL := [(("NoNumber", "NoNumber"), true), (("NoNumber", "NoSheet"), false), (("NoNumber", "PrintError"), true), (("NoSheet", "NoNumber"), false), (("NoSheet", "NoSheet"), true), (("NoSheet", "PrintError"), true), (("PrintError", "NoNumber"), false), (("PrintError", "NoSheet"), false), (("PrintError", "PrintError"), true)]
def L2_ : SubL := [(("NoNumber", "ValueError"), true), (("NoSheet", "ValueError"), true), (("PrintError", "ValueError"), true)]
def sub : Str → Str → Option Bool := subL (L1 ++ L2_)
abbrev gm (n : Nat) : Gm := gmN Tb 2000 sub n
def N0 : List Str := ["thing"]
def N1 : List Str := ["thing", "least", "most"]
def N2 : List Str := ["thing", "size"]
def N3 : List Str := ["thing", "least", "most"]
def N4 : List Str := ["number", "by"]
def N5 : List Str := ["thing", "one"]
def N6 : List Str := ["thing"]
def N7 : List Str := ["grid", "many"]
def N8 : List Str := ["grid", "many", "first", "sheets", "rows", "row", "column"]
def N9 : List Str := ["grid", "many", "first", "sheet", "found", "row", "one"]
def N10 : List Str := ["grid", "many", "first", "sheets", "found", "row", "column", "sheet", "one"]
def N11 : List Str := ["grid", "many"]
def N12 : List Str := ["script", "seed_rows", "cell"]
def N13 : List Str := ["hand", "many", "cell", "digit", "number"]
def N14 : List Str := ["hand", "some"]
def N15 : List Str := ["hand", "deep", "lap"]
def N16 : List Str := ["hand"]
def N17 : List Str := ["grid", "many"]
def N18 : List Str := ["grid", "many", "first", "sheet", "step", "rows", "row", "line", "column", "one"]
def N19 : List Str := ["hand", "some"]
def N20 : List Str := ["hand"]
def N21 : List Str := ["call", "e", "flags"]
def N22 : List Str := ["hand", "grid", "many", "first", "step", "rows", "row", "sheet", "due", "column"]
def N23 : List Str := ["hand", "grid", "many", "first", "due", "found", "sheet", "row", "one"]
def N24 : List Str := ["script", "lap", "said", "bad", "grid", "hand", "none"]
theorem sc0 : FnScope N0 ["thing"] (defScope (top 5)) := ⟨rfl, rfl, rfl, by decide +kernel, rfl, by decide +kernel, by decide +kernel⟩
theorem sc1 : FnScope N1 ["thing", "least", "most"] (defScope (top 6)) := ⟨rfl, rfl, rfl, by decide +kernel, rfl, by decide +kernel, by decide +kernel⟩
theorem sc2 : FnScope N2 ["thing", "size"] (defScope (top 7)) := ⟨rfl, rfl, rfl, by decide +kernel, rfl, by decide +kernel, by decide +kernel⟩
theorem sc3 : FnScope N3 ["thing", "least", "most"] (defScope (top 8)) := ⟨rfl, rfl, rfl, by decide +kernel, rfl, by decide +kernel, by decide +kernel⟩
theorem sc4 : FnScope N4 ["number", "by"] (defScope (top 9)) := ⟨rfl, rfl, rfl, by decide +kernel, rfl, by decide +kernel, by decide +kernel⟩
theorem sc5 : FnScope N5 ["thing"] (defScope (top 13)) := ⟨rfl, rfl, rfl, by decide +kernel, rfl, by decide +kernel, by decide +kernel⟩
theorem sc6 : FnScope N6 ["thing"] (defScope (top 14)) := ⟨rfl, rfl, rfl, by decide +kernel, rfl, by decide +kernel, by decide +kernel⟩
theorem sc7 : FnScope N7 ["grid", "many"] (defScope (top 15)) := ⟨rfl, rfl, rfl, by decide +kernel, rfl, by decide +kernel, by decide +kernel⟩
theorem sc8 : FnScope N8 ["grid", "many", "first"] (defScope (top 16)) := ⟨rfl, rfl, rfl, by decide +kernel, rfl, by decide +kernel, by decide +kernel⟩
theorem sc9 : FnScope N9 ["grid", "many", "first", "sheet"] (defScope (top 17)) := ⟨rfl, rfl, rfl, by decide +kernel, rfl, by decide +kernel, by decide +kernel⟩
theorem sc10 : FnScope N10 ["grid", "many", "first"] (defScope (top 18)) := ⟨rfl, rfl, rfl, by decide +kernel, rfl, by decide +kernel, by decide +kernel⟩
theorem sc11 : FnScope N11 ["grid", "many"] (defScope (top 19)) := ⟨rfl, rfl, rfl, by decide +kernel, rfl, by decide +kernel, by decide +kernel⟩
theorem sc12 : FnScope N12 ["script"] (defScope (top 21)) := ⟨rfl, rfl, rfl, by decide +kernel, rfl, by decide +kernel, by decide +kernel⟩
theorem sc13 : FnScope N13 ["hand", "many"] (defScope (top 22)) := ⟨rfl, rfl, rfl, by decide +kernel, rfl, by decide +kernel, by decide +kernel⟩
theorem sc14 : FnScope N14 ["hand", "some"] (defScope (top 23)) := ⟨rfl, rfl, rfl, by decide +kernel, rfl, by decide +kernel, by decide +kernel⟩
theorem sc15 : FnScope N15 ["hand"] (defScope (top 24)) := ⟨rfl, rfl, rfl, by decide +kernel, rfl, by decide +kernel, by decide +kernel⟩
theorem sc16 : FnScope N16 ["hand"] (defScope (top 25)) := ⟨rfl, rfl, rfl, by decide +kernel, rfl, by decide +kernel, by decide +kernel⟩
theorem sc17 : FnScope N17 ["grid", "many"] (defScope (top 26)) := ⟨rfl, rfl, rfl, by decide +kernel, rfl, by decide +kernel, by decide +kernel⟩
theorem sc18 : FnScope N18 ["grid", "many", "first", "sheet"] (defScope (top 27)) := ⟨rfl, rfl, rfl, by decide +kernel, rfl, by decide +kernel, by decide +kernel⟩
theorem sc19 : FnScope N19 ["hand"] (defScope (top 28)) := ⟨rfl, rfl, rfl, by decide +kernel, rfl, by decide +kernel, by decide +kernel⟩
theorem sc20 : FnScope N20 ["hand"] (defScope (top 29)) := ⟨rfl, rfl, rfl, by decide +kernel, rfl, by decide +kernel, by decide +kernel⟩
theorem sc21 : FnScope N21 ["call"] (defScope (top 30)) := ⟨rfl, rfl, rfl, by decide +kernel, rfl, by decide +kernel, by decide +kernel⟩
theorem sc22 : FnScope N22 ["hand", "grid"] (defScope (top 31)) := ⟨rfl, rfl, rfl, by decide +kernel, rfl, by decide +kernel, by decide +kernel⟩
theorem sc23 : FnScope N23 ["hand", "grid"] (defScope (top 32)) := ⟨rfl, rfl, rfl, by decide +kernel, rfl, by decide +kernel, by decide +kernel⟩
theorem sc24 : FnScope N24 ["script"] (defScope (top 33)) := ⟨rfl, rfl, rfl, by decide +kernel, rfl, by decide +kernel, by decide +kernel⟩
/-- what the module says -/
structure Fs (P : Program) (w : World) (K : Frag) (mg : Str → Option Value) (base : Heap) : Prop where
  b_ValueError : mg "ValueError" = none
  b_abs : mg "abs" = none
  b_all : mg "all" = none
  b_bool : mg "bool" = none
  b_int : mg "int" = none
  b_isinstance : mg "isinstance" = none
  b_len : mg "len" = none
  b_list : mg "list" = none
  b_range : mg "range" = none
  b_sorted : mg "sorted" = none
  b_tuple : mg "tuple" = none
  g_MOST_SHEETS : ∃ t, mg "MOST_SHEETS" = some (.int 2000 t)
  g_MOST_SIDE : ∃ t, mg "MOST_SIDE" = some (.int 8 t)
  c_NoNumber : mg "NoNumber" = some (.ref (He.ga K "NoNumber"))
  z_NoNumber : ErrZ P w K mg base 1 "NoNumber" (He.ga K "NoNumber")
  x_NoNumber : SubX K mg sub "NoNumber" (.ref (He.ga K "NoNumber"))
  i_NoNumber : SubI K mg sub "NoNumber" (.ref (He.ga K "NoNumber"))
  c_NoSheet : mg "NoSheet" = some (.ref (He.ga K "NoSheet"))
  z_NoSheet : ErrZ P w K mg base 1 "NoSheet" (He.ga K "NoSheet")
  x_NoSheet : SubX K mg sub "NoSheet" (.ref (He.ga K "NoSheet"))
  i_NoSheet : SubI K mg sub "NoSheet" (.ref (He.ga K "NoSheet"))
  c_PrintError : mg "PrintError" = some (.ref (He.ga K "PrintError"))
  z_PrintError : ErrZ P w K mg base 1 "PrintError" (He.ga K "PrintError")
  x_PrintError : SubX K mg sub "PrintError" (.ref (He.ga K "PrintError"))
  i_PrintError : SubI K mg sub "PrintError" (.ref (He.ga K "PrintError"))
  i_ValueError : SubI K mg sub "ValueError" (.type "ValueError")
  m0 : mg "is_integer" = some (.ref (He.ga K "is_integer"))
  f0 : ∃ fd, FunD K "is_integer" "is_integer" (defArgs (top 5)) (defBody (top 5)) (defScope (top 5)) [] [] (He.ga K "is_integer") fd
  m1 : mg "is_within" = some (.ref (He.ga K "is_within"))
  f1 : ∃ fd, FunD K "is_within" "is_within" (defArgs (top 6)) (defBody (top 6)) (defScope (top 6)) [] [] (He.ga K "is_within") fd
  m2 : mg "is_tuple" = some (.ref (He.ga K "is_tuple"))
  f2 : ∃ fd, FunD K "is_tuple" "is_tuple" (defArgs (top 7)) (defBody (top 7)) (defScope (top 7)) [] [] (He.ga K "is_tuple") fd
  m3 : mg "check_number" = some (.ref (He.ga K "check_number"))
  f3 : ∃ fd, FunD K "check_number" "check_number" (defArgs (top 8)) (defBody (top 8)) (defScope (top 8)) [] [] (He.ga K "check_number") fd
  m4 : mg "up" = some (.ref (He.ga K "up"))
  f4 : ∃ fd, FunD K "up" "up" (defArgs (top 9)) (defBody (top 9)) (defScope (top 9)) [] [] (He.ga K "up") fd
  m5 : mg "is_grid" = some (.ref (He.ga K "is_grid"))
  f5 : ∃ fd, FunD K "is_grid" "is_grid" (defArgs (top 13)) (defBody (top 13)) (defScope (top 13)) [] [] (He.ga K "is_grid") fd
  m6 : mg "check_grid" = some (.ref (He.ga K "check_grid"))
  f6 : ∃ fd, FunD K "check_grid" "check_grid" (defArgs (top 14)) (defBody (top 14)) (defScope (top 14)) [] [] (He.ga K "check_grid") fd
  m7 : mg "sheets_for" = some (.ref (He.ga K "sheets_for"))
  f7 : ∃ fd, FunD K "sheets_for" "sheets_for" (defArgs (top 15)) (defBody (top 15)) (defScope (top 15)) [] [] (He.ga K "sheets_for") fd
  m8 : mg "begins" = some (.ref (He.ga K "begins"))
  f8 : ∃ fd, FunD K "begins" "begins" (defArgs (top 16)) (defBody (top 16)) (defScope (top 16)) [] [] (He.ga K "begins") fd
  m9 : mg "stamped" = some (.ref (He.ga K "stamped"))
  f9 : ∃ fd, FunD K "stamped" "stamped" (defArgs (top 17)) (defBody (top 17)) (defScope (top 17)) [] [] (He.ga K "stamped") fd
  m10 : mg "stacked" = some (.ref (He.ga K "stacked"))
  f10 : ∃ fd, FunD K "stacked" "stacked" (defArgs (top 18)) (defBody (top 18)) (defScope (top 18)) [] [] (He.ga K "stacked") fd
  m11 : mg "step_of" = some (.ref (He.ga K "step_of"))
  f11 : ∃ fd, FunD K "step_of" "step_of" (defArgs (top 19)) (defBody (top 19)) (defScope (top 19)) [] [] (He.ga K "step_of") fd
  m12 : mg "_law_hand" = some (.ref (He.ga K "_law_hand"))
  f12 : ∃ fd, FunD K "_law_hand" "_law_hand" (defArgs (top 21)) (defBody (top 21)) (defScope (top 21)) [] [] (He.ga K "_law_hand") fd
  m13 : mg "_law_draw" = some (.ref (He.ga K "_law_draw"))
  f13 : ∃ fd, FunD K "_law_draw" "_law_draw" (defArgs (top 22)) (defBody (top 22)) (defScope (top 22)) [] [] (He.ga K "_law_draw") fd
  m14 : mg "_law_any" = some (.ref (He.ga K "_law_any"))
  f14 : ∃ fd, FunD K "_law_any" "_law_any" (defArgs (top 23)) (defBody (top 23)) (defScope (top 23)) [] [] (He.ga K "_law_any") fd
  m15 : mg "_law_deep" = some (.ref (He.ga K "_law_deep"))
  f15 : ∃ fd, FunD K "_law_deep" "_law_deep" (defArgs (top 24)) (defBody (top 24)) (defScope (top 24)) [] [] (He.ga K "_law_deep") fd
  m16 : mg "_law_grid" = some (.ref (He.ga K "_law_grid"))
  f16 : ∃ fd, FunD K "_law_grid" "_law_grid" (defArgs (top 25)) (defBody (top 25)) (defScope (top 25)) [] [] (He.ga K "_law_grid") fd
  m17 : mg "_law_step" = some (.ref (He.ga K "_law_step"))
  f17 : ∃ fd, FunD K "_law_step" "_law_step" (defArgs (top 26)) (defBody (top 26)) (defScope (top 26)) [] [] (He.ga K "_law_step") fd
  m18 : mg "_law_stamped" = some (.ref (He.ga K "_law_stamped"))
  f18 : ∃ fd, FunD K "_law_stamped" "_law_stamped" (defArgs (top 27)) (defBody (top 27)) (defScope (top 27)) [] [] (He.ga K "_law_stamped") fd
  m19 : mg "_law_no_grid" = some (.ref (He.ga K "_law_no_grid"))
  f19 : ∃ fd, FunD K "_law_no_grid" "_law_no_grid" (defArgs (top 28)) (defBody (top 28)) (defScope (top 28)) [] [] (He.ga K "_law_no_grid") fd
  m20 : mg "_law_no_many" = some (.ref (He.ga K "_law_no_many"))
  f20 : ∃ fd, FunD K "_law_no_many" "_law_no_many" (defArgs (top 29)) (defBody (top 29)) (defScope (top 29)) [] [] (He.ga K "_law_no_many") fd
  m21 : mg "_law_said" = some (.ref (He.ga K "_law_said"))
  f21 : ∃ fd, FunD K "_law_said" "_law_said" (defArgs (top 30)) (defBody (top 30)) (defScope (top 30)) [] [] (He.ga K "_law_said") fd
  m22 : mg "_law_is_right" = some (.ref (He.ga K "_law_is_right"))
  f22 : ∃ fd, FunD K "_law_is_right" "_law_is_right" (defArgs (top 31)) (defBody (top 31)) (defScope (top 31)) [] [] (He.ga K "_law_is_right") fd
  m23 : mg "_law_is_stack_right" = some (.ref (He.ga K "_law_is_stack_right"))
  f23 : ∃ fd, FunD K "_law_is_stack_right" "_law_is_stack_right" (defArgs (top 32)) (defBody (top 32)) (defScope (top 32)) [] [] (He.ga K "_law_is_stack_right") fd
  m24 : mg "law" = some (.ref (He.ga K "law"))
  f24 : ∃ fd, FunD K "law" "law" (defArgs (top 33)) (defBody (top 33)) (defScope (top 33)) [] [] (He.ga K "law") fd
  t24 : cdB "law" K = true
  u24 : LamX.TabB base mg (cdA K "law") (tbA K "law")
/-- the tables of code objects -/
def lq (q : Str) : Str := (envOfC q (defScope (top 0)) 0 0 .none).qual ++ "<lambda>"
def Tt (K : Frag) : List (Addr × Str) := [(tbA K "law", lq "law")]
section
variable {P : Program} {w : World} {K : Frag} {mg : Str → Option Value} {base : Heap} {f : Addr} {cdv : Value} {A : Around} {outer : List Env} {s : Shared} {H : Hp} {E : XK} {k : Nat} {G : Gm}
theorem dv0 (F : Fs P w K mg base) (hC : AllC (Tt K) P w K mg base Tb G k) (hsub : G.sub = sub) (hr : Room (k + 2) (A.deeper (envOfC "is_integer" (defScope (top 5)) s.heap.objs.size f cdv))) :
  PSs (cxOf (L2.CX P w) P w K mg base N0 "is_integer" (defScope (top 5)) f cdv A outer s H E) (defBody (top 5)) (tzS K ⟨xtZ mg, fun cls d _ H => E cls d H, ⟨none, none, Tt K⟩⟩ (evSs G b0)) := by
  have hN : N0.Nodup := sc0.nd
  exact (s_cons (s_ret (e_and (e_isi (cl := .int) F.b_isinstance F.b_int e_var) (e_one (e_not (e_isi (cl := .bool) F.b_isinstance F.b_bool e_var)))))
  s_nil)
theorem dv1 (F : Fs P w K mg base) (hC : AllC (Tt K) P w K mg base Tb G k) (hsub : G.sub = sub) (hr : Room (k + 2) (A.deeper (envOfC "is_within" (defScope (top 6)) s.heap.objs.size f cdv))) :
  PSs (cxOf (L2.CX P w) P w K mg base N1 "is_within" (defScope (top 6)) f cdv A outer s H E) (defBody (top 6)) (tzS K ⟨xtZ mg, fun cls d _ H => E cls d H, ⟨none, none, Tt K⟩⟩ (evSs G b1)) := by
  have hN : N1.Nodup := sc1.nd
  exact (s_cons (s_ret (e_and (e_call (i := 0) hC hr (Nat.le_add_right _ _) (takes_of rfl rfl rfl rfl) (a_cons e_var a_nil)) (e_one (e_cmp2 (o := .le) (o' := .le) (room_u hr) e_var e_var e_var))))
  s_nil)
theorem dv2 (F : Fs P w K mg base) (hC : AllC (Tt K) P w K mg base Tb G k) (hsub : G.sub = sub) (hr : Room (k + 2) (A.deeper (envOfC "is_tuple" (defScope (top 7)) s.heap.objs.size f cdv))) :
  PSs (cxOf (L2.CX P w) P w K mg base N2 "is_tuple" (defScope (top 7)) f cdv A outer s H E) (defBody (top 7)) (tzS K ⟨xtZ mg, fun cls d _ H => E cls d H, ⟨none, none, Tt K⟩⟩ (evSs G b2)) := by
  have hN : N2.Nodup := sc2.nd
  exact (s_cons (s_ret (e_and (e_isi (cl := .tuple) F.b_isinstance F.b_tuple e_var) (e_one (e_cmp (o := .eq) (room_u hr) (o_of (e_fx (f := .len) (room_u hr) F.b_len (b_cons o_var b_nil))) o_var))))
  s_nil)
theorem dv3 (F : Fs P w K mg base) (hC : AllC (Tt K) P w K mg base Tb G k) (hsub : G.sub = sub) (hr : Room (k + 2) (A.deeper (envOfC "check_number" (defScope (top 8)) s.heap.objs.size f cdv))) :
  PSs (cxOf (L2.CX P w) P w K mg base N3 "check_number" (defScope (top 8)) f cdv A outer s H E) (defBody (top 8)) (tzS K ⟨xtZ mg, fun cls d _ H => E cls d H, ⟨none, none, Tt K⟩⟩ (evSs G b3)) := by
  have hN : N3.Nodup := sc3.nd
  exact (s_cons (s_if (t_not (t_val (e_call (i := 1) hC hr (Nat.le_add_right _ _) (takes_of rfl rfl rfl rfl) (a_cons e_var (a_cons e_var (a_cons e_var a_nil)))))) (s_cons (s_rai (takes_of rfl rfl rfl rfl) F.z_NoNumber hr (Nat.le_add_left 2 _))
  s_nil) s_nil)
  s_nil)
theorem dv4 (F : Fs P w K mg base) (hC : AllC (Tt K) P w K mg base Tb G k) (hsub : G.sub = sub) (hr : Room (k + 2) (A.deeper (envOfC "up" (defScope (top 9)) s.heap.objs.size f cdv))) :
  PSs (cxOf (L2.CX P w) P w K mg base N4 "up" (defScope (top 9)) f cdv A outer s H E) (defBody (top 9)) (tzS K ⟨xtZ mg, fun cls d _ H => E cls d H, ⟨none, none, Tt K⟩⟩ (evSs G b4)) := by
  have hN : N4.Nodup := sc4.nd
  exact (s_cons (s_ret (e_bin (o := .fdiv) (o_of (e_bin (o := .sub) (o_of (e_bin (o := .add) o_var o_var)) (o_of e_int))) o_var))
  s_nil)
theorem dv5 (F : Fs P w K mg base) (hC : AllC (Tt K) P w K mg base Tb G k) (hsub : G.sub = sub) (hr : Room (k + 2) (A.deeper (envOfC "is_grid" (defScope (top 13)) s.heap.objs.size f cdv))) :
  PSs (cxOf (L2.CX P w) P w K mg base N5 "is_grid" (defScope (top 13)) f cdv A outer s H E) (defBody (top 13)) (tzS K ⟨xtZ mg, fun cls d _ H => E cls d H, ⟨none, none, Tt K⟩⟩ (evSs G b5)) := by
  have hN : N5.Nodup := sc5.nd
  exact (s_cons (s_ret (e_and (e_call (i := 2) hC hr (Nat.le_add_right _ _) (takes_of rfl rfl rfl rfl) (a_cons e_var (a_cons e_int a_nil))) (e_one (e_fn (f := .all) F.b_all (b_cons (o_of (e_lc0 (k := .val) [("one", 1)] hN (i_val e_var) (fun s H C cl fp => (g_nm hN)) (fun s H C cl fp => (e_call (i := 1) hC hr (Nat.le_add_right _ _) LamX.takes0 (a_cons e_var (a_cons e_int (a_cons (e_gint F.g_MOST_SIDE) a_nil))))))) b_nil)))))
  s_nil)
theorem dv6 (F : Fs P w K mg base) (hC : AllC (Tt K) P w K mg base Tb G k) (hsub : G.sub = sub) (hr : Room (k + 2) (A.deeper (envOfC "check_grid" (defScope (top 14)) s.heap.objs.size f cdv))) :
  PSs (cxOf (L2.CX P w) P w K mg base N6 "check_grid" (defScope (top 14)) f cdv A outer s H E) (defBody (top 14)) (tzS K ⟨xtZ mg, fun cls d _ H => E cls d H, ⟨none, none, Tt K⟩⟩ (evSs G b6)) := by
  have hN : N6.Nodup := sc6.nd
  exact (s_cons (s_if (t_not (t_val (e_call (i := 5) hC hr (Nat.le_add_right _ _) (takes_of rfl rfl rfl rfl) (a_cons e_var a_nil)))) (s_cons (s_rai (takes_of rfl rfl rfl rfl) F.z_NoSheet hr (Nat.le_add_left 2 _))
  s_nil) s_nil)
  s_nil)
theorem dv7 (F : Fs P w K mg base) (hC : AllC (Tt K) P w K mg base Tb G k) (hsub : G.sub = sub) (hr : Room (k + 2) (A.deeper (envOfC "sheets_for" (defScope (top 15)) s.heap.objs.size f cdv))) :
  PSs (cxOf (L2.CX P w) P w K mg base N7 "sheets_for" (defScope (top 15)) f cdv A outer s H E) (defBody (top 15)) (tzS K ⟨xtZ mg, fun cls d _ H => E cls d H, ⟨none, none, Tt K⟩⟩ (evSs G b7)) := by
  have hN : N7.Nodup := sc7.nd
  exact (s_cons (s_ex (e_call (i := 6) hC hr (Nat.le_add_right _ _) (takes_of rfl rfl rfl rfl) (a_cons e_var a_nil)))
  (s_cons (s_ex (e_call (i := 3) hC hr (Nat.le_add_right _ _) (takes_of rfl rfl rfl rfl) (a_cons e_var (a_cons e_int (a_cons (e_bin (o := .pow) (o_of e_int) (o_of e_int)) a_nil)))))
  (s_cons (s_ret (e_call (i := 4) hC hr (Nat.le_add_right _ _) (takes_of rfl rfl rfl rfl) (a_cons e_var (a_cons (e_bin (o := .mul) (o_of (e_idx o_var (o_of e_int))) (o_of (e_idx o_var (o_of e_int)))) a_nil))))
  s_nil)))
theorem dv8 (F : Fs P w K mg base) (hC : AllC (Tt K) P w K mg base Tb G k) (hsub : G.sub = sub) (hr : Room (k + 2) (A.deeper (envOfC "begins" (defScope (top 16)) s.heap.objs.size f cdv))) :
  PSs (cxOf (L2.CX P w) P w K mg base N8 "begins" (defScope (top 16)) f cdv A outer s H E) (defBody (top 16)) (tzS K ⟨xtZ mg, fun cls d _ H => E cls d H, ⟨none, none, Tt K⟩⟩ (evSs G b8)) := by
  have hN : N8.Nodup := sc8.nd
  exact (s_cons (s_ex (e_call (i := 6) hC hr (Nat.le_add_right _ _) (takes_of rfl rfl rfl rfl) (a_cons e_var a_nil)))
  (s_cons (s_ex (e_call (i := 3) hC hr (Nat.le_add_right _ _) (takes_of rfl rfl rfl rfl) (a_cons e_var (a_cons e_int (a_cons (e_bin (o := .pow) (o_of e_int) (o_of e_int)) a_nil)))))
  (s_cons (s_ex (e_call (i := 3) hC hr (Nat.le_add_right _ _) (takes_of rfl rfl rfl rfl) (a_cons e_var (a_cons e_int (a_cons (e_bin (o := .pow) (o_of e_int) (o_of e_int)) a_nil)))))
  (s_cons (s_set hN (e_call (i := 7) hC hr (Nat.le_add_right _ _) (takes_of rfl rfl rfl rfl) (a_cons e_var (a_cons e_var a_nil))))
  (s_cons (s_set hN (e_lst a_nil))
  (s_cons (s_fr (k := .rng1) (passes_of rfl) (i_rng1 F.b_range (a_cons (e_idx o_var (o_of e_int)) a_nil)) (g_nm hN) (s_cons (s_app (e_fn (f := .tuple) F.b_tuple (b_cons (o_of (e_lc0 (k := .rng1) [("column", 6)] hN (i_rng1 F.b_range (a_cons (e_idx o_var (o_of e_int)) a_nil)) (fun s H C cl fp => (g_nm hN)) (fun s H C cl fp => (e_bin (o := .add) o_var (o_of (e_bin (o := .mul) (o_of (e_bin (o := .add) (o_of (e_bin (o := .mul) o_var (o_of (e_idx o_var (o_of e_int))))) o_var)) o_var)))))) b_nil)))
  s_nil))
  (s_cons (s_ret (e_fn (f := .tuple) F.b_tuple (b_cons o_var b_nil)))
  s_nil)))))))
theorem dv9 (F : Fs P w K mg base) (hC : AllC (Tt K) P w K mg base Tb G k) (hsub : G.sub = sub) (hr : Room (k + 2) (A.deeper (envOfC "stamped" (defScope (top 17)) s.heap.objs.size f cdv))) :
  PSs (cxOf (L2.CX P w) P w K mg base N9 "stamped" (defScope (top 17)) f cdv A outer s H E) (defBody (top 17)) (tzS K ⟨xtZ mg, fun cls d _ H => E cls d H, ⟨none, none, Tt K⟩⟩ (evSs G b9)) := by
  have hN : N9.Nodup := sc9.nd
  exact (s_cons (s_ex (e_call (i := 6) hC hr (Nat.le_add_right _ _) (takes_of rfl rfl rfl rfl) (a_cons e_var a_nil)))
  (s_cons (s_ex (e_call (i := 3) hC hr (Nat.le_add_right _ _) (takes_of rfl rfl rfl rfl) (a_cons e_var (a_cons e_int (a_cons (e_bin (o := .pow) (o_of e_int) (o_of e_int)) a_nil)))))
  (s_cons (s_ex (e_call (i := 3) hC hr (Nat.le_add_right _ _) (takes_of rfl rfl rfl rfl) (a_cons e_var (a_cons e_int (a_cons (e_bin (o := .pow) (o_of e_int) (o_of e_int)) a_nil)))))
  (s_cons (s_ex (e_call (i := 3) hC hr (Nat.le_add_right _ _) (takes_of rfl rfl rfl rfl) (a_cons e_var (a_cons e_int (a_cons (e_bin (o := .sub) (o_of (e_call (i := 7) hC hr (Nat.le_add_right _ _) (takes_of rfl rfl rfl rfl) (a_cons e_var (a_cons e_var a_nil)))) (o_of e_int)) a_nil)))))
  (s_cons (s_set hN (e_lst a_nil))
  (s_cons (s_fr (k := .val) (passes_of rfl) (i_val (e_call (i := 8) hC hr (Nat.le_add_right _ _) (takes_of rfl rfl rfl rfl) (a_cons e_var (a_cons e_var (a_cons e_var a_nil))))) (g_nm hN) (s_cons (s_app (e_fn (f := .tuple) F.b_tuple (b_cons (o_of (e_lc0 (k := .val) [("one", 6)] hN (i_val e_var) (fun s H C cl fp => (g_nm hN)) (fun s H C cl fp => (e_ife (t_cmp (o := .lt) (room_u hr) (o_of (e_bin (o := .add) o_var o_var)) (o_of (e_bin (o := .add) o_var o_var))) (e_bin (o := .add) o_var o_var) e_non)))) b_nil)))
  s_nil))
  (s_cons (s_ret (e_fn (f := .tuple) F.b_tuple (b_cons o_var b_nil)))
  s_nil)))))))
theorem dv10 (F : Fs P w K mg base) (hC : AllC (Tt K) P w K mg base Tb G k) (hsub : G.sub = sub) (hr : Room (k + 2) (A.deeper (envOfC "stacked" (defScope (top 18)) s.heap.objs.size f cdv))) :
  PSs (cxOf (L2.CX P w) P w K mg base N10 "stacked" (defScope (top 18)) f cdv A outer s H E) (defBody (top 18)) (tzS K ⟨xtZ mg, fun cls d _ H => E cls d H, ⟨none, none, Tt K⟩⟩ (evSs G b10)) := by
  have hN : N10.Nodup := sc10.nd
  exact (s_cons (s_ex (e_call (i := 6) hC hr (Nat.le_add_right _ _) (takes_of rfl rfl rfl rfl) (a_cons e_var a_nil)))
  (s_cons (s_ex (e_call (i := 3) hC hr (Nat.le_add_right _ _) (takes_of rfl rfl rfl rfl) (a_cons e_var (a_cons e_int (a_cons (e_gint F.g_MOST_SHEETS) a_nil)))))
  (s_cons (s_ex (e_call (i := 3) hC hr (Nat.le_add_right _ _) (takes_of rfl rfl rfl rfl) (a_cons e_var (a_cons e_int (a_cons (e_bin (o := .pow) (o_of e_int) (o_of e_int)) a_nil)))))
  (s_cons (s_par2 hN (r_cons (e_call (i := 7) hC hr (Nat.le_add_right _ _) (takes_of rfl rfl rfl rfl) (a_cons e_var (a_cons e_var a_nil))) (r_cons (e_lst a_nil) r_nil)))
  (s_cons (s_fr (k := .rng1) (passes_of rfl) (i_rng1 F.b_range (a_cons (e_idx o_var (o_of e_int)) a_nil)) (g_nm hN) (s_cons (s_fr (k := .rng1) (passes_of rfl) (i_rng1 F.b_range (a_cons (e_idx o_var (o_of e_int)) a_nil)) (g_nm hN) (s_cons (s_fr (k := .rng1) (passes_of rfl) (i_rng1 F.b_range (a_cons e_var a_nil)) (g_nm hN) (s_cons (s_set hN (e_idx (o_of (e_idx (o_of (e_call (i := 9) hC hr (Nat.le_add_right _ _) (takes_of rfl rfl rfl rfl) (a_cons e_var (a_cons e_var (a_cons e_var (a_cons e_var a_nil)))))) o_var)) o_var))
  (s_cons (s_ext (e_ife (t_cmp (o := .isn) (room_u hr) o_var (o_of e_non)) (e_lst (a_cons e_var a_nil)) (e_lst a_nil)))
  s_nil)))
  s_nil))
  s_nil))
  (s_cons (s_ret (e_fn (f := .tuple) F.b_tuple (b_cons o_var b_nil)))
  s_nil))))))
theorem dv11 (F : Fs P w K mg base) (hC : AllC (Tt K) P w K mg base Tb G k) (hsub : G.sub = sub) (hr : Room (k + 2) (A.deeper (envOfC "step_of" (defScope (top 19)) s.heap.objs.size f cdv))) :
  PSs (cxOf (L2.CX P w) P w K mg base N11 "step_of" (defScope (top 19)) f cdv A outer s H E) (defBody (top 19)) (tzS K ⟨xtZ mg, fun cls d _ H => E cls d H, ⟨none, none, Tt K⟩⟩ (evSs G b11)) := by
  have hN : N11.Nodup := sc11.nd
  exact (s_cons (s_ret (e_call (i := 7) hC hr (Nat.le_add_right _ _) (takes_of rfl rfl rfl rfl) (a_cons e_var (a_cons e_var a_nil))))
  s_nil)
theorem dv12 (F : Fs P w K mg base) (hC : AllC (Tt K) P w K mg base Tb G k) (hsub : G.sub = sub) (hr : Room (k + 2) (A.deeper (envOfC "_law_hand" (defScope (top 21)) s.heap.objs.size f cdv))) :
  PSs (cxOf (L2.CX P w) P w K mg base N12 "_law_hand" (defScope (top 21)) f cdv A outer s H E) (defBody (top 21)) (tzS K ⟨xtZ mg, fun cls d _ H => E cls d H, ⟨none, none, Tt K⟩⟩ (evSs G b12)) := by
  have hN : N12.Nodup := sc12.nd
  exact (s_cons (s_lc0 (k := .val) [("cell", 2)] hN (i_val (e_sli o_var o_none (o_some e_int))) (fun s H C cl fp => (g_nm hN)) (fun s H C cl fp => (e_fn (f := .abs) F.b_abs (b_cons (o_of (e_fn (f := .int) F.b_int (b_cons o_var b_nil))) b_nil))))
  (s_cons (s_ret (e_lst (a_cons e_var (a_cons e_int (a_cons e_int (a_cons (e_bin (o := .add) (o_of e_int) (o_of (e_bin (o := .mul) (o_of e_int) (o_of (e_fx (f := .len) (room_u hr) F.b_len (b_cons o_var b_nil)))))) (a_cons e_int a_nil)))))))
  s_nil))
theorem dv13 (F : Fs P w K mg base) (hC : AllC (Tt K) P w K mg base Tb G k) (hsub : G.sub = sub) (hr : Room (k + 2) (A.deeper (envOfC "_law_draw" (defScope (top 22)) s.heap.objs.size f cdv))) :
  PSs (cxOf (L2.CX P w) P w K mg base N13 "_law_draw" (defScope (top 22)) f cdv A outer s H E) (defBody (top 22)) (tzS K ⟨xtZ mg, fun cls d _ H => E cls d H, ⟨none, none, Tt K⟩⟩ (evSs G b13)) := by
  have hN : N13.Nodup := sc13.nd
  exact (s_cons (s_if (t_pw (w_and (t_cmp (o := .eq) (room_u hr) (o_of (e_idx o_var (o_of e_int))) (o_of e_int)) (w_and1 (t_cmp (o := .lt) (room_u hr) (o_of (e_idx o_var (o_of e_int))) (o_of (e_fx (f := .len) (room_u hr) F.b_len (b_cons (o_of (e_idx o_var (o_of e_int))) b_nil))))))) (s_cons (s_set hN (e_idx (o_of (e_idx o_var (o_of e_int))) (o_of (e_idx o_var (o_of e_int)))))
  (s_cons (s_seti (e_bin (o := .add) (o_of (e_idx o_var (o_of e_int))) (o_of e_int)) e_int)
  (s_cons (s_seti (e_bin (o := .mod) (o_of (e_fn (f := .int) F.b_int (b_cons (o_of (e_bin (o := .add) (o_of (e_bin (o := .add) (o_of (e_bin (o := .mul) (o_of (e_idx o_var (o_of e_int))) (o_of e_int))) (o_of (e_bin (o := .mul) o_var (o_of e_int))))) (o_of e_int))) b_nil))) (o_of e_int)) e_int)
  (s_cons (s_if (t_cmp (o := .ge) (room_u hr) o_var (o_of (e_bin (o := .pow) (o_of e_int) (o_of e_int)))) (s_cons (s_seti e_var e_int)
  s_nil) s_nil)
  s_nil)))) s_nil)
  (s_cons (s_if (t_cmp (o := .gt) (room_u hr) (o_of (e_idx o_var (o_of e_int))) (o_of e_int)) (s_cons (s_set hN (e_bin (o := .mod) (o_of (e_fn (f := .int) F.b_int (b_cons (o_of (e_idx o_var (o_of e_int))) b_nil))) o_var))
  (s_cons (s_seti (e_bin (o := .fdiv) (o_of (e_idx o_var (o_of e_int))) o_var) e_int)
  (s_cons s_retv
  s_nil))) s_nil)
  (s_cons (s_seti (e_bin (o := .add) (o_of (e_idx o_var (o_of e_int))) (o_of e_int)) e_int)
  (s_cons (s_set hN (e_bin (o := .mod) (o_of (e_fn (f := .int) F.b_int (b_cons (o_of (e_bin (o := .mul) (o_of (e_fn (f := .int) F.b_int (b_cons (o_of (e_bin (o := .add) (o_of (e_idx o_var (o_of e_int))) (o_of (e_bin (o := .mul) (o_of e_int) (o_of (e_idx o_var (o_of e_int))))))) b_nil))) (o_of e_int))) b_nil))) (o_of e_int)))
  (s_cons (s_set hN (e_bin (o := .mod) (o_of (e_fn (f := .int) F.b_int (b_cons (o_of (e_bin (o := .mul) o_var (o_of (e_bin (o := .add) (o_of (e_bin (o := .fdiv) o_var (o_of e_int))) (o_of e_int))))) b_nil))) (o_of e_int)))
  (s_cons (s_set hN (e_bin (o := .mod) (o_of (e_fn (f := .int) F.b_int (b_cons (o_of (e_bin (o := .mul) o_var (o_of (e_bin (o := .add) (o_of (e_bin (o := .fdiv) o_var (o_of e_int))) (o_of e_int))))) b_nil))) (o_of e_int)))
  (s_cons (s_ret (e_bin (o := .mod) (o_of (e_fn (f := .int) F.b_int (b_cons (o_of (e_bin (o := .fdiv) o_var (o_of e_int))) b_nil))) o_var))
  s_nil)))))))
theorem dv14 (F : Fs P w K mg base) (hC : AllC (Tt K) P w K mg base Tb G k) (hsub : G.sub = sub) (hr : Room (k + 2) (A.deeper (envOfC "_law_any" (defScope (top 23)) s.heap.objs.size f cdv))) :
  PSs (cxOf (L2.CX P w) P w K mg base N14 "_law_any" (defScope (top 23)) f cdv A outer s H E) (defBody (top 23)) (tzS K ⟨xtZ mg, fun cls d _ H => E cls d H, ⟨none, none, Tt K⟩⟩ (evSs G b14)) := by
  have hN : N14.Nodup := sc14.nd
  exact (s_cons (s_ret (e_idx o_var (o_of (e_call (i := 13) hC hr (Nat.le_add_right _ _) (takes_of rfl rfl rfl rfl) (a_cons e_var (a_cons (e_fx (f := .len) (room_u hr) F.b_len (b_cons o_var b_nil)) a_nil))))))
  s_nil)
theorem dv15 (F : Fs P w K mg base) (hC : AllC (Tt K) P w K mg base Tb G k) (hsub : G.sub = sub) (hr : Room (k + 2) (A.deeper (envOfC "_law_deep" (defScope (top 24)) s.heap.objs.size f cdv))) :
  PSs (cxOf (L2.CX P w) P w K mg base N15 "_law_deep" (defScope (top 24)) f cdv A outer s H E) (defBody (top 24)) (tzS K ⟨xtZ mg, fun cls d _ H => E cls d H, ⟨none, none, Tt K⟩⟩ (evSs G b15)) := by
  have hN : N15.Nodup := sc15.nd
  exact (s_cons (s_set hN (e_call (i := 14) hC hr (Nat.le_add_right _ _) (takes_of rfl rfl rfl rfl) (a_cons e_var (a_cons (e_lst (a_cons e_str (a_cons e_str a_nil))) a_nil))))
  (s_cons (s_fr (k := .rng1) (passes_of rfl) (i_rng1 F.b_range (a_cons (e_bin (o := .add) (o_of e_int) (o_of (e_call (i := 13) hC hr (Nat.le_add_right _ _) (takes_of rfl rfl rfl rfl) (a_cons e_var (a_cons e_int a_nil))))) a_nil)) (g_nm hN) (s_cons (s_set hN (e_ife (t_cmp (o := .eq) (room_u hr) (o_of (e_call (i := 13) hC hr (Nat.le_add_right _ _) (takes_of rfl rfl rfl rfl) (a_cons e_var (a_cons e_int a_nil)))) (o_of e_int)) (e_lst (a_cons e_var a_nil)) (e_tup (a_cons e_var a_nil))))
  s_nil))
  (s_cons s_retv
  s_nil)))
theorem dv16 (F : Fs P w K mg base) (hC : AllC (Tt K) P w K mg base Tb G k) (hsub : G.sub = sub) (hr : Room (k + 2) (A.deeper (envOfC "_law_grid" (defScope (top 25)) s.heap.objs.size f cdv))) :
  PSs (cxOf (L2.CX P w) P w K mg base N16 "_law_grid" (defScope (top 25)) f cdv A outer s H E) (defBody (top 25)) (tzS K ⟨xtZ mg, fun cls d _ H => E cls d H, ⟨none, none, Tt K⟩⟩ (evSs G b16)) := by
  have hN : N16.Nodup := sc16.nd
  exact (s_cons (s_ret (e_tup (a_cons (e_bin (o := .add) (o_of e_int) (o_of (e_call (i := 13) hC hr (Nat.le_add_right _ _) (takes_of rfl rfl rfl rfl) (a_cons e_var (a_cons (e_call (i := 14) hC hr (Nat.le_add_right _ _) (takes_of rfl rfl rfl rfl) (a_cons e_var (a_cons (e_lst (a_cons e_int (a_cons e_int a_nil))) a_nil))) a_nil))))) (a_cons (e_bin (o := .add) (o_of e_int) (o_of (e_call (i := 13) hC hr (Nat.le_add_right _ _) (takes_of rfl rfl rfl rfl) (a_cons e_var (a_cons (e_call (i := 14) hC hr (Nat.le_add_right _ _) (takes_of rfl rfl rfl rfl) (a_cons e_var (a_cons (e_lst (a_cons e_int (a_cons e_int a_nil))) a_nil))) a_nil))))) a_nil))))
  s_nil)
theorem dv17 (F : Fs P w K mg base) (hC : AllC (Tt K) P w K mg base Tb G k) (hsub : G.sub = sub) (hr : Room (k + 2) (A.deeper (envOfC "_law_step" (defScope (top 26)) s.heap.objs.size f cdv))) :
  PSs (cxOf (L2.CX P w) P w K mg base N17 "_law_step" (defScope (top 26)) f cdv A outer s H E) (defBody (top 26)) (tzS K ⟨xtZ mg, fun cls d _ H => E cls d H, ⟨none, none, Tt K⟩⟩ (evSs G b17)) := by
  have hN : N17.Nodup := sc17.nd
  exact (s_cons (s_ret (e_bin (o := .fdiv) (o_of (e_bin (o := .sub) (o_of (e_bin (o := .add) o_var (o_of (e_bin (o := .mul) (o_of (e_idx o_var (o_of e_int))) (o_of (e_idx o_var (o_of e_int))))))) (o_of e_int))) (o_of (e_bin (o := .mul) (o_of (e_idx o_var (o_of e_int))) (o_of (e_idx o_var (o_of e_int)))))))
  s_nil)
theorem dv18 (F : Fs P w K mg base) (hC : AllC (Tt K) P w K mg base Tb G k) (hsub : G.sub = sub) (hr : Room (k + 2) (A.deeper (envOfC "_law_stamped" (defScope (top 27)) s.heap.objs.size f cdv))) :
  PSs (cxOf (L2.CX P w) P w K mg base N18 "_law_stamped" (defScope (top 27)) f cdv A outer s H E) (defBody (top 27)) (tzS K ⟨xtZ mg, fun cls d _ H => E cls d H, ⟨none, none, Tt K⟩⟩ (evSs G b18)) := by
  have hN : N18.Nodup := sc18.nd
  exact (s_cons (s_parT2 hN (r_cons (e_call (i := 17) hC hr (Nat.le_add_right _ _) (takes_of rfl rfl rfl rfl) (a_cons e_var (a_cons e_var a_nil))) (r_cons (e_lst a_nil) r_nil)))
  (s_cons (s_fr (k := .rng1) (passes_of rfl) (i_rng1 F.b_range (a_cons (e_idx o_var (o_of e_int)) a_nil)) (g_nm hN) (s_cons (s_lc0 (k := .rng1) [("column", 8)] hN (i_rng1 F.b_range (a_cons (e_idx o_var (o_of e_int)) a_nil)) (fun s H C cl fp => (g_nm hN)) (fun s H C cl fp => (e_bin (o := .add) (o_of (e_bin (o := .add) o_var (o_of (e_bin (o := .mul) (o_of (e_bin (o := .add) (o_of (e_bin (o := .mul) o_var (o_of (e_idx o_var (o_of e_int))))) o_var)) o_var)))) o_var)))
  (s_cons (s_app (e_fn (f := .tuple) F.b_tuple (b_cons (o_of (e_lc0 (k := .val) [("one", 9)] hN (i_val e_var) (fun s H C cl fp => (g_nm hN)) (fun s H C cl fp => (e_ife (t_cmp (o := .lt) (room_u hr) o_var (o_of (e_bin (o := .add) o_var o_var))) e_var e_non)))) b_nil)))
  s_nil)))
  (s_cons (s_ret (e_fn (f := .tuple) F.b_tuple (b_cons o_var b_nil)))
  s_nil)))
theorem dv19 (F : Fs P w K mg base) (hC : AllC (Tt K) P w K mg base Tb G k) (hsub : G.sub = sub) (hr : Room (k + 2) (A.deeper (envOfC "_law_no_grid" (defScope (top 28)) s.heap.objs.size f cdv))) :
  PSs (cxOf (L2.CX P w) P w K mg base N19 "_law_no_grid" (defScope (top 28)) f cdv A outer s H E) (defBody (top 28)) (tzS K ⟨xtZ mg, fun cls d _ H => E cls d H, ⟨none, none, Tt K⟩⟩ (evSs G b19)) := by
  have hN : N19.Nodup := sc19.nd
  exact (s_cons (s_set hN (e_lst (a_cons e_non (a_cons (e_tup a_nil) (a_cons (e_tup (a_cons e_int (a_cons e_int a_nil))) (a_cons (e_tup (a_cons e_int (a_cons e_int a_nil))) (a_cons (e_lst (a_cons e_int (a_cons e_int a_nil))) (a_cons (e_tup (a_cons e_int a_nil)) (a_cons (e_tup (a_cons e_int (a_cons e_int (a_cons e_int a_nil)))) (a_cons (e_tup (a_cons e_bl (a_cons e_int a_nil))) (a_cons (e_tup (a_cons e_str (a_cons e_int a_nil))) (a_cons e_int (a_cons e_str (a_cons e_dic0 (a_cons (e_tup (a_cons e_int (a_cons (e_neg e_int) a_nil))) a_nil)))))))))))))))
  (s_cons (s_ret (e_call (i := 14) hC hr (Nat.le_add_right _ _) (takes_of rfl rfl rfl rfl) (a_cons e_var (a_cons (e_bin (o := .add) o_var (o_of (e_lst (a_cons (e_call (i := 15) hC hr (Nat.le_add_right _ _) (takes_of rfl rfl rfl rfl) (a_cons e_var a_nil)) a_nil)))) a_nil))))
  s_nil))
theorem dv20 (F : Fs P w K mg base) (hC : AllC (Tt K) P w K mg base Tb G k) (hsub : G.sub = sub) (hr : Room (k + 2) (A.deeper (envOfC "_law_no_many" (defScope (top 29)) s.heap.objs.size f cdv))) :
  PSs (cxOf (L2.CX P w) P w K mg base N20 "_law_no_many" (defScope (top 29)) f cdv A outer s H E) (defBody (top 29)) (tzS K ⟨xtZ mg, fun cls d _ H => E cls d H, ⟨none, none, Tt K⟩⟩ (evSs G b20)) := by
  have hN : N20.Nodup := sc20.nd
  exact (s_cons (s_ret (e_call (i := 14) hC hr (Nat.le_add_right _ _) (takes_of rfl rfl rfl rfl) (a_cons e_var (a_cons (e_lst (a_cons e_int (a_cons (e_bin (o := .add) (o_of (e_bin (o := .pow) (o_of e_int) (o_of e_int))) (o_of e_int)) (a_cons (e_neg e_int) (a_cons e_non (a_cons e_bl (a_cons e_str a_nil))))))) a_nil))))
  s_nil)
theorem dv21 (F : Fs P w K mg base) (hC : AllC (Tt K) P w K mg base Tb G k) (hsub : G.sub = sub) (hr : Room (k + 2) (A.deeper (envOfC "_law_said" (defScope (top 30)) s.heap.objs.size f cdv)))  (act : ∀ (W : WX) (pn : List (Addr × Obj)) (xe : Value → Shared → Prop) (p1 p2 : Pos), Takes ((cxOf (L2.CX P w) P w K mg base N21 "_law_said" (defScope (top 30)) f cdv A outer s H E).tr pn xe) W → PE ((cxOf (L2.CX P w) P w K mg base N21 "_law_said" (defScope (top 30)) f cdv A outer s H E).tr pn xe) (.Call (.Name "call" p1) [] [] p2) (tz K ⟨xtZ mg, W, ⟨none, none, Tt K⟩⟩ (evE G (.act 0)))):
  PSs (cxOf (L2.CX P w) P w K mg base N21 "_law_said" (defScope (top 30)) f cdv A outer s H E) (defBody (top 30)) (tzS K ⟨xtZ mg, fun cls d _ H => E cls d H, ⟨none, none, Tt K⟩⟩ (evSs G b21)) := by
  have hN : N21.Nodup := sc21.nd
  have i_NoNumber : SubI K mg G.sub "NoNumber" (.ref (He.ga K "NoNumber")) := by rw [hsub]; exact F.i_NoNumber
  have i_NoSheet : SubI K mg G.sub "NoSheet" (.ref (He.ga K "NoSheet")) := by rw [hsub]; exact F.i_NoSheet
  have x_PrintError : SubX K mg G.sub "PrintError" (.ref (He.ga K "PrintError")) := by rw [hsub]; exact F.x_PrintError
  have i_ValueError : SubI K mg G.sub "ValueError" (.type "ValueError") := by rw [hsub]; exact F.i_ValueError
  exact (s_cons (s_try hN (takes_of rfl rfl rfl rfl) F.c_PrintError x_PrintError (fun W pn xe tk1 po1 => (s_cons (s_ex (act _ _ _ _ _ tk1))
  s_nil)) (fun a oe C pn hz hf => (s_cons (s_if (t_not (t_val (e_isEb hz hf F.b_isinstance F.b_ValueError i_ValueError))) (s_cons (s_ret e_str)
  s_nil) s_nil)
  (s_cons (s_set hN (e_lst (a_cons (e_isE hz hf F.b_isinstance F.c_NoNumber i_NoNumber) (a_cons (e_isE hz hf F.b_isinstance F.c_NoSheet i_NoSheet) a_nil))))
  (s_cons (s_ret (e_ife (t_cmp (o := .eq) (room_us hr) (o_of (e_count o_var (b_cons (o_of e_bl) b_nil))) (o_of e_int)) (e_idx (o_of (e_lst (a_cons e_str (a_cons e_str a_nil)))) (o_of (e_index o_var (b_cons (o_of e_bl) b_nil)))) e_str))
  s_nil)))))
  (s_cons (s_ret e_str)
  s_nil))
theorem dv21t (F : Fs P w K mg base) (hC : AllC (Tt K) P w K mg base Tb G k) (hsub : G.sub = sub) (hr : Room (k + 2) (A.deeper (envOfC "_law_said" (defScope (top 30)) s.heap.objs.size f cdv))) {c : CbI} (act : ∀ (W : WX) (pn : List (Addr × Obj)) (xe : Value → Shared → Prop) (p1 p2 : Pos), Takes ((cxOf C8.CX0 P w K mg base N21 "_law_said" (defScope (top 30)) f cdv A outer s H C8.E0).tr pn xe) W → PE ((cxOf C8.CX0 P w K mg base N21 "_law_said" (defScope (top 30)) f cdv A outer s H C8.E0).tr pn xe) (.Call (.Name "call" p1) [] [] p2) (tz K ⟨xtZ mg, W, ⟨none, some c, Tt K⟩⟩ (evE G (.act 0)))):
  PSs (cxOf C8.CX0 P w K mg base N21 "_law_said" (defScope (top 30)) f cdv A outer s H C8.E0).nox (defBody (top 30)) (tzS K ⟨xtZ mg, fun _ _ _ _ => False, ⟨none, some c, Tt K⟩⟩ (evSs G b21)) := by
  have hN : N21.Nodup := sc21.nd
  have i_NoNumber : SubI K mg G.sub "NoNumber" (.ref (He.ga K "NoNumber")) := by rw [hsub]; exact F.i_NoNumber
  have i_NoSheet : SubI K mg G.sub "NoSheet" (.ref (He.ga K "NoSheet")) := by rw [hsub]; exact F.i_NoSheet
  have x_PrintError : SubX K mg G.sub "PrintError" (.ref (He.ga K "PrintError")) := by rw [hsub]; exact F.x_PrintError
  have i_ValueError : SubI K mg G.sub "ValueError" (.type "ValueError") := by rw [hsub]; exact F.i_ValueError
  exact (s_cons (s_try hN LamX.takes0 F.c_PrintError x_PrintError (fun W pn xe tk1 po1 => (s_cons (s_ex (act _ _ _ _ _ tk1))
  s_nil)) (fun a oe C pn hz hf => (s_cons (s_if (t_not (t_val (e_isEb hz hf F.b_isinstance F.b_ValueError i_ValueError))) (s_cons (s_ret e_str)
  s_nil) s_nil)
  (s_cons (s_set hN (e_lst (a_cons (e_isE hz hf F.b_isinstance F.c_NoNumber i_NoNumber) (a_cons (e_isE hz hf F.b_isinstance F.c_NoSheet i_NoSheet) a_nil))))
  (s_cons (s_ret (e_ife (t_cmp (o := .eq) (room_us hr) (o_of (e_count o_var (b_cons (o_of e_bl) b_nil))) (o_of e_int)) (e_idx (o_of (e_lst (a_cons e_str (a_cons e_str a_nil)))) (o_of (e_index o_var (b_cons (o_of e_bl) b_nil)))) e_str))
  s_nil)))))
  (s_cons (s_ret e_str)
  s_nil))
theorem dv22 (F : Fs P w K mg base) (hC : AllC (Tt K) P w K mg base Tb G k) (hsub : G.sub = sub) (hr : Room (k + 2) (A.deeper (envOfC "_law_is_right" (defScope (top 31)) s.heap.objs.size f cdv))) :
  PSs (cxOf (L2.CX P w) P w K mg base N22 "_law_is_right" (defScope (top 31)) f cdv A outer s H E) (defBody (top 31)) (tzS K ⟨xtZ mg, fun cls d _ H => E cls d H, ⟨none, none, Tt K⟩⟩ (evSs G b22)) := by
  have hN : N22.Nodup := sc22.nd
  exact (s_cons (s_parT2 hN (r_cons (e_bin (o := .add) (o_of e_int) (o_of (e_call (i := 13) hC hr (Nat.le_add_right _ _) (takes_of rfl rfl rfl rfl) (a_cons e_var (a_cons (e_call (i := 14) hC hr (Nat.le_add_right _ _) (takes_of rfl rfl rfl rfl) (a_cons e_var (a_cons (e_lst (a_cons e_int (a_cons (e_bin (o := .pow) (o_of e_int) (o_of e_int)) a_nil))) a_nil))) a_nil))))) (r_cons (e_call (i := 13) hC hr (Nat.le_add_right _ _) (takes_of rfl rfl rfl rfl) (a_cons e_var (a_cons (e_call (i := 14) hC hr (Nat.le_add_right _ _) (takes_of rfl rfl rfl rfl) (a_cons e_var (a_cons (e_lst (a_cons e_int (a_cons (e_bin (o := .pow) (o_of e_int) (o_of e_int)) a_nil))) a_nil))) a_nil))) r_nil)))
  (s_cons (s_set hN (e_call (i := 17) hC hr (Nat.le_add_right _ _) (takes_of rfl rfl rfl rfl) (a_cons e_var (a_cons e_var a_nil))))
  (s_cons (s_if (t_cmp (o := .ne) (room_u hr) (o_of (e_lst (a_cons (e_call (i := 7) hC hr (Nat.le_add_right _ _) (takes_of rfl rfl rfl rfl) (a_cons e_var (a_cons e_var a_nil))) (a_cons (e_call (i := 11) hC hr (Nat.le_add_right _ _) (takes_of rfl rfl rfl rfl) (a_cons e_var (a_cons e_var a_nil))) (a_cons (e_call (i := 11) hC hr (Nat.le_add_right _ _) (takes_of rfl rfl rfl rfl) (a_cons e_var (a_cons e_var a_nil))) a_nil))))) (o_of (e_lst (a_cons e_var (a_cons e_var (a_cons e_var a_nil)))))) (s_cons (s_ret e_bl)
  s_nil) s_nil)
  (s_cons (s_set hN (e_lst a_nil))
  (s_cons (s_fr (k := .rng1) (passes_of rfl) (i_rng1 F.b_range (a_cons (e_idx o_var (o_of e_int)) a_nil)) (g_nm hN) (s_cons (s_app (e_fn (f := .tuple) F.b_tuple (b_cons (o_of (e_lc0 (k := .rng1) [("column", 9)] hN (i_rng1 F.b_range (a_cons (e_idx o_var (o_of e_int)) a_nil)) (fun s H C cl fp => (g_nm hN)) (fun s H C cl fp => (e_bin (o := .add) o_var (o_of (e_bin (o := .mul) (o_of (e_bin (o := .add) (o_of (e_bin (o := .mul) o_var (o_of (e_idx o_var (o_of e_int))))) o_var)) o_var)))))) b_nil)))
  s_nil))
  (s_cons (s_if (t_cmp (o := .ne) (room_u hr) (o_of (e_lst (a_cons (e_call (i := 8) hC hr (Nat.le_add_right _ _) (takes_of rfl rfl rfl rfl) (a_cons e_var (a_cons e_var (a_cons e_var a_nil)))) (a_cons (e_call (i := 8) hC hr (Nat.le_add_right _ _) (takes_of rfl rfl rfl rfl) (a_cons e_var (a_cons e_var (a_cons e_var a_nil)))) a_nil)))) (o_of (e_lst (a_cons (e_fn (f := .tuple) F.b_tuple (b_cons o_var b_nil)) (a_cons (e_fn (f := .tuple) F.b_tuple (b_cons o_var b_nil)) a_nil))))) (s_cons (s_ret e_bl)
  s_nil) s_nil)
  (s_cons (s_set hN (e_call (i := 13) hC hr (Nat.le_add_right _ _) (takes_of rfl rfl rfl rfl) (a_cons e_var (a_cons e_var a_nil))))
  (s_cons (s_set hN (e_call (i := 18) hC hr (Nat.le_add_right _ _) (takes_of rfl rfl rfl rfl) (a_cons e_var (a_cons e_var (a_cons e_var (a_cons e_var a_nil))))))
  (s_cons (s_ret (e_cmp (o := .eq) (room_u hr) (o_of (e_lst (a_cons (e_call (i := 9) hC hr (Nat.le_add_right _ _) (takes_of rfl rfl rfl rfl) (a_cons e_var (a_cons e_var (a_cons e_var (a_cons e_var a_nil))))) (a_cons (e_call (i := 9) hC hr (Nat.le_add_right _ _) (takes_of rfl rfl rfl rfl) (a_cons e_var (a_cons e_var (a_cons e_var (a_cons e_var a_nil))))) a_nil)))) (o_of (e_lst (a_cons e_var (a_cons e_var a_nil))))))
  s_nil)))))))))
theorem dv23 (F : Fs P w K mg base) (hC : AllC (Tt K) P w K mg base Tb G k) (hsub : G.sub = sub) (hr : Room (k + 2) (A.deeper (envOfC "_law_is_stack_right" (defScope (top 32)) s.heap.objs.size f cdv))) :
  PSs (cxOf (L2.CX P w) P w K mg base N23 "_law_is_stack_right" (defScope (top 32)) f cdv A outer s H E) (defBody (top 32)) (tzS K ⟨xtZ mg, fun cls d _ H => E cls d H, ⟨none, none, Tt K⟩⟩ (evSs G b23)) := by
  have hN : N23.Nodup := sc23.nd
  exact (s_cons (s_parT2 hN (r_cons (e_bin (o := .add) (o_of e_int) (o_of (e_call (i := 13) hC hr (Nat.le_add_right _ _) (takes_of rfl rfl rfl rfl) (a_cons e_var (a_cons e_int a_nil))))) (r_cons (e_call (i := 13) hC hr (Nat.le_add_right _ _) (takes_of rfl rfl rfl rfl) (a_cons e_var (a_cons e_int a_nil))) r_nil)))
  (s_cons (s_set hN (e_fn (f := .tuple) F.b_tuple (b_cons (o_of (e_lc0 (k := .rng1) [("one", 8)] hN (i_rng1 F.b_range (a_cons e_var a_nil)) (fun s H C cl fp => (g_nm hN)) (fun s H C cl fp => (e_bin (o := .add) o_var o_var)))) b_nil)))
  (s_cons (s_if (t_cmp (o := .ne) (room_u hr) (o_of (e_lst (a_cons (e_fn (f := .tuple) F.b_tuple (b_cons (o_of (e_call (i := 10) hC hr (Nat.le_add_right _ _) (takes_of rfl rfl rfl rfl) (a_cons e_var (a_cons e_var (a_cons e_var a_nil))))) b_nil)) (a_cons (e_fn (f := .tuple) F.b_tuple (b_cons (o_of (e_call (i := 10) hC hr (Nat.le_add_right _ _) (takes_of rfl rfl rfl rfl) (a_cons e_var (a_cons e_var (a_cons e_var a_nil))))) b_nil)) a_nil)))) (o_of (e_lst (a_cons e_var (a_cons e_var a_nil))))) (s_cons (s_ret e_bl)
  s_nil) s_nil)
  (s_cons (s_set hN (e_lst a_nil))
  (s_cons (s_fr (k := .rng1) (passes_of rfl) (i_rng1 F.b_range (a_cons (e_call (i := 11) hC hr (Nat.le_add_right _ _) (takes_of rfl rfl rfl rfl) (a_cons e_var (a_cons e_var a_nil))) a_nil)) (g_nm hN) (s_cons (s_fr (k := .val) (passes_of rfl) (i_val (e_call (i := 9) hC hr (Nat.le_add_right _ _) (takes_of rfl rfl rfl rfl) (a_cons e_var (a_cons e_var (a_cons e_var (a_cons e_var a_nil)))))) (g_nm hN) (s_cons (s_ext (e_lc1 (k := .val) [("one", 8)] hN (i_val e_var) (fun s H C cl fp => (g_nm hN)) (fun s H C cl fp => (t_cmp (o := .isn) (room_u hr) o_var (o_of e_non))) (fun s H C cl fp => e_var)))
  s_nil))
  s_nil))
  (s_cons (s_ret (e_cmp (o := .eq) (room_u hr) (o_of (e_fx (f := .sorted) (room_u hr) F.b_sorted (b_cons o_var b_nil))) (o_of (e_fn (f := .list) F.b_list (b_cons o_var b_nil)))))
  s_nil))))))
theorem dv24 (F : Fs P w K mg base) (hC : AllC (Tt K) P w K mg base Tb G k) (hsub : G.sub = sub) (hL__law_said : LamZ (Tt K) P w K mg base (k + 1) "_law_said" (G.lam 21)) (hcode : cdv = .ref (cdA K "law")) (hr : Room (k + 2) (A.deeper (envOfC "law" (defScope (top 33)) s.heap.objs.size f cdv))) :
  PSs (cxOf (L2.CX P w) P w K mg base N24 "law" (defScope (top 33)) f cdv A outer s H E) (defBody (top 33)) (tzS K ⟨xtZ mg, fun cls d _ H => E cls d H, ⟨none, none, Tt K⟩⟩ (evSs G b24)) := by
  have hN : N24.Nodup := sc24.nd
  have hTB := F.u24
  have hmT : (tbA K "law", lq "law") ∈ Tt K := by simp [Tt]
  exact (s_cons (s_hnd hN (e_call (i := 12) hC hr (Nat.le_add_right _ _) (takes_of rfl rfl rfl rfl) (a_cons e_var a_nil)))
  (s_cons (s_if (t_pw (w_or (t_cmp (o := .ne) (room_u hr) (o_of (e_call (i := 8) hC hr (Nat.le_add_right _ _) (takes_of rfl rfl rfl rfl) (a_cons (e_tup (a_cons e_int (a_cons e_int a_nil))) (a_cons e_int (a_cons e_int a_nil))))) (o_of (e_tup (a_cons (e_tup (a_cons e_int a_nil)) (a_cons (e_tup (a_cons e_int a_nil)) a_nil))))) (w_or1 (t_cmp (o := .ne) (room_u hr) (o_of (e_call (i := 9) hC hr (Nat.le_add_right _ _) (takes_of rfl rfl rfl rfl) (a_cons (e_tup (a_cons e_int (a_cons e_int a_nil))) (a_cons e_int (a_cons e_int (a_cons e_int a_nil)))))) (o_of (e_tup (a_cons (e_tup (a_cons e_int (a_cons e_int a_nil))) (a_cons (e_tup (a_cons e_int (a_cons e_non a_nil))) a_nil)))))))) (s_cons (s_ret e_bl)
  s_nil) s_nil)
  (s_cons (s_if (t_cmp (o := .ne) (room_u hr) (o_of (e_call (i := 7) hC hr (Nat.le_add_right _ _) (takes_of rfl rfl rfl rfl) (a_cons (e_tup (a_cons e_int (a_cons e_int a_nil))) (a_cons e_int a_nil)))) (o_of e_int)) (s_cons (s_ret e_bl)
  s_nil) s_nil)
  (s_cons (s_fr (k := .rng1) (passes_of rfl) (i_rng1 F.b_range (a_cons e_int a_nil)) (g_nm hN) (s_cons (s_set hN (e_call (i := 16) hC hr (Nat.le_add_right _ _) (takes_of rfl rfl rfl rfl) (a_cons e_var a_nil)))
  (s_cons (s_if (t_pw (w_or (t_cmp (o := .isn) (room_u hr) (o_of (e_call (i := 5) hC hr (Nat.le_add_right _ _) (takes_of rfl rfl rfl rfl) (a_cons e_var a_nil))) (o_of e_bl)) (w_or (t_not (t_val (e_call (i := 22) hC hr (Nat.le_add_right _ _) (takes_of rfl rfl rfl rfl) (a_cons e_var (a_cons e_var a_nil))))) (w_or1 (t_not (t_val (e_call (i := 23) hC hr (Nat.le_add_right _ _) (takes_of rfl rfl rfl rfl) (a_cons e_var (a_cons e_var a_nil))))))))) (s_cons (s_ret e_bl)
  s_nil) s_nil)
  (s_cons (s_parT2 hN (r_cons (e_call (i := 19) hC hr (Nat.le_add_right _ _) (takes_of rfl rfl rfl rfl) (a_cons e_var a_nil)) (r_cons (e_call (i := 20) hC hr (Nat.le_add_right _ _) (takes_of rfl rfl rfl rfl) (a_cons e_var a_nil)) r_nil)))
  (s_cons (s_set hN (e_lst (a_cons (e_lam hL__law_said hTB hcode hmT (by intro p hp hq; simp only [Tt, List.mem_singleton] at hp; subst hp; rfl) hr (Nat.le_refl _) (fun E A outer s H f c' hr2 => (e_call (i := 7) hC hr2 (Nat.le_refl _) (takes_of rfl rfl rfl rfl) (a_cons e_var (a_cons e_var a_nil))))) (a_cons (e_lamD (y := "again") hL__law_said hTB hcode hmT (by intro p hp hq; simp only [Tt, List.mem_singleton] at hp; subst hp; rfl) hr (Nat.le_refl _) (fun E A outer s H f c' hr2 => (e_call (i := 7) hC hr2 (Nat.le_refl _) (takes_of rfl rfl rfl rfl) (a_cons e_var (a_cons e_var a_nil))))) a_nil))))
  (s_cons (s_set hN (e_bin (o := .add) o_var (o_of (e_lst (a_cons (e_lam hL__law_said hTB hcode hmT (by intro p hp hq; simp only [Tt, List.mem_singleton] at hp; subst hp; rfl) hr (Nat.le_refl _) (fun E A outer s H f c' hr2 => (e_call (i := 8) hC hr2 (Nat.le_refl _) (takes_of rfl rfl rfl rfl) (a_cons e_var (a_cons e_var (a_cons e_int a_nil)))))) (a_cons (e_lamD (y := "again") hL__law_said hTB hcode hmT (by intro p hp hq; simp only [Tt, List.mem_singleton] at hp; subst hp; rfl) hr (Nat.le_refl _) (fun E A outer s H f c' hr2 => (e_call (i := 8) hC hr2 (Nat.le_refl _) (takes_of rfl rfl rfl rfl) (a_cons e_var (a_cons e_var (a_cons e_int a_nil)))))) a_nil))))))
  (s_cons (s_app (e_lam hL__law_said hTB hcode hmT (by intro p hp hq; simp only [Tt, List.mem_singleton] at hp; subst hp; rfl) hr (Nat.le_refl _) (fun E A outer s H f c' hr2 => (e_call (i := 8) hC hr2 (Nat.le_refl _) (takes_of rfl rfl rfl rfl) (a_cons e_var (a_cons e_int (a_cons (e_call (i := 14) hC hr2 (Nat.le_refl _) (takes_of rfl rfl rfl rfl) (a_cons e_var (a_cons (e_lst (a_cons (e_neg e_int) (a_cons (e_bin (o := .add) (o_of (e_bin (o := .pow) (o_of e_int) (o_of e_int))) (o_of e_int)) (a_cons e_non (a_cons e_bl a_nil))))) a_nil))) a_nil)))))))
  (s_cons (s_if (t_pw (w_or (t_cmp (o := .ne) (room_u hr) o_var (o_of (e_lst (a_cons e_str (a_cons e_str (a_cons e_str (a_cons e_str (a_cons e_str a_nil)))))))) (w_or1 (t_cmp (o := .isn) (room_u hr) (o_of (e_call (i := 5) hC hr (Nat.le_add_right _ _) (takes_of rfl rfl rfl rfl) (a_cons e_var a_nil))) (o_of e_bl))))) (s_cons (s_ret e_bl)
  s_nil) s_nil)
  s_nil))))))))
  (s_cons (s_ret e_bl)
  s_nil)))))
end

end ZZ.L

namespace ZZ.L
open L2 PyProof.Rows PySem.Spec PySem

section
variable {P : Program} {w : World} {K : Frag} {mg : Str → Option Value} {base : Heap}
theorem bi0 {fd : FuncData} (F : FunD K "is_integer" "is_integer" (defArgs (top 5)) (defBody (top 5)) (defScope (top 5)) [] [] (He.ga K "is_integer") fd) : Binds K fd ["thing"] [] := F.bindsN fun _ _ _ _ _ _ us hl => match us, hl with | [_], _ => rfl
theorem bi1 {fd : FuncData} (F : FunD K "is_within" "is_within" (defArgs (top 6)) (defBody (top 6)) (defScope (top 6)) [] [] (He.ga K "is_within") fd) : Binds K fd ["thing", "least", "most"] [] := F.bindsN fun _ _ _ _ _ _ us hl => match us, hl with | [_, _, _], _ => rfl
theorem bi2 {fd : FuncData} (F : FunD K "is_tuple" "is_tuple" (defArgs (top 7)) (defBody (top 7)) (defScope (top 7)) [] [] (He.ga K "is_tuple") fd) : Binds K fd ["thing", "size"] [] := F.bindsN fun _ _ _ _ _ _ us hl => match us, hl with | [_, _], _ => rfl
theorem bi3 {fd : FuncData} (F : FunD K "check_number" "check_number" (defArgs (top 8)) (defBody (top 8)) (defScope (top 8)) [] [] (He.ga K "check_number") fd) : Binds K fd ["thing", "least", "most"] [] := F.bindsN fun _ _ _ _ _ _ us hl => match us, hl with | [_, _, _], _ => rfl
theorem bi4 {fd : FuncData} (F : FunD K "up" "up" (defArgs (top 9)) (defBody (top 9)) (defScope (top 9)) [] [] (He.ga K "up") fd) : Binds K fd ["number", "by"] [] := F.bindsN fun _ _ _ _ _ _ us hl => match us, hl with | [_, _], _ => rfl
theorem bi5 {fd : FuncData} (F : FunD K "is_grid" "is_grid" (defArgs (top 13)) (defBody (top 13)) (defScope (top 13)) [] [] (He.ga K "is_grid") fd) : Binds K fd ["thing"] [] := F.bindsN fun _ _ _ _ _ _ us hl => match us, hl with | [_], _ => rfl
theorem bi6 {fd : FuncData} (F : FunD K "check_grid" "check_grid" (defArgs (top 14)) (defBody (top 14)) (defScope (top 14)) [] [] (He.ga K "check_grid") fd) : Binds K fd ["thing"] [] := F.bindsN fun _ _ _ _ _ _ us hl => match us, hl with | [_], _ => rfl
theorem bi7 {fd : FuncData} (F : FunD K "sheets_for" "sheets_for" (defArgs (top 15)) (defBody (top 15)) (defScope (top 15)) [] [] (He.ga K "sheets_for") fd) : Binds K fd ["grid", "many"] [] := F.bindsN fun _ _ _ _ _ _ us hl => match us, hl with | [_, _], _ => rfl
theorem bi8 {fd : FuncData} (F : FunD K "begins" "begins" (defArgs (top 16)) (defBody (top 16)) (defScope (top 16)) [] [] (He.ga K "begins") fd) : Binds K fd ["grid", "many", "first"] [] := F.bindsN fun _ _ _ _ _ _ us hl => match us, hl with | [_, _, _], _ => rfl
theorem bi9 {fd : FuncData} (F : FunD K "stamped" "stamped" (defArgs (top 17)) (defBody (top 17)) (defScope (top 17)) [] [] (He.ga K "stamped") fd) : Binds K fd ["grid", "many", "first", "sheet"] [] := F.bindsN fun _ _ _ _ _ _ us hl => match us, hl with | [_, _, _, _], _ => rfl
theorem bi10 {fd : FuncData} (F : FunD K "stacked" "stacked" (defArgs (top 18)) (defBody (top 18)) (defScope (top 18)) [] [] (He.ga K "stacked") fd) : Binds K fd ["grid", "many", "first"] [] := F.bindsN fun _ _ _ _ _ _ us hl => match us, hl with | [_, _, _], _ => rfl
theorem bi11 {fd : FuncData} (F : FunD K "step_of" "step_of" (defArgs (top 19)) (defBody (top 19)) (defScope (top 19)) [] [] (He.ga K "step_of") fd) : Binds K fd ["grid", "many"] [] := F.bindsN fun _ _ _ _ _ _ us hl => match us, hl with | [_, _], _ => rfl
theorem bi12 {fd : FuncData} (F : FunD K "_law_hand" "_law_hand" (defArgs (top 21)) (defBody (top 21)) (defScope (top 21)) [] [] (He.ga K "_law_hand") fd) : Binds K fd ["script"] [] := F.bindsN fun _ _ _ _ _ _ us hl => match us, hl with | [_], _ => rfl
theorem bi13 {fd : FuncData} (F : FunD K "_law_draw" "_law_draw" (defArgs (top 22)) (defBody (top 22)) (defScope (top 22)) [] [] (He.ga K "_law_draw") fd) : Binds K fd ["hand", "many"] [] := F.bindsN fun _ _ _ _ _ _ us hl => match us, hl with | [_, _], _ => rfl
theorem bi14 {fd : FuncData} (F : FunD K "_law_any" "_law_any" (defArgs (top 23)) (defBody (top 23)) (defScope (top 23)) [] [] (He.ga K "_law_any") fd) : Binds K fd ["hand", "some"] [] := F.bindsN fun _ _ _ _ _ _ us hl => match us, hl with | [_, _], _ => rfl
theorem bi15 {fd : FuncData} (F : FunD K "_law_deep" "_law_deep" (defArgs (top 24)) (defBody (top 24)) (defScope (top 24)) [] [] (He.ga K "_law_deep") fd) : Binds K fd ["hand"] [] := F.bindsN fun _ _ _ _ _ _ us hl => match us, hl with | [_], _ => rfl
theorem bi16 {fd : FuncData} (F : FunD K "_law_grid" "_law_grid" (defArgs (top 25)) (defBody (top 25)) (defScope (top 25)) [] [] (He.ga K "_law_grid") fd) : Binds K fd ["hand"] [] := F.bindsN fun _ _ _ _ _ _ us hl => match us, hl with | [_], _ => rfl
theorem bi17 {fd : FuncData} (F : FunD K "_law_step" "_law_step" (defArgs (top 26)) (defBody (top 26)) (defScope (top 26)) [] [] (He.ga K "_law_step") fd) : Binds K fd ["grid", "many"] [] := F.bindsN fun _ _ _ _ _ _ us hl => match us, hl with | [_, _], _ => rfl
theorem bi18 {fd : FuncData} (F : FunD K "_law_stamped" "_law_stamped" (defArgs (top 27)) (defBody (top 27)) (defScope (top 27)) [] [] (He.ga K "_law_stamped") fd) : Binds K fd ["grid", "many", "first", "sheet"] [] := F.bindsN fun _ _ _ _ _ _ us hl => match us, hl with | [_, _, _, _], _ => rfl
theorem bi19 {fd : FuncData} (F : FunD K "_law_no_grid" "_law_no_grid" (defArgs (top 28)) (defBody (top 28)) (defScope (top 28)) [] [] (He.ga K "_law_no_grid") fd) : Binds K fd ["hand"] [] := F.bindsN fun _ _ _ _ _ _ us hl => match us, hl with | [_], _ => rfl
theorem bi20 {fd : FuncData} (F : FunD K "_law_no_many" "_law_no_many" (defArgs (top 29)) (defBody (top 29)) (defScope (top 29)) [] [] (He.ga K "_law_no_many") fd) : Binds K fd ["hand"] [] := F.bindsN fun _ _ _ _ _ _ us hl => match us, hl with | [_], _ => rfl
theorem bi21 {fd : FuncData} (F : FunD K "_law_said" "_law_said" (defArgs (top 30)) (defBody (top 30)) (defScope (top 30)) [] [] (He.ga K "_law_said") fd) : Binds K fd ["call"] [] := F.bindsN fun _ _ _ _ _ _ us hl => match us, hl with | [_], _ => rfl
theorem bi22 {fd : FuncData} (F : FunD K "_law_is_right" "_law_is_right" (defArgs (top 31)) (defBody (top 31)) (defScope (top 31)) [] [] (He.ga K "_law_is_right") fd) : Binds K fd ["hand", "grid"] [] := F.bindsN fun _ _ _ _ _ _ us hl => match us, hl with | [_, _], _ => rfl
theorem bi23 {fd : FuncData} (F : FunD K "_law_is_stack_right" "_law_is_stack_right" (defArgs (top 32)) (defBody (top 32)) (defScope (top 32)) [] [] (He.ga K "_law_is_stack_right") fd) : Binds K fd ["hand", "grid"] [] := F.bindsN fun _ _ _ _ _ _ us hl => match us, hl with | [_, _], _ => rfl
theorem bi24 {fd : FuncData} (F : FunD K "law" "law" (defArgs (top 33)) (defBody (top 33)) (defScope (top 33)) [] [] (He.ga K "law") fd) : Binds K fd ["script"] [] := F.bindsN fun _ _ _ _ _ _ us hl => match us, hl with | [_], _ => rfl
theorem cd24 {fd : FuncData} (F : Fs P w K mg base) (FD : FunD K "law" "law" (defArgs (top 33)) (defBody (top 33)) (defScope (top 33)) [] [] (He.ga K "law") fd) : fd.code = .ref (cdA K "law") := by
  obtain ⟨oc, od, dV, kV, doc, pm, an, cdv, ct, osl, e, lk, _⟩ := FD.ex
  exact cdB_code F.t24 rfl lk
theorem lz21 (F : Fs P w K mg base) : ∀ (n : Nat), AllC (Tt K) P w K mg base Tb (gm n) (3 * n + 1) → (∀ m, m < n → AllC (Tt K) P w K mg base Tb (gm m) (3 * m + 1)) → LamZ (Tt K) P w K mg base (3 * n + 1 + 1) "_law_said" ((gm n).lam 21)
  | 0, _, _ => by
    obtain ⟨fd, FD⟩ := F.f21
    exact lam0 (x := "_law_said") F.m21 FD (bi21 FD) sc21 rfl (Or.inl rfl) (by decide) (by decide) (fun _ _ => rfl)
  | n + 1, _, hC' => by
    obtain ⟨fd, FD⟩ := F.f21
    have hC := hC' n (Nat.lt_succ_self n)
    have hC2 : ∀ th : Option (List D) → Out, AllC (Tt K) P w K mg base Tb { gm n with act := th } (3 * n + 1) := fun th => hC
    refine ⟨_, fd, _, _, N21, _, _, Tb[21], fun th => { gm n with act := th }, F.m21, FD, bi21 FD, sc21, rfl, Or.inl rfl, by decide, by decide, rfl, fun th hd => lam_eq rfl th hd, fun th => rfl, fun cdv A outer s H th c hr act => ?_⟩
    exact dv21t F (hC2 th) (sub_eq n) (hr.mono (by omega)) act
theorem all_s (F : Fs P w K mg base) : ∀ n, (∀ m, m < n → AllC (Tt K) P w K mg base Tb (gm m) (3 * m + 1)) → AllC (Tt K) P w K mg base Tb (gm n) (3 * n + 1)
  | 0, _ => fun i d hd => by
    have st : (gm 0).cal i = fun _ _ => .stuck := rfl
    rw [st]
    match i, hd with
    | 0, hd => cases hd; obtain ⟨fd, FD⟩ := F.f0; exact ⟨_, fd, _, fn_z0 FD sc0, F.m0, FD.kp, bi0 FD⟩
    | 1, hd => cases hd; obtain ⟨fd, FD⟩ := F.f1; exact ⟨_, fd, _, fn_z0 FD sc1, F.m1, FD.kp, bi1 FD⟩
    | 2, hd => cases hd; obtain ⟨fd, FD⟩ := F.f2; exact ⟨_, fd, _, fn_z0 FD sc2, F.m2, FD.kp, bi2 FD⟩
    | 3, hd => cases hd; obtain ⟨fd, FD⟩ := F.f3; exact ⟨_, fd, _, fn_z0 FD sc3, F.m3, FD.kp, bi3 FD⟩
    | 4, hd => cases hd; obtain ⟨fd, FD⟩ := F.f4; exact ⟨_, fd, _, fn_z0 FD sc4, F.m4, FD.kp, bi4 FD⟩
    | 5, hd => cases hd; obtain ⟨fd, FD⟩ := F.f5; exact ⟨_, fd, _, fn_z0 FD sc5, F.m5, FD.kp, bi5 FD⟩
    | 6, hd => cases hd; obtain ⟨fd, FD⟩ := F.f6; exact ⟨_, fd, _, fn_z0 FD sc6, F.m6, FD.kp, bi6 FD⟩
    | 7, hd => cases hd; obtain ⟨fd, FD⟩ := F.f7; exact ⟨_, fd, _, fn_z0 FD sc7, F.m7, FD.kp, bi7 FD⟩
    | 8, hd => cases hd; obtain ⟨fd, FD⟩ := F.f8; exact ⟨_, fd, _, fn_z0 FD sc8, F.m8, FD.kp, bi8 FD⟩
    | 9, hd => cases hd; obtain ⟨fd, FD⟩ := F.f9; exact ⟨_, fd, _, fn_z0 FD sc9, F.m9, FD.kp, bi9 FD⟩
    | 10, hd => cases hd; obtain ⟨fd, FD⟩ := F.f10; exact ⟨_, fd, _, fn_z0 FD sc10, F.m10, FD.kp, bi10 FD⟩
    | 11, hd => cases hd; obtain ⟨fd, FD⟩ := F.f11; exact ⟨_, fd, _, fn_z0 FD sc11, F.m11, FD.kp, bi11 FD⟩
    | 12, hd => cases hd; obtain ⟨fd, FD⟩ := F.f12; exact ⟨_, fd, _, fn_z0 FD sc12, F.m12, FD.kp, bi12 FD⟩
    | 13, hd => cases hd; obtain ⟨fd, FD⟩ := F.f13; exact ⟨_, fd, _, fn_z0 FD sc13, F.m13, FD.kp, bi13 FD⟩
    | 14, hd => cases hd; obtain ⟨fd, FD⟩ := F.f14; exact ⟨_, fd, _, fn_z0 FD sc14, F.m14, FD.kp, bi14 FD⟩
    | 15, hd => cases hd; obtain ⟨fd, FD⟩ := F.f15; exact ⟨_, fd, _, fn_z0 FD sc15, F.m15, FD.kp, bi15 FD⟩
    | 16, hd => cases hd; obtain ⟨fd, FD⟩ := F.f16; exact ⟨_, fd, _, fn_z0 FD sc16, F.m16, FD.kp, bi16 FD⟩
    | 17, hd => cases hd; obtain ⟨fd, FD⟩ := F.f17; exact ⟨_, fd, _, fn_z0 FD sc17, F.m17, FD.kp, bi17 FD⟩
    | 18, hd => cases hd; obtain ⟨fd, FD⟩ := F.f18; exact ⟨_, fd, _, fn_z0 FD sc18, F.m18, FD.kp, bi18 FD⟩
    | 19, hd => cases hd; obtain ⟨fd, FD⟩ := F.f19; exact ⟨_, fd, _, fn_z0 FD sc19, F.m19, FD.kp, bi19 FD⟩
    | 20, hd => cases hd; obtain ⟨fd, FD⟩ := F.f20; exact ⟨_, fd, _, fn_z0 FD sc20, F.m20, FD.kp, bi20 FD⟩
    | 21, hd => cases hd; obtain ⟨fd, FD⟩ := F.f21; exact ⟨_, fd, _, fn_z0 FD sc21, F.m21, FD.kp, bi21 FD⟩
    | 22, hd => cases hd; obtain ⟨fd, FD⟩ := F.f22; exact ⟨_, fd, _, fn_z0 FD sc22, F.m22, FD.kp, bi22 FD⟩
    | 23, hd => cases hd; obtain ⟨fd, FD⟩ := F.f23; exact ⟨_, fd, _, fn_z0 FD sc23, F.m23, FD.kp, bi23 FD⟩
    | 24, hd => cases hd; obtain ⟨fd, FD⟩ := F.f24; exact ⟨_, fd, _, fn_z0 FD sc24, F.m24, FD.kp, bi24 FD⟩
    | i + 25, hd => cases hd
  | n + 1, hh => fun i d hd => by
    have hC := hh n (Nat.lt_succ_self n)
    have hs : (gm n).sub = sub := sub_eq n
    rw [cal_eq hd]
    match i, hd with
    | 0, hd => cases hd; obtain ⟨fd, FD⟩ := F.f0; exact ⟨_, fd, _, fn_zc (k := 3 * n + 1 + 2) FD sc0 rfl rfl fun A outer s H E hr => dv0 F hC hs hr, F.m0, FD.kp, bi0 FD⟩
    | 1, hd => cases hd; obtain ⟨fd, FD⟩ := F.f1; exact ⟨_, fd, _, fn_zc (k := 3 * n + 1 + 2) FD sc1 rfl rfl fun A outer s H E hr => dv1 F hC hs hr, F.m1, FD.kp, bi1 FD⟩
    | 2, hd => cases hd; obtain ⟨fd, FD⟩ := F.f2; exact ⟨_, fd, _, fn_zc (k := 3 * n + 1 + 2) FD sc2 rfl rfl fun A outer s H E hr => dv2 F hC hs hr, F.m2, FD.kp, bi2 FD⟩
    | 3, hd => cases hd; obtain ⟨fd, FD⟩ := F.f3; exact ⟨_, fd, _, fn_zc (k := 3 * n + 1 + 2) FD sc3 rfl rfl fun A outer s H E hr => dv3 F hC hs hr, F.m3, FD.kp, bi3 FD⟩
    | 4, hd => cases hd; obtain ⟨fd, FD⟩ := F.f4; exact ⟨_, fd, _, fn_zc (k := 3 * n + 1 + 2) FD sc4 rfl rfl fun A outer s H E hr => dv4 F hC hs hr, F.m4, FD.kp, bi4 FD⟩
    | 5, hd => cases hd; obtain ⟨fd, FD⟩ := F.f5; exact ⟨_, fd, _, fn_zc (k := 3 * n + 1 + 2) FD sc5 rfl rfl fun A outer s H E hr => dv5 F hC hs hr, F.m5, FD.kp, bi5 FD⟩
    | 6, hd => cases hd; obtain ⟨fd, FD⟩ := F.f6; exact ⟨_, fd, _, fn_zc (k := 3 * n + 1 + 2) FD sc6 rfl rfl fun A outer s H E hr => dv6 F hC hs hr, F.m6, FD.kp, bi6 FD⟩
    | 7, hd => cases hd; obtain ⟨fd, FD⟩ := F.f7; exact ⟨_, fd, _, fn_zc (k := 3 * n + 1 + 2) FD sc7 rfl rfl fun A outer s H E hr => dv7 F hC hs hr, F.m7, FD.kp, bi7 FD⟩
    | 8, hd => cases hd; obtain ⟨fd, FD⟩ := F.f8; exact ⟨_, fd, _, fn_zc (k := 3 * n + 1 + 2) FD sc8 rfl rfl fun A outer s H E hr => dv8 F hC hs hr, F.m8, FD.kp, bi8 FD⟩
    | 9, hd => cases hd; obtain ⟨fd, FD⟩ := F.f9; exact ⟨_, fd, _, fn_zc (k := 3 * n + 1 + 2) FD sc9 rfl rfl fun A outer s H E hr => dv9 F hC hs hr, F.m9, FD.kp, bi9 FD⟩
    | 10, hd => cases hd; obtain ⟨fd, FD⟩ := F.f10; exact ⟨_, fd, _, fn_zc (k := 3 * n + 1 + 2) FD sc10 rfl rfl fun A outer s H E hr => dv10 F hC hs hr, F.m10, FD.kp, bi10 FD⟩
    | 11, hd => cases hd; obtain ⟨fd, FD⟩ := F.f11; exact ⟨_, fd, _, fn_zc (k := 3 * n + 1 + 2) FD sc11 rfl rfl fun A outer s H E hr => dv11 F hC hs hr, F.m11, FD.kp, bi11 FD⟩
    | 12, hd => cases hd; obtain ⟨fd, FD⟩ := F.f12; exact ⟨_, fd, _, fn_zc (k := 3 * n + 1 + 2) FD sc12 rfl rfl fun A outer s H E hr => dv12 F hC hs hr, F.m12, FD.kp, bi12 FD⟩
    | 13, hd => cases hd; obtain ⟨fd, FD⟩ := F.f13; exact ⟨_, fd, _, fn_zc (k := 3 * n + 1 + 2) FD sc13 rfl rfl fun A outer s H E hr => dv13 F hC hs hr, F.m13, FD.kp, bi13 FD⟩
    | 14, hd => cases hd; obtain ⟨fd, FD⟩ := F.f14; exact ⟨_, fd, _, fn_zc (k := 3 * n + 1 + 2) FD sc14 rfl rfl fun A outer s H E hr => dv14 F hC hs hr, F.m14, FD.kp, bi14 FD⟩
    | 15, hd => cases hd; obtain ⟨fd, FD⟩ := F.f15; exact ⟨_, fd, _, fn_zc (k := 3 * n + 1 + 2) FD sc15 rfl rfl fun A outer s H E hr => dv15 F hC hs hr, F.m15, FD.kp, bi15 FD⟩
    | 16, hd => cases hd; obtain ⟨fd, FD⟩ := F.f16; exact ⟨_, fd, _, fn_zc (k := 3 * n + 1 + 2) FD sc16 rfl rfl fun A outer s H E hr => dv16 F hC hs hr, F.m16, FD.kp, bi16 FD⟩
    | 17, hd => cases hd; obtain ⟨fd, FD⟩ := F.f17; exact ⟨_, fd, _, fn_zc (k := 3 * n + 1 + 2) FD sc17 rfl rfl fun A outer s H E hr => dv17 F hC hs hr, F.m17, FD.kp, bi17 FD⟩
    | 18, hd => cases hd; obtain ⟨fd, FD⟩ := F.f18; exact ⟨_, fd, _, fn_zc (k := 3 * n + 1 + 2) FD sc18 rfl rfl fun A outer s H E hr => dv18 F hC hs hr, F.m18, FD.kp, bi18 FD⟩
    | 19, hd => cases hd; obtain ⟨fd, FD⟩ := F.f19; exact ⟨_, fd, _, fn_zc (k := 3 * n + 1 + 2) FD sc19 rfl rfl fun A outer s H E hr => dv19 F hC hs hr, F.m19, FD.kp, bi19 FD⟩
    | 20, hd => cases hd; obtain ⟨fd, FD⟩ := F.f20; exact ⟨_, fd, _, fn_zc (k := 3 * n + 1 + 2) FD sc20 rfl rfl fun A outer s H E hr => dv20 F hC hs hr, F.m20, FD.kp, bi20 FD⟩
    | 21, hd => cases hd; obtain ⟨fd, FD⟩ := F.f21; exact ⟨_, fd, _, fn_zc (k := 3 * n + 1 + 2) FD sc21 rfl rfl fun A outer s H E hr => dv21 F hC hs hr fun W pn xe p1 p2 tk => act_void (act_eq n), F.m21, FD.kp, bi21 FD⟩
    | 22, hd => cases hd; obtain ⟨fd, FD⟩ := F.f22; exact ⟨_, fd, _, fn_zc (k := 3 * n + 1 + 2) FD sc22 rfl rfl fun A outer s H E hr => dv22 F hC hs hr, F.m22, FD.kp, bi22 FD⟩
    | 23, hd => cases hd; obtain ⟨fd, FD⟩ := F.f23; exact ⟨_, fd, _, fn_zc (k := 3 * n + 1 + 2) FD sc23 rfl rfl fun A outer s H E hr => dv23 F hC hs hr, F.m23, FD.kp, bi23 FD⟩
    | 24, hd => cases hd; obtain ⟨fd, FD⟩ := F.f24; exact ⟨_, fd, _, fn_zc (k := 3 * n + 1 + 2) FD sc24 rfl rfl fun A outer s H E hr => dv24 F hC hs (lz21 F n hC fun m h => hh m (Nat.lt_succ_of_lt h)) (cd24 F FD) hr, F.m24, FD.kp, bi24 FD⟩
    | i + 25, hd => cases hd
theorem all_c (F : Fs P w K mg base) (n : Nat) : AllC (Tt K) P w K mg base Tb (gm n) (3 * n + 1) := Nat.strongRecOn n fun n ih => all_s F n ih
def dl : Df := ⟨"law", 7, 1, b24⟩
theorem law_ok (F : Fs P w K mg base) (n : Nat) {fd : FuncData} (FD : FunD K "law" "law" (defArgs (top 33)) (defBody (top 33)) (defScope (top 33)) [] [] (He.ga K "law") fd) : FnOk P w K mg base (L2.CX P w) (3 * n + 1 + 2 + 1) (He.ga K "law") fd ["script"] (spZ (Tt K) K (xtZ mg) (callD (gm n) dl) 1) := fn_zc (d := dl) FD sc24 rfl rfl fun A outer s H E hr => dv24 F (all_c F n) (sub_eq n) (lz21 F n (all_c F n) fun m _ => all_c F m) (cd24 F FD) hr
end

end ZZ.L

namespace ZZ.L
open L2 PyProof.Rows PySem.Spec PySem

/-! the head -/
def d0 : He.DefD := ⟨("is_integer", none), "is_integer", "is_integer", defArgs (top 5), defBody (top 5), defScope (top 5), [], []⟩
def d1 : He.DefD := ⟨("is_within", none), "is_within", "is_within", defArgs (top 6), defBody (top 6), defScope (top 6), [], []⟩
def d2 : He.DefD := ⟨("is_tuple", none), "is_tuple", "is_tuple", defArgs (top 7), defBody (top 7), defScope (top 7), [], []⟩
def d3 : He.DefD := ⟨("check_number", none), "check_number", "check_number", defArgs (top 8), defBody (top 8), defScope (top 8), [], []⟩
def d4 : He.DefD := ⟨("up", none), "up", "up", defArgs (top 9), defBody (top 9), defScope (top 9), [], []⟩
def d5 : He.DefD := ⟨("is_grid", none), "is_grid", "is_grid", defArgs (top 13), defBody (top 13), defScope (top 13), [], []⟩
def d6 : He.DefD := ⟨("check_grid", none), "check_grid", "check_grid", defArgs (top 14), defBody (top 14), defScope (top 14), [], []⟩
def d7 : He.DefD := ⟨("sheets_for", none), "sheets_for", "sheets_for", defArgs (top 15), defBody (top 15), defScope (top 15), [], []⟩
def d8 : He.DefD := ⟨("begins", none), "begins", "begins", defArgs (top 16), defBody (top 16), defScope (top 16), [], []⟩
def d9 : He.DefD := ⟨("stamped", none), "stamped", "stamped", defArgs (top 17), defBody (top 17), defScope (top 17), [], []⟩
def d10 : He.DefD := ⟨("stacked", none), "stacked", "stacked", defArgs (top 18), defBody (top 18), defScope (top 18), [], []⟩
def d11 : He.DefD := ⟨("step_of", none), "step_of", "step_of", defArgs (top 19), defBody (top 19), defScope (top 19), [], []⟩
def d12 : He.DefD := ⟨("_law_hand", none), "_law_hand", "_law_hand", defArgs (top 21), defBody (top 21), defScope (top 21), [], []⟩
def d13 : He.DefD := ⟨("_law_draw", none), "_law_draw", "_law_draw", defArgs (top 22), defBody (top 22), defScope (top 22), [], []⟩
def d14 : He.DefD := ⟨("_law_any", none), "_law_any", "_law_any", defArgs (top 23), defBody (top 23), defScope (top 23), [], []⟩
def d15 : He.DefD := ⟨("_law_deep", none), "_law_deep", "_law_deep", defArgs (top 24), defBody (top 24), defScope (top 24), [], []⟩
def d16 : He.DefD := ⟨("_law_grid", none), "_law_grid", "_law_grid", defArgs (top 25), defBody (top 25), defScope (top 25), [], []⟩
def d17 : He.DefD := ⟨("_law_step", none), "_law_step", "_law_step", defArgs (top 26), defBody (top 26), defScope (top 26), [], []⟩
def d18 : He.DefD := ⟨("_law_stamped", none), "_law_stamped", "_law_stamped", defArgs (top 27), defBody (top 27), defScope (top 27), [], []⟩
def d19 : He.DefD := ⟨("_law_no_grid", none), "_law_no_grid", "_law_no_grid", defArgs (top 28), defBody (top 28), defScope (top 28), [], []⟩
def d20 : He.DefD := ⟨("_law_no_many", none), "_law_no_many", "_law_no_many", defArgs (top 29), defBody (top 29), defScope (top 29), [], []⟩
def d21 : He.DefD := ⟨("_law_said", none), "_law_said", "_law_said", defArgs (top 30), defBody (top 30), defScope (top 30), [], []⟩
def d22 : He.DefD := ⟨("_law_is_right", none), "_law_is_right", "_law_is_right", defArgs (top 31), defBody (top 31), defScope (top 31), [], []⟩
def d23 : He.DefD := ⟨("_law_is_stack_right", none), "_law_is_stack_right", "_law_is_stack_right", defArgs (top 32), defBody (top 32), defScope (top 32), [], []⟩
def d24 : He.DefD := ⟨("law", none), "law", "law", defArgs (top 33), defBody (top 33), defScope (top 33), [], []⟩
abbrev sI : Stmt := inner 1 0
def dI : He.DefD := ⟨("PrintError", some "__init__"), "__init__", "PrintError.__init__", defArgs sI, defBody sI, defScope sI, [], []⟩
def fn : List He.DefD := [d0, d1, d2, d3, d4, d5, d6, d7, d8, d9, d10, d11, d12, d13, d14, d15, d16, d17, d18, d19, d20, d21, d22, d23, d24, dI]
def fa : List He.Fa := [.glo "is_integer", .glo "is_within", .glo "is_tuple", .glo "check_number", .glo "up", .glo "is_grid", .glo "check_grid", .glo "sheets_for", .glo "begins", .glo "stamped", .glo "stacked", .glo "step_of", .glo "_law_hand", .glo "_law_draw", .glo "_law_any", .glo "_law_deep", .glo "_law_grid", .glo "_law_step", .glo "_law_stamped", .glo "_law_no_grid", .glo "_law_no_many", .glo "_law_said", .glo "_law_is_right", .glo "_law_is_stack_right", .glo "law", .glo "NoNumber", .glo "NoSheet", .glo "PrintError", .free "ValueError", .free "abs", .free "all", .free "bool", .free "int", .free "isinstance", .free "len", .free "list", .free "range", .free "sorted", .free "tuple", .int "MOST_SHEETS" 2000, .int "MOST_SIDE" 8]
def ex (K : Frag) : Bool := (errB "NoNumber" "PrintError" K && (errB "NoSheet" "PrintError" K && (errB "PrintError" "PrintError" K && (veB K && (ownB L1 K && (bltB "ValueError" (L2_.filter fun p => p.1.2 == ("ValueError" : Str)) K && (cdB "law" K && true)))))))
abbrev R : PySem.W.OpenRow := PySem.W.OpenLaw.row PySem.Challenge.rw_printyard_k55_whole_numbers_stamped_on_s
abbrev hk : PySem.W.Hook := hookX 4 fa fn ex
def ob (s : PySem.W.SharedT) : AlX := obsXG 4 fa fn ex (HandSHeadRun.getT s)
theorem ob_eq (s : PySem.W.SharedT) : ob s = hk.obs s.abs := obsXG_eq (HandSHeadRun.getT_eq s)
def loose : List Str := (["PrintError", "NoNumber", "NoSheet", "is_integer", "is_within", "is_tuple", "check_number", "up", "MOST_SIDE", "MOST_SHEETS", "is_grid", "check_grid", "sheets_for", "begins", "stamped", "stacked", "step_of", "_law_hand", "_law_draw", "_law_any", "_law_deep", "_law_grid", "_law_step", "_law_stamped", "_law_no_grid", "_law_no_many", "_law_said", "_law_is_right", "_law_is_stack_right"] : List Str)
theorem run (w : World) : HandSHeadRun.RunEq R (PySem.W.view R.prog [33]) hk ob 4000 loose w := by
  intro os
  kernel_rfl
theorem ok_init {P : Program} {w : World} {K : Frag} {mg : Str → Option Value} {base : Heap} {f : Addr} {fd : FuncData} (F : FunD K "__init__" "PrintError.__init__" (defArgs sI) (defBody sI) (defScope sI) [] [] f fd) (hm : mg "ValueError" = none) (hv : PySem.W.findCls K (.type "ValueError") (.type "type") "__init__" = some (.val (.builtin "ValueError.__init__"))) :
    FnOk P w K mg base (L2.CX P w) 1 f fd ["self"] (spPI K) := by
  refine F.ok (N := ["self"]) ⟨rfl, rfl, rfl, by decide +kernel, rfl, by decide +kernel, by decide +kernel⟩ (fun vs H Q E h => ?_) fun cdv A outer s H vs Q E hr h => ⟨_, pss_one (ps_expr (pe_veinit rfl hm hv (pa_cons (pv 0) pa_nil))), ?_⟩
  · obtain ⟨a, C, rfl, _⟩ := h; rfl
  · obtain ⟨a, C, rfl, T, e, q⟩ := h
    exact ⟨_, rfl, a, C, [], rfl, Nat.zero_le _, T, e, q⟩
theorem facts {P : Program} {w : World} {K : Frag} {h : Heap} {mg : Str → Option Value} (X : K.In h) (Gg : h.Ns mainGlobals mg) (c : SaysX fa fn ex K) (base : Heap) (u24 : LamX.TabB base mg (cdA K "law") (tbA K "law")) : Fs P w K mg base := by
  have cx := c.x
  unfold ex at cx
  simp only [Bool.and_eq_true] at cx
  obtain ⟨e_NoNumber, e_NoSheet, e_PrintError, ev, eo, eb_ValueError, ec24, _⟩ := cx
  have c_NoNumber := He.glo_ok X Gg (c.d.fact 25 (f := .glo "NoNumber") rfl)
  have c_NoSheet := He.glo_ok X Gg (c.d.fact 26 (f := .glo "NoSheet") rfl)
  have c_PrintError := He.glo_ok X Gg (c.d.fact 27 (f := .glo "PrintError") rfl)
  have r_NoNumber := errB_ok e_NoNumber
  have r_NoSheet := errB_ok e_NoSheet
  have r_PrintError := errB_ok e_PrintError
  obtain ⟨fdI, FI⟩ := c.d.def_ 25 (d := dI) rfl
  have bI : Binds K fdI ["self"] [] := FI.bindsN fun _ _ _ _ _ _ us hl => match us, hl with | [_], _ => rfl
  have okI := ok_init (P := P) (w := w) (mg := mg) (base := base) FI (He.free_ok X Gg (c.d.fact 28 (f := .free "ValueError") rfl)) (veB_ok ev)
  have hg1 : ∀ p ∈ L1, mg p.1.1 = some (.ref (He.ga K p.1.1)) := fun p hp => by
    simp only [L1, List.mem_cons, List.not_mem_nil, or_false] at hp
    rcases hp with rfl | rfl | rfl | rfl | rfl | rfl | rfl | rfl | rfl <;> first | exact c_NoNumber | exact c_NoSheet | exact c_PrintError
  have hc1 : ∀ p ∈ L1, ExcC K (He.ga K p.1.1) := fun p hp => by
    simp only [L1, List.mem_cons, List.not_mem_nil, or_false] at hp
    rcases hp with rfl | rfl | rfl | rfl | rfl | rfl | rfl | rfl | rfl <;> first | exact r_NoNumber.c | exact r_NoSheet.c | exact r_PrintError.c
  have hg_ValueError : ∀ p ∈ L2_.filter (fun p => p.1.2 == ("ValueError" : Str)), mg p.1.1 = some (.ref (He.ga K p.1.1)) := fun p hp => by
    have hp := (List.mem_filter.mp hp).1
    simp only [L2_, List.mem_cons, List.not_mem_nil, or_false] at hp
    rcases hp with rfl | rfl | rfl <;> first | exact c_NoNumber | exact c_NoSheet | exact c_PrintError
  have hc_ValueError : ∀ p ∈ L2_.filter (fun p => p.1.2 == ("ValueError" : Str)), ExcC K (He.ga K p.1.1) := fun p hp => by
    have hp := (List.mem_filter.mp hp).1
    simp only [L2_, List.mem_cons, List.not_mem_nil, or_false] at hp
    rcases hp with rfl | rfl | rfl <;> first | exact r_NoNumber.c | exact r_NoSheet.c | exact r_PrintError.c
  exact {
    b_ValueError := He.free_ok X Gg (c.d.fact 28 (f := .free "ValueError") rfl)
    b_abs := He.free_ok X Gg (c.d.fact 29 (f := .free "abs") rfl)
    b_all := He.free_ok X Gg (c.d.fact 30 (f := .free "all") rfl)
    b_bool := He.free_ok X Gg (c.d.fact 31 (f := .free "bool") rfl)
    b_int := He.free_ok X Gg (c.d.fact 32 (f := .free "int") rfl)
    b_isinstance := He.free_ok X Gg (c.d.fact 33 (f := .free "isinstance") rfl)
    b_len := He.free_ok X Gg (c.d.fact 34 (f := .free "len") rfl)
    b_list := He.free_ok X Gg (c.d.fact 35 (f := .free "list") rfl)
    b_range := He.free_ok X Gg (c.d.fact 36 (f := .free "range") rfl)
    b_sorted := He.free_ok X Gg (c.d.fact 37 (f := .free "sorted") rfl)
    b_tuple := He.free_ok X Gg (c.d.fact 38 (f := .free "tuple") rfl)
    g_MOST_SHEETS := He.int_ok X Gg (c.d.fact 39 (f := .int "MOST_SHEETS" 2000) rfl)
    g_MOST_SIDE := He.int_ok X Gg (c.d.fact 40 (f := .int "MOST_SIDE" 8) rfl)
    c_NoNumber := c_NoNumber
    z_NoNumber := ⟨c_NoNumber, r_NoNumber.T, _, fdI, r_NoNumber.i, r_NoNumber.ti, okI, bI⟩
    x_NoNumber := subX_ok eo hg1 (by decide)
    i_NoNumber := subI_ok eo hg1 (by decide) hc1
    c_NoSheet := c_NoSheet
    z_NoSheet := ⟨c_NoSheet, r_NoSheet.T, _, fdI, r_NoSheet.i, r_NoSheet.ti, okI, bI⟩
    x_NoSheet := subX_ok eo hg1 (by decide)
    i_NoSheet := subI_ok eo hg1 (by decide) hc1
    c_PrintError := c_PrintError
    z_PrintError := ⟨c_PrintError, r_PrintError.T, _, fdI, r_PrintError.i, r_PrintError.ti, okI, bI⟩
    x_PrintError := subX_ok eo hg1 (by decide)
    i_PrintError := subI_ok eo hg1 (by decide) hc1
    i_ValueError := subIb_ok eb_ValueError hg_ValueError (by decide) hc_ValueError
    m0 := He.glo_ok X Gg (c.d.fact 0 (f := .glo "is_integer") rfl)
    f0 := c.d.def_ 0 (d := d0) rfl
    m1 := He.glo_ok X Gg (c.d.fact 1 (f := .glo "is_within") rfl)
    f1 := c.d.def_ 1 (d := d1) rfl
    m2 := He.glo_ok X Gg (c.d.fact 2 (f := .glo "is_tuple") rfl)
    f2 := c.d.def_ 2 (d := d2) rfl
    m3 := He.glo_ok X Gg (c.d.fact 3 (f := .glo "check_number") rfl)
    f3 := c.d.def_ 3 (d := d3) rfl
    m4 := He.glo_ok X Gg (c.d.fact 4 (f := .glo "up") rfl)
    f4 := c.d.def_ 4 (d := d4) rfl
    m5 := He.glo_ok X Gg (c.d.fact 5 (f := .glo "is_grid") rfl)
    f5 := c.d.def_ 5 (d := d5) rfl
    m6 := He.glo_ok X Gg (c.d.fact 6 (f := .glo "check_grid") rfl)
    f6 := c.d.def_ 6 (d := d6) rfl
    m7 := He.glo_ok X Gg (c.d.fact 7 (f := .glo "sheets_for") rfl)
    f7 := c.d.def_ 7 (d := d7) rfl
    m8 := He.glo_ok X Gg (c.d.fact 8 (f := .glo "begins") rfl)
    f8 := c.d.def_ 8 (d := d8) rfl
    m9 := He.glo_ok X Gg (c.d.fact 9 (f := .glo "stamped") rfl)
    f9 := c.d.def_ 9 (d := d9) rfl
    m10 := He.glo_ok X Gg (c.d.fact 10 (f := .glo "stacked") rfl)
    f10 := c.d.def_ 10 (d := d10) rfl
    m11 := He.glo_ok X Gg (c.d.fact 11 (f := .glo "step_of") rfl)
    f11 := c.d.def_ 11 (d := d11) rfl
    m12 := He.glo_ok X Gg (c.d.fact 12 (f := .glo "_law_hand") rfl)
    f12 := c.d.def_ 12 (d := d12) rfl
    m13 := He.glo_ok X Gg (c.d.fact 13 (f := .glo "_law_draw") rfl)
    f13 := c.d.def_ 13 (d := d13) rfl
    m14 := He.glo_ok X Gg (c.d.fact 14 (f := .glo "_law_any") rfl)
    f14 := c.d.def_ 14 (d := d14) rfl
    m15 := He.glo_ok X Gg (c.d.fact 15 (f := .glo "_law_deep") rfl)
    f15 := c.d.def_ 15 (d := d15) rfl
    m16 := He.glo_ok X Gg (c.d.fact 16 (f := .glo "_law_grid") rfl)
    f16 := c.d.def_ 16 (d := d16) rfl
    m17 := He.glo_ok X Gg (c.d.fact 17 (f := .glo "_law_step") rfl)
    f17 := c.d.def_ 17 (d := d17) rfl
    m18 := He.glo_ok X Gg (c.d.fact 18 (f := .glo "_law_stamped") rfl)
    f18 := c.d.def_ 18 (d := d18) rfl
    m19 := He.glo_ok X Gg (c.d.fact 19 (f := .glo "_law_no_grid") rfl)
    f19 := c.d.def_ 19 (d := d19) rfl
    m20 := He.glo_ok X Gg (c.d.fact 20 (f := .glo "_law_no_many") rfl)
    f20 := c.d.def_ 20 (d := d20) rfl
    m21 := He.glo_ok X Gg (c.d.fact 21 (f := .glo "_law_said") rfl)
    f21 := c.d.def_ 21 (d := d21) rfl
    m22 := He.glo_ok X Gg (c.d.fact 22 (f := .glo "_law_is_right") rfl)
    f22 := c.d.def_ 22 (d := d22) rfl
    m23 := He.glo_ok X Gg (c.d.fact 23 (f := .glo "_law_is_stack_right") rfl)
    f23 := c.d.def_ 23 (d := d23) rfl
    m24 := He.glo_ok X Gg (c.d.fact 24 (f := .glo "law") rfl)
    f24 := c.d.def_ 24 (d := d24) rfl
    t24 := ec24
    u24 := u24
  }
end ZZ.L
namespace ZZ.L
open PySem
theorem c_is_integer {m : Nat} (hm : 1 ≤ m) {x : D} (hx : x.pl = true) (hd : Option (List D)) : (gm m).cal 0 [x] hd = .ok (.f (.bl (match x with | .int _ => true | _ => false))) hd := by
  obtain ⟨n, rfl⟩ : ∃ n, m = n + 1 := ⟨m - 1, by omega⟩
  rw [cal_eq (d := ⟨"is_integer", 1, 1, b0⟩) rfl]
  cases x <;> first | (cases hx; done) | simp (disch := first | assumption | omega | (simp; done) | rfl) [callD, outOf, evS.eq_1, evS.eq_2, evS.eq_3, evS.eq_4, evS.eq_5, evS.eq_6, evS.eq_7, evS.eq_10, evS.eq_11, evS.eq_12, evS.eq_13, evS.eq_14, evS.eq_15, evS.eq_16, evS.eq_17, evS.eq_18, evS.eq_19, evSs, evE.eq_1, evE.eq_2, evE.eq_3, evE.eq_4, evE.eq_5, evE.eq_6, evE.eq_7, evE.eq_8, evE.eq_9, evE.eq_10, evE.eq_11, evE.eq_12, evE.eq_13, evE.eq_14, evE.eq_15, evE.eq_16, evE.eq_17, evE.eq_18, evE.eq_19, evE.eq_20, evE.eq_21, evE.eq_22, evE.eq_23, evE.eq_24, evE.eq_25, evE.eq_29, evE.eq_30, evE.eq_31, evEs, evPs, evRs, putAll, truD, Out.res, retZ, pend, partE, ZZ.S.get, ZZ.S.put, Pd.get, getAll, idxD, sliD, binD, cmpD, fnD, fxD, mtD, isiD, line, iterE, iterD, frRun, asg.eq_1, asg.eq_2, asgs.eq_1, asgs.eq_2, ZZ.S.ownL, setD, appD, extD, augD, seqOf, unwipe, wipeS, Slot.keepF, D.bls, tyMt, b0]
theorem c_is_within {m : Nat} (hm : 2 ≤ m) {x : D} (hx : x.pl = true) (l h : Int) (hd : Option (List D)) : (gm m).cal 1 [x, .int l, .int h] hd = .ok (.f (.bl (x.within l h))) hd := by
  obtain ⟨n, rfl⟩ : ∃ n, m = n + 1 := ⟨m - 1, by omega⟩
  have h0 := c_is_integer (m := n) (by omega) hx
  rw [cal_eq (d := ⟨"is_within", 3, 3, b1⟩) rfl]
  cases x <;> first | (cases hx; done) | skip
  case int i => by_cases h1 : l ≤ i <;> simp (disch := first | assumption | omega | (simp; done) | rfl) [callD, outOf, evS.eq_1, evS.eq_2, evS.eq_3, evS.eq_4, evS.eq_5, evS.eq_6, evS.eq_7, evS.eq_10, evS.eq_11, evS.eq_12, evS.eq_13, evS.eq_14, evS.eq_15, evS.eq_16, evS.eq_17, evS.eq_18, evS.eq_19, evSs, evE.eq_1, evE.eq_2, evE.eq_3, evE.eq_4, evE.eq_5, evE.eq_6, evE.eq_7, evE.eq_8, evE.eq_9, evE.eq_10, evE.eq_11, evE.eq_12, evE.eq_13, evE.eq_14, evE.eq_15, evE.eq_16, evE.eq_17, evE.eq_18, evE.eq_19, evE.eq_20, evE.eq_21, evE.eq_22, evE.eq_23, evE.eq_24, evE.eq_25, evE.eq_29, evE.eq_30, evE.eq_31, evEs, evPs, evRs, putAll, truD, Out.res, retZ, pend, partE, ZZ.S.get, ZZ.S.put, Pd.get, getAll, idxD, sliD, binD, cmpD, fnD, fxD, mtD, isiD, line, iterE, iterD, frRun, asg.eq_1, asg.eq_2, asgs.eq_1, asgs.eq_2, ZZ.S.ownL, setD, appD, extD, augD, seqOf, unwipe, wipeS, Slot.keepF, D.bls, tyMt, b1, h0, h1]
  all_goals simp (disch := first | assumption | omega | (simp; done) | rfl) [callD, outOf, evS.eq_1, evS.eq_2, evS.eq_3, evS.eq_4, evS.eq_5, evS.eq_6, evS.eq_7, evS.eq_10, evS.eq_11, evS.eq_12, evS.eq_13, evS.eq_14, evS.eq_15, evS.eq_16, evS.eq_17, evS.eq_18, evS.eq_19, evSs, evE.eq_1, evE.eq_2, evE.eq_3, evE.eq_4, evE.eq_5, evE.eq_6, evE.eq_7, evE.eq_8, evE.eq_9, evE.eq_10, evE.eq_11, evE.eq_12, evE.eq_13, evE.eq_14, evE.eq_15, evE.eq_16, evE.eq_17, evE.eq_18, evE.eq_19, evE.eq_20, evE.eq_21, evE.eq_22, evE.eq_23, evE.eq_24, evE.eq_25, evE.eq_29, evE.eq_30, evE.eq_31, evEs, evPs, evRs, putAll, truD, Out.res, retZ, pend, partE, ZZ.S.get, ZZ.S.put, Pd.get, getAll, idxD, sliD, binD, cmpD, fnD, fxD, mtD, isiD, line, iterE, iterD, frRun, asg.eq_1, asg.eq_2, asgs.eq_1, asgs.eq_2, ZZ.S.ownL, setD, appD, extD, augD, seqOf, unwipe, wipeS, Slot.keepF, D.bls, tyMt, b1, h0, D.within]
theorem c_is_tuple {m : Nat} (hm : 1 ≤ m) {x : D} (hx : x.pl = true) (k : Int) (hd : Option (List D)) : (gm m).cal 2 [x, .int k] hd = .ok (.f (.bl (x.isT k))) hd := by
  obtain ⟨n, rfl⟩ : ∃ n, m = n + 1 := ⟨m - 1, by omega⟩
  rw [cal_eq (d := ⟨"is_tuple", 2, 2, b2⟩) rfl]
  cases x <;> first | (cases hx; done) | simp (disch := first | assumption | omega | (simp; done) | rfl) [callD, outOf, evS.eq_1, evS.eq_2, evS.eq_3, evS.eq_4, evS.eq_5, evS.eq_6, evS.eq_7, evS.eq_10, evS.eq_11, evS.eq_12, evS.eq_13, evS.eq_14, evS.eq_15, evS.eq_16, evS.eq_17, evS.eq_18, evS.eq_19, evSs, evE.eq_1, evE.eq_2, evE.eq_3, evE.eq_4, evE.eq_5, evE.eq_6, evE.eq_7, evE.eq_8, evE.eq_9, evE.eq_10, evE.eq_11, evE.eq_12, evE.eq_13, evE.eq_14, evE.eq_15, evE.eq_16, evE.eq_17, evE.eq_18, evE.eq_19, evE.eq_20, evE.eq_21, evE.eq_22, evE.eq_23, evE.eq_24, evE.eq_25, evE.eq_29, evE.eq_30, evE.eq_31, evEs, evPs, evRs, putAll, truD, Out.res, retZ, pend, partE, ZZ.S.get, ZZ.S.put, Pd.get, getAll, idxD, sliD, binD, cmpD, fnD, fxD, mtD, isiD, line, iterE, iterD, frRun, asg.eq_1, asg.eq_2, asgs.eq_1, asgs.eq_2, ZZ.S.ownL, setD, appD, extD, augD, seqOf, unwipe, wipeS, Slot.keepF, D.bls, tyMt, b2, D.isT]
theorem draw_ok (G : Gm) {hd : Option (List D)} (H : HOk hd) {many : Int} (hm : 0 < many) (hm2 : many < 1073741824) :
    ∃ r hd', callD G Tb[13] [.hand, .int many] hd = .ok (.f (.int r)) hd' ∧ (0 ≤ r ∧ r < many) ∧ HOk hd' := by
  obtain ⟨cs, i, b, s, c, rfl, h1, h2, h3⟩ := H.ex
  have n1 : ¬ many = 0 := by omega
  have n2 : many.natAbs < 1073741824 := by omega
  generalize e : callD G Tb[13] [.hand, .int many] (hnd cs i b s c) = o
  by_cases hb : b = 0
  · subst hb
    by_cases hi : i < (cs.length : Int)
    · obtain ⟨x, hx, ex⟩ := atI_int h2 hi
      have x0 := h1 x hx
      by_cases hx18 : (10 : Int) ^ 18 ≤ x
      · have x1 : 0 < x := by omega
        have x2 : ¬ x = 0 := by omega
        have x3 : (1000000000000000000 : Int) ≤ x := hx18
        simp (decide := true) [callD, Tb, b13, hnd, evS, evSs, evE, evEs, evPs, pend, Pd.get, S.get, getAll, outOf, idxD, cmpD, fxD, hi, ex, n1, n2, truD, binD, fnD, setD, retZ, S.put, x3, x1, x2] at e
        subst e
        exact ⟨_, _, rfl, fmod_bd hm, .of h1 (by omega) (Int.fdiv_nonneg x0 (by omega))⟩
      · have x3 : ¬ (1000000000000000000 : Int) ≤ x := hx18
        simp (decide := true) [callD, Tb, b13, hnd, evS, evSs, evE, evEs, evPs, pend, Pd.get, S.get, getAll, outOf, idxD, cmpD, fxD, hi, ex, n1, n2, truD, binD, fnD, setD, retZ, S.put, x3] at e
        subst e
        exact ⟨_, _, rfl, fmod_bd hm, .of h1 (by omega) (by omega)⟩
    · simp (decide := true) [callD, Tb, b13, hnd, evS, evSs, evE, evEs, evPs, pend, Pd.get, S.get, getAll, outOf, idxD, cmpD, fxD, hi, n1, n2, truD, binD, fnD, setD, retZ, S.put] at e
      subst e
      exact ⟨_, _, rfl, fmod_bd hm, .of h1 h2 (by omega)⟩
  · have b1 : 0 < b := by omega
    simp (decide := true) [callD, Tb, b13, hnd, evS, evSs, evE, evEs, evPs, pend, Pd.get, S.get, getAll, outOf, idxD, cmpD, fxD, n1, n2, hb, b1, truD, binD, fnD, setD, retZ, S.put] at e
    subst e
    exact ⟨_, _, rfl, fmod_bd hm, .of h1 h2 (Int.fdiv_nonneg (by omega) (by omega))⟩
theorem c_draw {m : Nat} (hm : 1 ≤ m) (h : Hn) {many : Int} (hm1 : 0 < many) (hm2 : many < 1073741824) :
    ∃ (r : Int) (h' : Hn), (gm m).cal 13 [.hand, .int many] h.d = .ok (.f (.int r)) h'.d ∧ 0 ≤ r ∧ r < many := by
  obtain ⟨n, rfl⟩ : ∃ n, m = n + 1 := ⟨m - 1, by omega⟩
  rw [cal_eq (d := Tb[13]) rfl]
  obtain ⟨r, hd', e, hr, H⟩ := draw_ok (gm n) h.ok hm1 hm2
  obtain ⟨h', rfl⟩ := H.hn
  exact ⟨r, h', e, hr⟩
theorem c_any {m : Nat} (hm : 2 ≤ m) (h : Hn) {l : List D} (h1 : 0 < l.length) (h2 : l.length < 1000000) :
    ∃ (x : D) (h' : Hn), (gm m).cal 14 [.hand, .lst l] h.d = .ok (.f x) h'.d ∧ x ∈ l := by
  obtain ⟨n, rfl⟩ : ∃ n, m = n + 1 := ⟨m - 1, by omega⟩
  obtain ⟨r, h', e, r0, r1⟩ := c_draw (m := n) (by omega) h (many := (l.length : Int)) (by omega) (by omega)
  obtain ⟨x, hx, ex⟩ : ∃ x, x ∈ l ∧ L2.atI l r = some x := by
    have h2 : r.toNat < l.length := by omega
    exact ⟨l[r.toNat], List.getElem_mem h2, atI_ge r0 (List.getElem?_eq_getElem h2)⟩
  refine ⟨x, h', ?_, hx⟩
  rw [cal_eq (d := ⟨"_law_any", 2, 2, b14⟩) rfl]
  simp (disch := first | assumption | omega | (simp; done) | rfl) [callD, outOf, evS.eq_1, evS.eq_2, evS.eq_3, evS.eq_4, evS.eq_5, evS.eq_6, evS.eq_7, evS.eq_10, evS.eq_11, evS.eq_12, evS.eq_13, evS.eq_14, evS.eq_15, evS.eq_16, evS.eq_17, evS.eq_18, evS.eq_19, evSs, evE.eq_1, evE.eq_2, evE.eq_3, evE.eq_4, evE.eq_5, evE.eq_6, evE.eq_7, evE.eq_8, evE.eq_9, evE.eq_10, evE.eq_11, evE.eq_12, evE.eq_13, evE.eq_14, evE.eq_15, evE.eq_16, evE.eq_17, evE.eq_18, evE.eq_19, evE.eq_20, evE.eq_21, evE.eq_22, evE.eq_23, evE.eq_24, evE.eq_25, evE.eq_29, evE.eq_30, evE.eq_31, evEs, evPs, evRs, putAll, truD, Out.res, retZ, pend, partE, ZZ.S.get, ZZ.S.put, Pd.get, getAll, idxD, sliD, binD, cmpD, fnD, fxD, mtD, isiD, line, iterE, iterD, frRun, asg.eq_1, asg.eq_2, asgs.eq_1, asgs.eq_2, ZZ.S.ownL, setD, appD, extD, augD, seqOf, unwipe, wipeS, Slot.keepF, D.bls, tyMt, b14, e, ex]
/-- the hand at first -/
theorem c_hand {m : Nat} (hm : 1 ≤ m) {ns : List Int} (hl : ns.length ≤ 63) : ∃ h : Hn, (gm m).cal 12 [.scr ns] none = .ok (.o (.lst (h.d.getD []))) none := by
  obtain ⟨n, rfl⟩ : ∃ n, m = n + 1 := ⟨m - 1, by omega⟩
  have hc : cutD (ns.map D.int) none (some 63) = ns.map D.int := by
    rw [cut_to (by decide)]
    exact List.take_of_length_le (by rw [List.length_map]; exact hl)
  have lc := lc_one0 (G := gm n) (j := 2) (k := .val) (its := [.sli (.var 0) (.con .non) (.con (.int 63))]) (elt := .fn .abs [.fn .int [.var 2]]) (st := ⟨[.fz (.scr ns), .un, .un], none⟩) (st1 := ⟨[.fz (.scr ns), .un, .un], none⟩) D.int (fun i => .int (if i < 0 then -i else i)) ns (by simp (disch := first | assumption | omega | (simp; done) | rfl) [callD, outOf, evS.eq_1, evS.eq_2, evS.eq_3, evS.eq_4, evS.eq_5, evS.eq_6, evS.eq_7, evS.eq_10, evS.eq_11, evS.eq_12, evS.eq_13, evS.eq_14, evS.eq_15, evS.eq_16, evS.eq_17, evS.eq_18, evS.eq_19, evSs, evE.eq_1, evE.eq_2, evE.eq_3, evE.eq_4, evE.eq_5, evE.eq_6, evE.eq_7, evE.eq_8, evE.eq_9, evE.eq_10, evE.eq_11, evE.eq_12, evE.eq_13, evE.eq_14, evE.eq_15, evE.eq_16, evE.eq_17, evE.eq_18, evE.eq_19, evE.eq_20, evE.eq_21, evE.eq_22, evE.eq_23, evE.eq_24, evE.eq_25, evE.eq_29, evE.eq_30, evE.eq_31, evEs, evPs, evRs, putAll, truD, Out.res, retZ, pend, partE, ZZ.S.get, ZZ.S.put, Pd.get, getAll, idxD, sliD, binD, cmpD, fnD, fxD, mtD, isiD, line, iterE, iterD, frRun, asg.eq_1, asg.eq_2, asgs.eq_1, asgs.eq_2, ZZ.S.ownL, setD, appD, extD, augD, seqOf, unwipe, wipeS, Slot.keepF, D.bls, tyMt, hc]) (by omega) fun a _ => by simp (disch := first | assumption | omega | (simp; done) | rfl) [callD, outOf, evS.eq_1, evS.eq_2, evS.eq_3, evS.eq_4, evS.eq_5, evS.eq_6, evS.eq_7, evS.eq_10, evS.eq_11, evS.eq_12, evS.eq_13, evS.eq_14, evS.eq_15, evS.eq_16, evS.eq_17, evS.eq_18, evS.eq_19, evSs, evE.eq_1, evE.eq_2, evE.eq_3, evE.eq_4, evE.eq_5, evE.eq_6, evE.eq_7, evE.eq_8, evE.eq_9, evE.eq_10, evE.eq_11, evE.eq_12, evE.eq_13, evE.eq_14, evE.eq_15, evE.eq_16, evE.eq_17, evE.eq_18, evE.eq_19, evE.eq_20, evE.eq_21, evE.eq_22, evE.eq_23, evE.eq_24, evE.eq_25, evE.eq_29, evE.eq_30, evE.eq_31, evEs, evPs, evRs, putAll, truD, Out.res, retZ, pend, partE, ZZ.S.get, ZZ.S.put, Pd.get, getAll, idxD, sliD, binD, cmpD, fnD, fxD, mtD, isiD, line, iterE, iterD, frRun, asg.eq_1, asg.eq_2, asgs.eq_1, asgs.eq_2, ZZ.S.ownL, setD, appD, extD, augD, seqOf, unwipe, wipeS, Slot.keepF, D.bls, tyMt]
  have key : ∃ K : Int, (gm (n + 1)).cal 12 [.scr ns] none = .ok (.o (.lst [.lst (ns.map fun i => .int (if i < 0 then -i else i)), .int 0, .int 0, .int K, .int 0])) none := by
    apply Exists.intro
    rw [cal_eq (d := ⟨"_law_hand", 3, 1, b12⟩) rfl]
    refine callE rfl ?_
    show Sd _ (evSs _ b12 _)
    unfold b12
    refine sNx (by (simp (disch := first | assumption | omega | (simp; done) | rfl) [callD, outOf, evS.eq_1, evS.eq_2, evS.eq_3, evS.eq_4, evS.eq_5, evS.eq_6, evS.eq_7, evS.eq_10, evS.eq_11, evS.eq_12, evS.eq_13, evS.eq_14, evS.eq_15, evS.eq_16, evS.eq_17, evS.eq_18, evS.eq_19, evSs, evE.eq_1, evE.eq_2, evE.eq_3, evE.eq_4, evE.eq_5, evE.eq_6, evE.eq_7, evE.eq_8, evE.eq_9, evE.eq_10, evE.eq_11, evE.eq_12, evE.eq_13, evE.eq_14, evE.eq_15, evE.eq_16, evE.eq_17, evE.eq_18, evE.eq_19, evE.eq_20, evE.eq_21, evE.eq_22, evE.eq_23, evE.eq_24, evE.eq_25, evE.eq_29, evE.eq_30, evE.eq_31, evEs, evPs, evRs, putAll, truD, Out.res, retZ, pend, partE, ZZ.S.get, ZZ.S.put, Pd.get, getAll, idxD, sliD, binD, cmpD, fnD, fxD, mtD, isiD, line, iterE, iterD, frRun, asg.eq_1, asg.eq_2, asgs.eq_1, asgs.eq_2, ZZ.S.ownL, setD, appD, extD, augD, seqOf, unwipe, wipeS, Slot.keepF, D.bls, tyMt, lc] <;> first | rfl | exact ⟨rfl, rfl⟩ | skip)) ?_
    refine sRet (by (simp (disch := first | assumption | omega | (simp; done) | rfl) [callD, outOf, evS.eq_1, evS.eq_2, evS.eq_3, evS.eq_4, evS.eq_5, evS.eq_6, evS.eq_7, evS.eq_10, evS.eq_11, evS.eq_12, evS.eq_13, evS.eq_14, evS.eq_15, evS.eq_16, evS.eq_17, evS.eq_18, evS.eq_19, evSs, evE.eq_1, evE.eq_2, evE.eq_3, evE.eq_4, evE.eq_5, evE.eq_6, evE.eq_7, evE.eq_8, evE.eq_9, evE.eq_10, evE.eq_11, evE.eq_12, evE.eq_13, evE.eq_14, evE.eq_15, evE.eq_16, evE.eq_17, evE.eq_18, evE.eq_19, evE.eq_20, evE.eq_21, evE.eq_22, evE.eq_23, evE.eq_24, evE.eq_25, evE.eq_29, evE.eq_30, evE.eq_31, evEs, evPs, evRs, putAll, truD, Out.res, retZ, pend, partE, ZZ.S.get, ZZ.S.put, Pd.get, getAll, idxD, sliD, binD, cmpD, fnD, fxD, mtD, isiD, line, iterE, iterD, frRun, asg.eq_1, asg.eq_2, asgs.eq_1, asgs.eq_2, ZZ.S.ownL, setD, appD, extD, augD, seqOf, unwipe, wipeS, Slot.keepF, D.bls, tyMt, small64] <;> first | rfl | exact ⟨rfl, rfl⟩ | skip)) ?_
    rfl
  obtain ⟨K, e⟩ := key
  refine ⟨⟨ns.map fun i => if i < 0 then -i else i, 0, 0, K, 0, ?_, Int.le_refl 0, Int.le_refl 0⟩, ?_⟩
  · intro x hx
    obtain ⟨i, _, rfl⟩ := List.mem_map.mp hx
    split <;> omega
  · rw [e]
    simp [Hn.d, hnd, List.map_map, Function.comp_def]
theorem c_hand2 {m : Nat} (hm : 1 ≤ m) {ns : List Int} (hl : ns.length ≤ 63) : ∃ (h : Hn) (l : List D), (gm m).cal 12 [.scr ns] none = .ok (.o (.lst l)) none ∧ some l = h.d := by
  obtain ⟨h, e⟩ := c_hand hm hl
  exact ⟨h, _, e, rfl⟩
end ZZ.L

namespace ZZ.L
open PySem
theorem c_num {m : Nat} (hm : 3 ≤ m) {x : D} (hx : x.pl = true) (l h : Int) (k : x.within l h = true) (hd : Option (List D)) : (gm m).cal 3 [x, .int l, .int h] hd = .ok (.f .non) hd := by
  (obtain ⟨n, rfl⟩ : ∃ n, m = n + 1 := ⟨m - 1, by omega⟩); rw [cal_eq (d := ⟨"check_number", 3, 3, b3⟩) rfl]; refine callE rfl ?_; show Sd _ (evSs _ b3 _); unfold b3
  have h1 := c_is_within (m := n) (by omega) hx l h hd
  rw [k] at h1
  refine sIf (b := false) (by (simp (disch := first | assumption | omega | (simp; done) | rfl) [callD, outOf, evS.eq_1, evS.eq_2, evS.eq_3, evS.eq_4, evS.eq_5, evS.eq_6, evS.eq_7, evS.eq_10, evS.eq_11, evS.eq_12, evS.eq_13, evS.eq_14, evS.eq_15, evS.eq_16, evS.eq_17, evS.eq_18, evS.eq_19, evSs, evE.eq_1, evE.eq_2, evE.eq_3, evE.eq_4, evE.eq_5, evE.eq_6, evE.eq_7, evE.eq_8, evE.eq_9, evE.eq_10, evE.eq_11, evE.eq_12, evE.eq_13, evE.eq_14, evE.eq_15, evE.eq_16, evE.eq_17, evE.eq_18, evE.eq_19, evE.eq_20, evE.eq_21, evE.eq_22, evE.eq_23, evE.eq_24, evE.eq_25, evE.eq_29, evE.eq_30, evE.eq_31, evEs, evPs, evRs, putAll, truD, Out.res, retZ, pend, partE, ZZ.S.get, ZZ.S.put, Pd.get, getAll, idxD, sliD, binD, cmpD, fnD, fxD, mtD, isiD, line, iterE, iterD, frRun, asg.eq_1, asg.eq_2, asgs.eq_1, asgs.eq_2, ZZ.S.ownL, setD, appD, extD, augD, seqOf, unwipe, wipeS, Slot.keepF, D.bls, tyMt, h1] <;> first | rfl | exact ⟨rfl, rfl⟩ | skip)) ?_; simp only [if_true, Bool.false_eq_true, if_false, List.nil_append, List.cons_append]
  rfl
theorem c_num_bad {m : Nat} (hm : 3 ≤ m) {x : D} (hx : x.pl = true) (l h : Int) (k : x.within l h = false) (hd : Option (List D)) : (gm m).cal 3 [x, .int l, .int h] hd = .exc ⟨"NoNumber", []⟩ hd := by
  (obtain ⟨n, rfl⟩ : ∃ n, m = n + 1 := ⟨m - 1, by omega⟩); rw [cal_eq (d := ⟨"check_number", 3, 3, b3⟩) rfl]; refine callE rfl ?_; show Sd _ (evSs _ b3 _); unfold b3
  have h1 := c_is_within (m := n) (by omega) hx l h hd
  rw [k] at h1
  refine sIf (b := true) (by (simp (disch := first | assumption | omega | (simp; done) | rfl) [callD, outOf, evS.eq_1, evS.eq_2, evS.eq_3, evS.eq_4, evS.eq_5, evS.eq_6, evS.eq_7, evS.eq_10, evS.eq_11, evS.eq_12, evS.eq_13, evS.eq_14, evS.eq_15, evS.eq_16, evS.eq_17, evS.eq_18, evS.eq_19, evSs, evE.eq_1, evE.eq_2, evE.eq_3, evE.eq_4, evE.eq_5, evE.eq_6, evE.eq_7, evE.eq_8, evE.eq_9, evE.eq_10, evE.eq_11, evE.eq_12, evE.eq_13, evE.eq_14, evE.eq_15, evE.eq_16, evE.eq_17, evE.eq_18, evE.eq_19, evE.eq_20, evE.eq_21, evE.eq_22, evE.eq_23, evE.eq_24, evE.eq_25, evE.eq_29, evE.eq_30, evE.eq_31, evEs, evPs, evRs, putAll, truD, Out.res, retZ, pend, partE, ZZ.S.get, ZZ.S.put, Pd.get, getAll, idxD, sliD, binD, cmpD, fnD, fxD, mtD, isiD, line, iterE, iterD, frRun, asg.eq_1, asg.eq_2, asgs.eq_1, asgs.eq_2, ZZ.S.ownL, setD, appD, extD, augD, seqOf, unwipe, wipeS, Slot.keepF, D.bls, tyMt, h1] <;> first | rfl | exact ⟨rfl, rfl⟩ | skip)) ?_; simp only [if_true, Bool.false_eq_true, if_false, List.nil_append, List.cons_append]
  refine sExc (by (simp (disch := first | assumption | omega | (simp; done) | rfl) [callD, outOf, evS.eq_1, evS.eq_2, evS.eq_3, evS.eq_4, evS.eq_5, evS.eq_6, evS.eq_7, evS.eq_10, evS.eq_11, evS.eq_12, evS.eq_13, evS.eq_14, evS.eq_15, evS.eq_16, evS.eq_17, evS.eq_18, evS.eq_19, evSs, evE.eq_1, evE.eq_2, evE.eq_3, evE.eq_4, evE.eq_5, evE.eq_6, evE.eq_7, evE.eq_8, evE.eq_9, evE.eq_10, evE.eq_11, evE.eq_12, evE.eq_13, evE.eq_14, evE.eq_15, evE.eq_16, evE.eq_17, evE.eq_18, evE.eq_19, evE.eq_20, evE.eq_21, evE.eq_22, evE.eq_23, evE.eq_24, evE.eq_25, evE.eq_29, evE.eq_30, evE.eq_31, evEs, evPs, evRs, putAll, truD, Out.res, retZ, pend, partE, ZZ.S.get, ZZ.S.put, Pd.get, getAll, idxD, sliD, binD, cmpD, fnD, fxD, mtD, isiD, line, iterE, iterD, frRun, asg.eq_1, asg.eq_2, asgs.eq_1, asgs.eq_2, ZZ.S.ownL, setD, appD, extD, augD, seqOf, unwipe, wipeS, Slot.keepF, D.bls, tyMt] <;> first | rfl | exact ⟨rfl, rfl⟩ | skip)) ?_
  rfl
abbrev gr (a b : Nat) : D := .tup [.int a, .int b]
def GrOk (a b : Nat) : Prop := 1 ≤ a ∧ a ≤ 8 ∧ 1 ≤ b ∧ b ≤ 8
theorem c_is_grid {m : Nat} (hm : 3 ≤ m) {a b : Nat} (h : GrOk a b) (hd : Option (List D)) : (gm m).cal 5 [gr a b] hd = .ok (.f (.bl true)) hd := by
  obtain ⟨a1, a2, b1, b2⟩ := h
  (obtain ⟨n, rfl⟩ : ∃ n, m = n + 1 := ⟨m - 1, by omega⟩); rw [cal_eq (d := ⟨"is_grid", 2, 1, b5⟩) rfl]; refine callE rfl ?_; show Sd _ (evSs _ b5 _); unfold b5
  have h1 := c_is_tuple (m := n) (x := gr a b) (by omega) rfl 2 hd
  have h2 := c_is_within (m := n) (x := .int a) (by omega) rfl 1 8 hd
  have h3 := c_is_within (m := n) (x := .int b) (by omega) rfl 1 8 hd
  have w1 : D.within 1 8 (.int a) = true := by
    rw [wi_int, decide_eq_true (by omega), decide_eq_true (by omega)]; rfl
  have w2 : D.within 1 8 (.int b) = true := by
    rw [wi_int, decide_eq_true (by omega), decide_eq_true (by omega)]; rfl
  rw [w1] at h2
  rw [w2] at h3
  have lc := lc_one0 (G := gm n) (j := 1) (k := .val) (its := [.var 0]) (elt := .call 1 [.var 1, .con (.int 1), .glo "MOST_SIDE" (.int 8)]) (st := ⟨[.fz (gr a b), .un], hd⟩) (st1 := ⟨[.fz (gr a b), .un], hd⟩) id (fun _ => .bl true) [.int a, .int b] (by simp (disch := first | assumption | omega | (simp; done) | rfl) [callD, outOf, evS.eq_1, evS.eq_2, evS.eq_3, evS.eq_4, evS.eq_5, evS.eq_6, evS.eq_7, evS.eq_10, evS.eq_11, evS.eq_12, evS.eq_13, evS.eq_14, evS.eq_15, evS.eq_16, evS.eq_17, evS.eq_18, evS.eq_19, evSs, evE.eq_1, evE.eq_2, evE.eq_3, evE.eq_4, evE.eq_5, evE.eq_6, evE.eq_7, evE.eq_8, evE.eq_9, evE.eq_10, evE.eq_11, evE.eq_12, evE.eq_13, evE.eq_14, evE.eq_15, evE.eq_16, evE.eq_17, evE.eq_18, evE.eq_19, evE.eq_20, evE.eq_21, evE.eq_22, evE.eq_23, evE.eq_24, evE.eq_25, evE.eq_29, evE.eq_30, evE.eq_31, evEs, evPs, evRs, putAll, truD, Out.res, retZ, pend, partE, ZZ.S.get, ZZ.S.put, Pd.get, getAll, idxD, sliD, binD, cmpD, fnD, fxD, mtD, isiD, line, iterE, iterD, frRun, asg.eq_1, asg.eq_2, asgs.eq_1, asgs.eq_2, ZZ.S.ownL, setD, appD, extD, augD, seqOf, unwipe, wipeS, Slot.keepF, D.bls, tyMt, gr]) (by show 2 ≤ _; omega) (fun x hx => by
    (simp only [List.mem_cons, List.not_mem_nil, or_false] at hx)
    rcases hx with rfl | rfl
    · simp (disch := first | assumption | omega | (simp; done) | rfl) [callD, outOf, evS.eq_1, evS.eq_2, evS.eq_3, evS.eq_4, evS.eq_5, evS.eq_6, evS.eq_7, evS.eq_10, evS.eq_11, evS.eq_12, evS.eq_13, evS.eq_14, evS.eq_15, evS.eq_16, evS.eq_17, evS.eq_18, evS.eq_19, evSs, evE.eq_1, evE.eq_2, evE.eq_3, evE.eq_4, evE.eq_5, evE.eq_6, evE.eq_7, evE.eq_8, evE.eq_9, evE.eq_10, evE.eq_11, evE.eq_12, evE.eq_13, evE.eq_14, evE.eq_15, evE.eq_16, evE.eq_17, evE.eq_18, evE.eq_19, evE.eq_20, evE.eq_21, evE.eq_22, evE.eq_23, evE.eq_24, evE.eq_25, evE.eq_29, evE.eq_30, evE.eq_31, evEs, evPs, evRs, putAll, truD, Out.res, retZ, pend, partE, ZZ.S.get, ZZ.S.put, Pd.get, getAll, idxD, sliD, binD, cmpD, fnD, fxD, mtD, isiD, line, iterE, iterD, frRun, asg.eq_1, asg.eq_2, asgs.eq_1, asgs.eq_2, ZZ.S.ownL, setD, appD, extD, augD, seqOf, unwipe, wipeS, Slot.keepF, D.bls, tyMt, h2]
    · simp (disch := first | assumption | omega | (simp; done) | rfl) [callD, outOf, evS.eq_1, evS.eq_2, evS.eq_3, evS.eq_4, evS.eq_5, evS.eq_6, evS.eq_7, evS.eq_10, evS.eq_11, evS.eq_12, evS.eq_13, evS.eq_14, evS.eq_15, evS.eq_16, evS.eq_17, evS.eq_18, evS.eq_19, evSs, evE.eq_1, evE.eq_2, evE.eq_3, evE.eq_4, evE.eq_5, evE.eq_6, evE.eq_7, evE.eq_8, evE.eq_9, evE.eq_10, evE.eq_11, evE.eq_12, evE.eq_13, evE.eq_14, evE.eq_15, evE.eq_16, evE.eq_17, evE.eq_18, evE.eq_19, evE.eq_20, evE.eq_21, evE.eq_22, evE.eq_23, evE.eq_24, evE.eq_25, evE.eq_29, evE.eq_30, evE.eq_31, evEs, evPs, evRs, putAll, truD, Out.res, retZ, pend, partE, ZZ.S.get, ZZ.S.put, Pd.get, getAll, idxD, sliD, binD, cmpD, fnD, fxD, mtD, isiD, line, iterE, iterD, frRun, asg.eq_1, asg.eq_2, asgs.eq_1, asgs.eq_2, ZZ.S.ownL, setD, appD, extD, augD, seqOf, unwipe, wipeS, Slot.keepF, D.bls, tyMt, h3])
  have e1 : (gr a b).isT 2 = true := rfl
  rw [e1] at h1
  refine sRet (by (simp (disch := first | assumption | omega | (simp; done) | rfl) [callD, outOf, evS.eq_1, evS.eq_2, evS.eq_3, evS.eq_4, evS.eq_5, evS.eq_6, evS.eq_7, evS.eq_10, evS.eq_11, evS.eq_12, evS.eq_13, evS.eq_14, evS.eq_15, evS.eq_16, evS.eq_17, evS.eq_18, evS.eq_19, evSs, evE.eq_1, evE.eq_2, evE.eq_3, evE.eq_4, evE.eq_5, evE.eq_6, evE.eq_7, evE.eq_8, evE.eq_9, evE.eq_10, evE.eq_11, evE.eq_12, evE.eq_13, evE.eq_14, evE.eq_15, evE.eq_16, evE.eq_17, evE.eq_18, evE.eq_19, evE.eq_20, evE.eq_21, evE.eq_22, evE.eq_23, evE.eq_24, evE.eq_25, evE.eq_29, evE.eq_30, evE.eq_31, evEs, evPs, evRs, putAll, truD, Out.res, retZ, pend, partE, ZZ.S.get, ZZ.S.put, Pd.get, getAll, idxD, sliD, binD, cmpD, fnD, fxD, mtD, isiD, line, iterE, iterD, frRun, asg.eq_1, asg.eq_2, asgs.eq_1, asgs.eq_2, ZZ.S.ownL, setD, appD, extD, augD, seqOf, unwipe, wipeS, Slot.keepF, D.bls, tyMt, h1, lc] <;> first | rfl | exact ⟨rfl, rfl⟩ | skip)) ?_
  rfl
theorem c_grid_bad {m : Nat} (hm : 3 ≤ m) {x : D} (hx : x.pl = true) (h : x.isT 2 = false) (hd : Option (List D)) : (gm m).cal 5 [x] hd = .ok (.f (.bl false)) hd := by
  (obtain ⟨n, rfl⟩ : ∃ n, m = n + 1 := ⟨m - 1, by omega⟩); rw [cal_eq (d := ⟨"is_grid", 2, 1, b5⟩) rfl]; refine callE rfl ?_; show Sd _ (evSs _ b5 _); unfold b5
  have h1 := c_is_tuple (m := n) (x := x) (by omega) hx 2 hd
  rw [h] at h1
  refine sRet (by (simp (disch := first | assumption | omega | (simp; done) | rfl) [callD, outOf, evS.eq_1, evS.eq_2, evS.eq_3, evS.eq_4, evS.eq_5, evS.eq_6, evS.eq_7, evS.eq_10, evS.eq_11, evS.eq_12, evS.eq_13, evS.eq_14, evS.eq_15, evS.eq_16, evS.eq_17, evS.eq_18, evS.eq_19, evSs, evE.eq_1, evE.eq_2, evE.eq_3, evE.eq_4, evE.eq_5, evE.eq_6, evE.eq_7, evE.eq_8, evE.eq_9, evE.eq_10, evE.eq_11, evE.eq_12, evE.eq_13, evE.eq_14, evE.eq_15, evE.eq_16, evE.eq_17, evE.eq_18, evE.eq_19, evE.eq_20, evE.eq_21, evE.eq_22, evE.eq_23, evE.eq_24, evE.eq_25, evE.eq_29, evE.eq_30, evE.eq_31, evEs, evPs, evRs, putAll, truD, Out.res, retZ, pend, partE, ZZ.S.get, ZZ.S.put, Pd.get, getAll, idxD, sliD, binD, cmpD, fnD, fxD, mtD, isiD, line, iterE, iterD, frRun, asg.eq_1, asg.eq_2, asgs.eq_1, asgs.eq_2, ZZ.S.ownL, setD, appD, extD, augD, seqOf, unwipe, wipeS, Slot.keepF, D.bls, tyMt, h1] <;> first | rfl | exact ⟨rfl, rfl⟩ | skip)) ?_
  rfl
theorem c_check_grid {m : Nat} (hm : 4 ≤ m) {a b : Nat} (h : GrOk a b) (hd : Option (List D)) : (gm m).cal 6 [gr a b] hd = .ok (.f .non) hd := by
  (obtain ⟨n, rfl⟩ : ∃ n, m = n + 1 := ⟨m - 1, by omega⟩); rw [cal_eq (d := ⟨"check_grid", 1, 1, b6⟩) rfl]; refine callE rfl ?_; show Sd _ (evSs _ b6 _); unfold b6
  have h1 := c_is_grid (m := n) (by omega) h hd
  refine sIf (b := false) (by (simp (disch := first | assumption | omega | (simp; done) | rfl) [callD, outOf, evS.eq_1, evS.eq_2, evS.eq_3, evS.eq_4, evS.eq_5, evS.eq_6, evS.eq_7, evS.eq_10, evS.eq_11, evS.eq_12, evS.eq_13, evS.eq_14, evS.eq_15, evS.eq_16, evS.eq_17, evS.eq_18, evS.eq_19, evSs, evE.eq_1, evE.eq_2, evE.eq_3, evE.eq_4, evE.eq_5, evE.eq_6, evE.eq_7, evE.eq_8, evE.eq_9, evE.eq_10, evE.eq_11, evE.eq_12, evE.eq_13, evE.eq_14, evE.eq_15, evE.eq_16, evE.eq_17, evE.eq_18, evE.eq_19, evE.eq_20, evE.eq_21, evE.eq_22, evE.eq_23, evE.eq_24, evE.eq_25, evE.eq_29, evE.eq_30, evE.eq_31, evEs, evPs, evRs, putAll, truD, Out.res, retZ, pend, partE, ZZ.S.get, ZZ.S.put, Pd.get, getAll, idxD, sliD, binD, cmpD, fnD, fxD, mtD, isiD, line, iterE, iterD, frRun, asg.eq_1, asg.eq_2, asgs.eq_1, asgs.eq_2, ZZ.S.ownL, setD, appD, extD, augD, seqOf, unwipe, wipeS, Slot.keepF, D.bls, tyMt, h1] <;> first | rfl | exact ⟨rfl, rfl⟩ | skip)) ?_; simp only [if_true, Bool.false_eq_true, if_false, List.nil_append, List.cons_append]
  rfl
theorem c_check_bad {n : Nat} {x : D} {hd : Option (List D)} (h1 : (gm n).cal 5 [x] hd = .ok (.f (.bl false)) hd) : (gm (n + 1)).cal 6 [x] hd = .exc ⟨"NoSheet", []⟩ hd := by
  rw [cal_eq (d := ⟨"check_grid", 1, 1, b6⟩) rfl]
  refine callE rfl ?_
  show Sd _ (evSs _ b6 _)
  unfold b6
  refine sIf (b := true) (by (simp (disch := first | assumption | omega | (simp; done) | rfl) [callD, outOf, evS.eq_1, evS.eq_2, evS.eq_3, evS.eq_4, evS.eq_5, evS.eq_6, evS.eq_7, evS.eq_10, evS.eq_11, evS.eq_12, evS.eq_13, evS.eq_14, evS.eq_15, evS.eq_16, evS.eq_17, evS.eq_18, evS.eq_19, evSs, evE.eq_1, evE.eq_2, evE.eq_3, evE.eq_4, evE.eq_5, evE.eq_6, evE.eq_7, evE.eq_8, evE.eq_9, evE.eq_10, evE.eq_11, evE.eq_12, evE.eq_13, evE.eq_14, evE.eq_15, evE.eq_16, evE.eq_17, evE.eq_18, evE.eq_19, evE.eq_20, evE.eq_21, evE.eq_22, evE.eq_23, evE.eq_24, evE.eq_25, evE.eq_29, evE.eq_30, evE.eq_31, evEs, evPs, evRs, putAll, truD, Out.res, retZ, pend, partE, ZZ.S.get, ZZ.S.put, Pd.get, getAll, idxD, sliD, binD, cmpD, fnD, fxD, mtD, isiD, line, iterE, iterD, frRun, asg.eq_1, asg.eq_2, asgs.eq_1, asgs.eq_2, ZZ.S.ownL, setD, appD, extD, augD, seqOf, unwipe, wipeS, Slot.keepF, D.bls, tyMt, h1] <;> first | rfl | exact ⟨rfl, rfl⟩ | skip)) ?_; simp only [if_true, Bool.false_eq_true, if_false, List.nil_append, List.cons_append]
  refine sExc (by (simp (disch := first | assumption | omega | (simp; done) | rfl) [callD, outOf, evS.eq_1, evS.eq_2, evS.eq_3, evS.eq_4, evS.eq_5, evS.eq_6, evS.eq_7, evS.eq_10, evS.eq_11, evS.eq_12, evS.eq_13, evS.eq_14, evS.eq_15, evS.eq_16, evS.eq_17, evS.eq_18, evS.eq_19, evSs, evE.eq_1, evE.eq_2, evE.eq_3, evE.eq_4, evE.eq_5, evE.eq_6, evE.eq_7, evE.eq_8, evE.eq_9, evE.eq_10, evE.eq_11, evE.eq_12, evE.eq_13, evE.eq_14, evE.eq_15, evE.eq_16, evE.eq_17, evE.eq_18, evE.eq_19, evE.eq_20, evE.eq_21, evE.eq_22, evE.eq_23, evE.eq_24, evE.eq_25, evE.eq_29, evE.eq_30, evE.eq_31, evEs, evPs, evRs, putAll, truD, Out.res, retZ, pend, partE, ZZ.S.get, ZZ.S.put, Pd.get, getAll, idxD, sliD, binD, cmpD, fnD, fxD, mtD, isiD, line, iterE, iterD, frRun, asg.eq_1, asg.eq_2, asgs.eq_1, asgs.eq_2, ZZ.S.ownL, setD, appD, extD, augD, seqOf, unwipe, wipeS, Slot.keepF, D.bls, tyMt] <;> first | rfl | exact ⟨rfl, rfl⟩ | skip)) ?_
  rfl
/-- sheets for so many -/
def Sn (a b M : Nat) : Nat := (M + a * b - 1) / (a * b)
theorem Sn_pos {a b M : Nat} (h : GrOk a b) (hM : 1 ≤ M) : 1 ≤ Sn a b M ∧ Sn a b M ≤ M ∧ M ≤ a * b * Sn a b M := by
  obtain ⟨a1, a2, b1, b2⟩ := h
  have hp : 0 < a * b := Nat.mul_pos (by omega) (by omega)
  unfold Sn
  have e := Nat.div_add_mod (M + a * b - 1) (a * b)
  have l := Nat.mod_lt (M + a * b - 1) hp
  generalize (M + a * b - 1) / (a * b) = q at e
  generalize (M + a * b - 1) % (a * b) = r at e l
  generalize hn : a * b = N at *
  have q1 : 1 ≤ q := by
    rcases Nat.eq_zero_or_pos q with h | h
    · subst h; omega
    · exact h
  refine ⟨q1, ?_, by omega⟩
  -- N q + r = M + N - 1, so q ≤ M
  have : N * q ≥ q + (N - 1) * 1 := by
    obtain ⟨t, rfl⟩ : ∃ t, q = t + 1 := ⟨q - 1, by omega⟩
    rw [Nat.mul_add, Nat.mul_one]
    have : t ≤ N * t := Nat.le_mul_of_pos_left t hp
    omega
  omega
theorem Sn_int {a b M : Nat} (h : GrOk a b) : ((M : Int) + (a : Int) * (b : Int) - 1).fdiv ((a : Int) * (b : Int)) = (Sn a b M : Int) := by
  obtain ⟨a1, a2, b1, b2⟩ := h
  have hp : 0 < a * b := Nat.mul_pos (by omega) (by omega)
  have := ceil_nat (m := M) hp
  rw [Int.natCast_mul] at this
  exact this
theorem ab_bd {a b : Nat} (h : GrOk a b) : 1 ≤ a * b ∧ a * b ≤ 64 := by
  obtain ⟨a1, a2, b1, b2⟩ := h
  exact ⟨Nat.mul_pos (by omega) (by omega), Nat.mul_le_mul a2 b2⟩
theorem sm_n {a : Nat} (h : a ≤ 1000000) : small64 (a : Int) = true := small_bd (by omega) (by omega)
theorem c_up {m : Nat} (hm : 1 ≤ m) {a b M : Nat} (h : GrOk a b) (hd : Option (List D)) : (gm m).cal 4 [.int M, .int ((a : Int) * (b : Int))] hd = .ok (.f (.int (Sn a b M))) hd := by
  have hb := ab_bd h
  (obtain ⟨n, rfl⟩ : ∃ n, m = n + 1 := ⟨m - 1, by omega⟩); rw [cal_eq (d := ⟨"up", 2, 2, b4⟩) rfl]; refine callE rfl ?_; show Sd _ (evSs _ b4 _); unfold b4
  have n1 : ¬ (a : Int) * (b : Int) = 0 := by
    have : ((a * b : Nat) : Int) ≠ 0 := by omega
    rwa [Int.natCast_mul] at this
  have n2 : ((a : Int) * (b : Int)).natAbs < 1073741824 := by
    have : ((a * b : Nat) : Int).natAbs < 1073741824 := by omega
    rwa [Int.natCast_mul] at this
  generalize hz : (a : Int) * (b : Int) = z at n1 n2
  have e := Sn_int h (M := M)
  rw [hz] at e
  refine sRet (by (simp (disch := first | assumption | omega | (simp; done) | rfl) [callD, outOf, evS.eq_1, evS.eq_2, evS.eq_3, evS.eq_4, evS.eq_5, evS.eq_6, evS.eq_7, evS.eq_10, evS.eq_11, evS.eq_12, evS.eq_13, evS.eq_14, evS.eq_15, evS.eq_16, evS.eq_17, evS.eq_18, evS.eq_19, evSs, evE.eq_1, evE.eq_2, evE.eq_3, evE.eq_4, evE.eq_5, evE.eq_6, evE.eq_7, evE.eq_8, evE.eq_9, evE.eq_10, evE.eq_11, evE.eq_12, evE.eq_13, evE.eq_14, evE.eq_15, evE.eq_16, evE.eq_17, evE.eq_18, evE.eq_19, evE.eq_20, evE.eq_21, evE.eq_22, evE.eq_23, evE.eq_24, evE.eq_25, evE.eq_29, evE.eq_30, evE.eq_31, evEs, evPs, evRs, putAll, truD, Out.res, retZ, pend, partE, ZZ.S.get, ZZ.S.put, Pd.get, getAll, idxD, sliD, binD, cmpD, fnD, fxD, mtD, isiD, line, iterE, iterD, frRun, asg.eq_1, asg.eq_2, asgs.eq_1, asgs.eq_2, ZZ.S.ownL, setD, appD, extD, augD, seqOf, unwipe, wipeS, Slot.keepF, D.bls, tyMt, n1, n2, e] <;> first | rfl | exact ⟨rfl, rfl⟩ | skip)) ?_
  rfl
theorem c_sheets {m : Nat} (hm : 5 ≤ m) {a b M : Nat} (h : GrOk a b) (h1 : 1 ≤ M) (h2 : M ≤ 1000000) (hd : Option (List D)) : (gm m).cal 7 [gr a b, .int M] hd = .ok (.f (.int (Sn a b M))) hd := by
  (obtain ⟨n, rfl⟩ : ∃ n, m = n + 1 := ⟨m - 1, by omega⟩); rw [cal_eq (d := ⟨"sheets_for", 2, 2, b7⟩) rfl]; refine callE rfl ?_; show Sd _ (evSs _ b7 _); unfold b7
  have k1 := c_check_grid (m := n) (by omega) h hd
  have k2 := c_num (m := n) (x := .int M) (by omega) rfl 1 1000000 (by rw [wi_int, decide_eq_true (by omega), decide_eq_true (by omega)]; rfl) hd
  refine sNx (by (simp (disch := first | assumption | omega | (simp; done) | rfl) [callD, outOf, evS.eq_1, evS.eq_2, evS.eq_3, evS.eq_4, evS.eq_5, evS.eq_6, evS.eq_7, evS.eq_10, evS.eq_11, evS.eq_12, evS.eq_13, evS.eq_14, evS.eq_15, evS.eq_16, evS.eq_17, evS.eq_18, evS.eq_19, evSs, evE.eq_1, evE.eq_2, evE.eq_3, evE.eq_4, evE.eq_5, evE.eq_6, evE.eq_7, evE.eq_8, evE.eq_9, evE.eq_10, evE.eq_11, evE.eq_12, evE.eq_13, evE.eq_14, evE.eq_15, evE.eq_16, evE.eq_17, evE.eq_18, evE.eq_19, evE.eq_20, evE.eq_21, evE.eq_22, evE.eq_23, evE.eq_24, evE.eq_25, evE.eq_29, evE.eq_30, evE.eq_31, evEs, evPs, evRs, putAll, truD, Out.res, retZ, pend, partE, ZZ.S.get, ZZ.S.put, Pd.get, getAll, idxD, sliD, binD, cmpD, fnD, fxD, mtD, isiD, line, iterE, iterD, frRun, asg.eq_1, asg.eq_2, asgs.eq_1, asgs.eq_2, ZZ.S.ownL, setD, appD, extD, augD, seqOf, unwipe, wipeS, Slot.keepF, D.bls, tyMt, k1] <;> first | rfl | exact ⟨rfl, rfl⟩ | skip)) ?_
  refine sNx (by (simp (disch := first | assumption | omega | (simp; done) | rfl) [callD, outOf, evS.eq_1, evS.eq_2, evS.eq_3, evS.eq_4, evS.eq_5, evS.eq_6, evS.eq_7, evS.eq_10, evS.eq_11, evS.eq_12, evS.eq_13, evS.eq_14, evS.eq_15, evS.eq_16, evS.eq_17, evS.eq_18, evS.eq_19, evSs, evE.eq_1, evE.eq_2, evE.eq_3, evE.eq_4, evE.eq_5, evE.eq_6, evE.eq_7, evE.eq_8, evE.eq_9, evE.eq_10, evE.eq_11, evE.eq_12, evE.eq_13, evE.eq_14, evE.eq_15, evE.eq_16, evE.eq_17, evE.eq_18, evE.eq_19, evE.eq_20, evE.eq_21, evE.eq_22, evE.eq_23, evE.eq_24, evE.eq_25, evE.eq_29, evE.eq_30, evE.eq_31, evEs, evPs, evRs, putAll, truD, Out.res, retZ, pend, partE, ZZ.S.get, ZZ.S.put, Pd.get, getAll, idxD, sliD, binD, cmpD, fnD, fxD, mtD, isiD, line, iterE, iterD, frRun, asg.eq_1, asg.eq_2, asgs.eq_1, asgs.eq_2, ZZ.S.ownL, setD, appD, extD, augD, seqOf, unwipe, wipeS, Slot.keepF, D.bls, tyMt, k2] <;> first | rfl | exact ⟨rfl, rfl⟩ | skip)) ?_
  have hb := ab_bd h
  have s1 : small64 (a : Int) = true := sm_n (by have := h.2.1; omega)
  have k3 := c_up (m := n) (by omega) h hd (M := M)

  refine sRet (by (simp (disch := first | assumption | omega | (simp; done) | rfl) [callD, outOf, evS.eq_1, evS.eq_2, evS.eq_3, evS.eq_4, evS.eq_5, evS.eq_6, evS.eq_7, evS.eq_10, evS.eq_11, evS.eq_12, evS.eq_13, evS.eq_14, evS.eq_15, evS.eq_16, evS.eq_17, evS.eq_18, evS.eq_19, evSs, evE.eq_1, evE.eq_2, evE.eq_3, evE.eq_4, evE.eq_5, evE.eq_6, evE.eq_7, evE.eq_8, evE.eq_9, evE.eq_10, evE.eq_11, evE.eq_12, evE.eq_13, evE.eq_14, evE.eq_15, evE.eq_16, evE.eq_17, evE.eq_18, evE.eq_19, evE.eq_20, evE.eq_21, evE.eq_22, evE.eq_23, evE.eq_24, evE.eq_25, evE.eq_29, evE.eq_30, evE.eq_31, evEs, evPs, evRs, putAll, truD, Out.res, retZ, pend, partE, ZZ.S.get, ZZ.S.put, Pd.get, getAll, idxD, sliD, binD, cmpD, fnD, fxD, mtD, isiD, line, iterE, iterD, frRun, asg.eq_1, asg.eq_2, asgs.eq_1, asgs.eq_2, ZZ.S.ownL, setD, appD, extD, augD, seqOf, unwipe, wipeS, Slot.keepF, D.bls, tyMt, s1, k3] <;> first | rfl | exact ⟨rfl, rfl⟩ | skip)) ?_
  rfl
end ZZ.L

namespace ZZ.L
open PySem
/-- the number on the topmost sheet -/
def ent (b S : Nat) (f : Int) (r c : Nat) : Int := f + ((r : Int) * (b : Int) + (c : Int)) * (S : Int)
def rowB (b S : Nat) (f : Int) (r : Nat) : D := .tup ((List.range b).map fun c => .int (ent b S f r c))
def begD (a b S : Nat) (f : Int) : D := .tup ((List.range a).map (rowB b S f))
def cut (lim x : Int) : D := if x < lim then .int x else .non
def rowS (b S M : Nat) (f : Int) (s r : Nat) : D := .tup ((List.range b).map fun c => cut (f + (M : Int)) (ent b S f r c + (s : Int)))
def stD (a b S M : Nat) (f : Int) (s : Nat) : D := .tup ((List.range a).map (rowS b S M f s))
theorem num_ok {m : Nat} (hm : 3 ≤ m) (i l h : Int) (h1 : l ≤ i) (h2 : i ≤ h) (hd : Option (List D)) : (gm m).cal 3 [.int i, .int l, .int h] hd = .ok (.f .non) hd :=
  c_num hm rfl l h (by rw [wi_int, decide_eq_true h1, decide_eq_true h2]; rfl) hd
theorem c_begins {m : Nat} (hm : 6 ≤ m) {a b M : Nat} (h : GrOk a b) (h1 : 1 ≤ M) (h2 : M ≤ 1000000) (f : Int) (f0 : 0 ≤ f) (f1 : f ≤ 1000000000) (hd : Option (List D)) : (gm m).cal 8 [gr a b, .int M, .int f] hd = .ok (.f (begD a b (Sn a b M) f)) hd := by
  (obtain ⟨n, rfl⟩ : ∃ n, m = n + 1 := ⟨m - 1, by omega⟩); rw [cal_eq (d := ⟨"begins", 7, 3, b8⟩) rfl]; refine callE rfl ?_; show Sd _ (evSs _ b8 _); unfold b8
  have k1 := c_check_grid (m := n) (by omega) h hd
  have k2 := num_ok (m := n) (by omega) M 1 1000000 (by omega) (by omega) hd
  have k3 := num_ok (m := n) (by omega) f 0 1000000000 f0 f1 hd
  have k4 := c_sheets (m := n) (by omega) h h1 h2 hd
  refine sNx (by (simp (disch := first | assumption | omega | (simp; done) | rfl) [callD, outOf, evS.eq_1, evS.eq_2, evS.eq_3, evS.eq_4, evS.eq_5, evS.eq_6, evS.eq_7, evS.eq_10, evS.eq_11, evS.eq_12, evS.eq_13, evS.eq_14, evS.eq_15, evS.eq_16, evS.eq_17, evS.eq_18, evS.eq_19, evSs, evE.eq_1, evE.eq_2, evE.eq_3, evE.eq_4, evE.eq_5, evE.eq_6, evE.eq_7, evE.eq_8, evE.eq_9, evE.eq_10, evE.eq_11, evE.eq_12, evE.eq_13, evE.eq_14, evE.eq_15, evE.eq_16, evE.eq_17, evE.eq_18, evE.eq_19, evE.eq_20, evE.eq_21, evE.eq_22, evE.eq_23, evE.eq_24, evE.eq_25, evE.eq_29, evE.eq_30, evE.eq_31, evEs, evPs, evRs, putAll, truD, Out.res, retZ, pend, partE, ZZ.S.get, ZZ.S.put, Pd.get, getAll, idxD, sliD, binD, cmpD, fnD, fxD, mtD, isiD, line, iterE, iterD, frRun, asg.eq_1, asg.eq_2, asgs.eq_1, asgs.eq_2, ZZ.S.ownL, setD, appD, extD, augD, seqOf, unwipe, wipeS, Slot.keepF, D.bls, tyMt, k1] <;> first | rfl | exact ⟨rfl, rfl⟩ | skip)) ?_
  refine sNx (by (simp (disch := first | assumption | omega | (simp; done) | rfl) [callD, outOf, evS.eq_1, evS.eq_2, evS.eq_3, evS.eq_4, evS.eq_5, evS.eq_6, evS.eq_7, evS.eq_10, evS.eq_11, evS.eq_12, evS.eq_13, evS.eq_14, evS.eq_15, evS.eq_16, evS.eq_17, evS.eq_18, evS.eq_19, evSs, evE.eq_1, evE.eq_2, evE.eq_3, evE.eq_4, evE.eq_5, evE.eq_6, evE.eq_7, evE.eq_8, evE.eq_9, evE.eq_10, evE.eq_11, evE.eq_12, evE.eq_13, evE.eq_14, evE.eq_15, evE.eq_16, evE.eq_17, evE.eq_18, evE.eq_19, evE.eq_20, evE.eq_21, evE.eq_22, evE.eq_23, evE.eq_24, evE.eq_25, evE.eq_29, evE.eq_30, evE.eq_31, evEs, evPs, evRs, putAll, truD, Out.res, retZ, pend, partE, ZZ.S.get, ZZ.S.put, Pd.get, getAll, idxD, sliD, binD, cmpD, fnD, fxD, mtD, isiD, line, iterE, iterD, frRun, asg.eq_1, asg.eq_2, asgs.eq_1, asgs.eq_2, ZZ.S.ownL, setD, appD, extD, augD, seqOf, unwipe, wipeS, Slot.keepF, D.bls, tyMt, k2] <;> first | rfl | exact ⟨rfl, rfl⟩ | skip)) ?_
  refine sNx (by (simp (disch := first | assumption | omega | (simp; done) | rfl) [callD, outOf, evS.eq_1, evS.eq_2, evS.eq_3, evS.eq_4, evS.eq_5, evS.eq_6, evS.eq_7, evS.eq_10, evS.eq_11, evS.eq_12, evS.eq_13, evS.eq_14, evS.eq_15, evS.eq_16, evS.eq_17, evS.eq_18, evS.eq_19, evSs, evE.eq_1, evE.eq_2, evE.eq_3, evE.eq_4, evE.eq_5, evE.eq_6, evE.eq_7, evE.eq_8, evE.eq_9, evE.eq_10, evE.eq_11, evE.eq_12, evE.eq_13, evE.eq_14, evE.eq_15, evE.eq_16, evE.eq_17, evE.eq_18, evE.eq_19, evE.eq_20, evE.eq_21, evE.eq_22, evE.eq_23, evE.eq_24, evE.eq_25, evE.eq_29, evE.eq_30, evE.eq_31, evEs, evPs, evRs, putAll, truD, Out.res, retZ, pend, partE, ZZ.S.get, ZZ.S.put, Pd.get, getAll, idxD, sliD, binD, cmpD, fnD, fxD, mtD, isiD, line, iterE, iterD, frRun, asg.eq_1, asg.eq_2, asgs.eq_1, asgs.eq_2, ZZ.S.ownL, setD, appD, extD, augD, seqOf, unwipe, wipeS, Slot.keepF, D.bls, tyMt, k3] <;> first | rfl | exact ⟨rfl, rfl⟩ | skip)) ?_
  refine sNx (by (simp (disch := first | assumption | omega | (simp; done) | rfl) [callD, outOf, evS.eq_1, evS.eq_2, evS.eq_3, evS.eq_4, evS.eq_5, evS.eq_6, evS.eq_7, evS.eq_10, evS.eq_11, evS.eq_12, evS.eq_13, evS.eq_14, evS.eq_15, evS.eq_16, evS.eq_17, evS.eq_18, evS.eq_19, evSs, evE.eq_1, evE.eq_2, evE.eq_3, evE.eq_4, evE.eq_5, evE.eq_6, evE.eq_7, evE.eq_8, evE.eq_9, evE.eq_10, evE.eq_11, evE.eq_12, evE.eq_13, evE.eq_14, evE.eq_15, evE.eq_16, evE.eq_17, evE.eq_18, evE.eq_19, evE.eq_20, evE.eq_21, evE.eq_22, evE.eq_23, evE.eq_24, evE.eq_25, evE.eq_29, evE.eq_30, evE.eq_31, evEs, evPs, evRs, putAll, truD, Out.res, retZ, pend, partE, ZZ.S.get, ZZ.S.put, Pd.get, getAll, idxD, sliD, binD, cmpD, fnD, fxD, mtD, isiD, line, iterE, iterD, frRun, asg.eq_1, asg.eq_2, asgs.eq_1, asgs.eq_2, ZZ.S.ownL, setD, appD, extD, augD, seqOf, unwipe, wipeS, Slot.keepF, D.bls, tyMt, k4] <;> first | rfl | exact ⟨rfl, rfl⟩ | skip)) ?_
  refine sNx (by (simp (disch := first | assumption | omega | (simp; done) | rfl) [callD, outOf, evS.eq_1, evS.eq_2, evS.eq_3, evS.eq_4, evS.eq_5, evS.eq_6, evS.eq_7, evS.eq_10, evS.eq_11, evS.eq_12, evS.eq_13, evS.eq_14, evS.eq_15, evS.eq_16, evS.eq_17, evS.eq_18, evS.eq_19, evSs, evE.eq_1, evE.eq_2, evE.eq_3, evE.eq_4, evE.eq_5, evE.eq_6, evE.eq_7, evE.eq_8, evE.eq_9, evE.eq_10, evE.eq_11, evE.eq_12, evE.eq_13, evE.eq_14, evE.eq_15, evE.eq_16, evE.eq_17, evE.eq_18, evE.eq_19, evE.eq_20, evE.eq_21, evE.eq_22, evE.eq_23, evE.eq_24, evE.eq_25, evE.eq_29, evE.eq_30, evE.eq_31, evEs, evPs, evRs, putAll, truD, Out.res, retZ, pend, partE, ZZ.S.get, ZZ.S.put, Pd.get, getAll, idxD, sliD, binD, cmpD, fnD, fxD, mtD, isiD, line, iterE, iterD, frRun, asg.eq_1, asg.eq_2, asgs.eq_1, asgs.eq_2, ZZ.S.ownL, setD, appD, extD, augD, seqOf, unwipe, wipeS, Slot.keepF, D.bls, tyMt] <;> first | rfl | exact ⟨rfl, rfl⟩ | skip)) ?_
  generalize Sn a b M = S
  have ha := h.2.1
  have hb := h.2.2.2
  refine sFr (I := fun pre s => ∃ s5, s = ⟨[.fz (gr a b), .fz (.int M), .fz (.int f), .fz (.int S), .ow (.lst (pre.map (rowB b S f))), s5, .un], hd⟩) (fun (k : Nat) => D.int (k : Int)) (List.range a) (it_rng (j := (a : Int)) (by (simp (disch := first | assumption | omega | (simp; done) | rfl) [callD, outOf, evS.eq_1, evS.eq_2, evS.eq_3, evS.eq_4, evS.eq_5, evS.eq_6, evS.eq_7, evS.eq_10, evS.eq_11, evS.eq_12, evS.eq_13, evS.eq_14, evS.eq_15, evS.eq_16, evS.eq_17, evS.eq_18, evS.eq_19, evSs, evE.eq_1, evE.eq_2, evE.eq_3, evE.eq_4, evE.eq_5, evE.eq_6, evE.eq_7, evE.eq_8, evE.eq_9, evE.eq_10, evE.eq_11, evE.eq_12, evE.eq_13, evE.eq_14, evE.eq_15, evE.eq_16, evE.eq_17, evE.eq_18, evE.eq_19, evE.eq_20, evE.eq_21, evE.eq_22, evE.eq_23, evE.eq_24, evE.eq_25, evE.eq_29, evE.eq_30, evE.eq_31, evEs, evPs, evRs, putAll, truD, Out.res, retZ, pend, partE, ZZ.S.get, ZZ.S.put, Pd.get, getAll, idxD, sliD, binD, cmpD, fnD, fxD, mtD, isiD, line, iterE, iterD, frRun, asg.eq_1, asg.eq_2, asgs.eq_1, asgs.eq_2, ZZ.S.ownL, setD, appD, extD, augD, seqOf, unwipe, wipeS, Slot.keepF, D.bls, tyMt] <;> first | rfl | exact ⟨rfl, rfl⟩ | skip)) (by omega) (by omega)) ?_ ?_ ?_
  · exact ⟨_, rfl⟩
  · rintro pre r post _ e ⟨s5, rfl⟩
    obtain ⟨ra, rb⟩ := range_at e
    refine ⟨_, by simp (disch := first | assumption | omega | (simp; done) | rfl) [callD, outOf, evS.eq_1, evS.eq_2, evS.eq_3, evS.eq_4, evS.eq_5, evS.eq_6, evS.eq_7, evS.eq_10, evS.eq_11, evS.eq_12, evS.eq_13, evS.eq_14, evS.eq_15, evS.eq_16, evS.eq_17, evS.eq_18, evS.eq_19, evSs, evE.eq_1, evE.eq_2, evE.eq_3, evE.eq_4, evE.eq_5, evE.eq_6, evE.eq_7, evE.eq_8, evE.eq_9, evE.eq_10, evE.eq_11, evE.eq_12, evE.eq_13, evE.eq_14, evE.eq_15, evE.eq_16, evE.eq_17, evE.eq_18, evE.eq_19, evE.eq_20, evE.eq_21, evE.eq_22, evE.eq_23, evE.eq_24, evE.eq_25, evE.eq_29, evE.eq_30, evE.eq_31, evEs, evPs, evRs, putAll, truD, Out.res, retZ, pend, partE, ZZ.S.get, ZZ.S.put, Pd.get, getAll, idxD, sliD, binD, cmpD, fnD, fxD, mtD, isiD, line, iterE, iterD, frRun, asg.eq_1, asg.eq_2, asgs.eq_1, asgs.eq_2, ZZ.S.ownL, setD, appD, extD, augD, seqOf, unwipe, wipeS, Slot.keepF, D.bls, tyMt] <;> first | rfl | exact ⟨rfl, rfl⟩, ?_⟩
    have sb : small64 (b : Int) = true := sm_n (by omega)
    have lc := lc_one0 (G := gm n) (j := 6) (k := .rng1) (its := [.idx (.var 0) (.con (.int 1))]) (elt := .bin .add (.var 2) (.bin .mul (.bin .add (.bin .mul (.var 5) (.idx (.var 0) (.con (.int 1)))) (.var 6)) (.var 3))) (st := ⟨[.fz (gr a b), .fz (.int M), .fz (.int f), .fz (.int S), .ow (.lst (pre.map (rowB b S f))), .fz (.int r), .un], hd⟩) (st1 := ⟨[.fz (gr a b), .fz (.int M), .fz (.int f), .fz (.int S), .ow (.lst (pre.map (rowB b S f))), .fz (.int r), .un], hd⟩) (fun (k : Nat) => D.int (k : Int)) (fun c => .int (ent b S f r c)) (List.range b) (it_rng (j := (b : Int)) (by (simp (disch := first | assumption | omega | (simp; done) | rfl) [callD, outOf, evS.eq_1, evS.eq_2, evS.eq_3, evS.eq_4, evS.eq_5, evS.eq_6, evS.eq_7, evS.eq_10, evS.eq_11, evS.eq_12, evS.eq_13, evS.eq_14, evS.eq_15, evS.eq_16, evS.eq_17, evS.eq_18, evS.eq_19, evSs, evE.eq_1, evE.eq_2, evE.eq_3, evE.eq_4, evE.eq_5, evE.eq_6, evE.eq_7, evE.eq_8, evE.eq_9, evE.eq_10, evE.eq_11, evE.eq_12, evE.eq_13, evE.eq_14, evE.eq_15, evE.eq_16, evE.eq_17, evE.eq_18, evE.eq_19, evE.eq_20, evE.eq_21, evE.eq_22, evE.eq_23, evE.eq_24, evE.eq_25, evE.eq_29, evE.eq_30, evE.eq_31, evEs, evPs, evRs, putAll, truD, Out.res, retZ, pend, partE, ZZ.S.get, ZZ.S.put, Pd.get, getAll, idxD, sliD, binD, cmpD, fnD, fxD, mtD, isiD, line, iterE, iterD, frRun, asg.eq_1, asg.eq_2, asgs.eq_1, asgs.eq_2, ZZ.S.ownL, setD, appD, extD, augD, seqOf, unwipe, wipeS, Slot.keepF, D.bls, tyMt] <;> first | rfl | exact ⟨rfl, rfl⟩ | skip)) (by omega) (by omega)) (by rw [List.length_range]; omega) (fun c hc => by
      have hc := List.mem_range.mp hc
      have hm : r * b ≤ 64 := Nat.mul_le_mul (show r ≤ 8 by omega) hb
      have sx : small64 ((r : Int) * (b : Int) + (c : Int)) = true := by
        have : small64 ((r * b + c : Nat) : Int) = true := sm_n (by omega)
        rwa [Int.natCast_add, Int.natCast_mul] at this
      simp (disch := first | assumption | omega | (simp; done) | rfl) [callD, outOf, evS.eq_1, evS.eq_2, evS.eq_3, evS.eq_4, evS.eq_5, evS.eq_6, evS.eq_7, evS.eq_10, evS.eq_11, evS.eq_12, evS.eq_13, evS.eq_14, evS.eq_15, evS.eq_16, evS.eq_17, evS.eq_18, evS.eq_19, evSs, evE.eq_1, evE.eq_2, evE.eq_3, evE.eq_4, evE.eq_5, evE.eq_6, evE.eq_7, evE.eq_8, evE.eq_9, evE.eq_10, evE.eq_11, evE.eq_12, evE.eq_13, evE.eq_14, evE.eq_15, evE.eq_16, evE.eq_17, evE.eq_18, evE.eq_19, evE.eq_20, evE.eq_21, evE.eq_22, evE.eq_23, evE.eq_24, evE.eq_25, evE.eq_29, evE.eq_30, evE.eq_31, evEs, evPs, evRs, putAll, truD, Out.res, retZ, pend, partE, ZZ.S.get, ZZ.S.put, Pd.get, getAll, idxD, sliD, binD, cmpD, fnD, fxD, mtD, isiD, line, iterE, iterD, frRun, asg.eq_1, asg.eq_2, asgs.eq_1, asgs.eq_2, ZZ.S.ownL, setD, appD, extD, augD, seqOf, unwipe, wipeS, Slot.keepF, D.bls, tyMt, sb, sx]
      rfl)
    have hln : pre.length < 16777216 := by omega
    refine sNx (by (simp (disch := first | assumption | omega | (simp; done) | rfl) [callD, outOf, evS.eq_1, evS.eq_2, evS.eq_3, evS.eq_4, evS.eq_5, evS.eq_6, evS.eq_7, evS.eq_10, evS.eq_11, evS.eq_12, evS.eq_13, evS.eq_14, evS.eq_15, evS.eq_16, evS.eq_17, evS.eq_18, evS.eq_19, evSs, evE.eq_1, evE.eq_2, evE.eq_3, evE.eq_4, evE.eq_5, evE.eq_6, evE.eq_7, evE.eq_8, evE.eq_9, evE.eq_10, evE.eq_11, evE.eq_12, evE.eq_13, evE.eq_14, evE.eq_15, evE.eq_16, evE.eq_17, evE.eq_18, evE.eq_19, evE.eq_20, evE.eq_21, evE.eq_22, evE.eq_23, evE.eq_24, evE.eq_25, evE.eq_29, evE.eq_30, evE.eq_31, evEs, evPs, evRs, putAll, truD, Out.res, retZ, pend, partE, ZZ.S.get, ZZ.S.put, Pd.get, getAll, idxD, sliD, binD, cmpD, fnD, fxD, mtD, isiD, line, iterE, iterD, frRun, asg.eq_1, asg.eq_2, asgs.eq_1, asgs.eq_2, ZZ.S.ownL, setD, appD, extD, augD, seqOf, unwipe, wipeS, Slot.keepF, D.bls, tyMt, lc, hln] <;> first | rfl | exact ⟨rfl, rfl⟩ | skip)) ?_
    rw [show pre.map (rowB b S f) ++ [D.tup ((List.range b).map fun c => .int (ent b S f r c))] = (pre ++ [r]).map (rowB b S f) by rw [List.map_append]; rfl]
    exact sNil (.inl ⟨_, .inl rfl, _, rfl⟩)
  · rintro _ ⟨s5, rfl⟩
    refine sRet (by (simp (disch := first | assumption | omega | (simp; done) | rfl) [callD, outOf, evS.eq_1, evS.eq_2, evS.eq_3, evS.eq_4, evS.eq_5, evS.eq_6, evS.eq_7, evS.eq_10, evS.eq_11, evS.eq_12, evS.eq_13, evS.eq_14, evS.eq_15, evS.eq_16, evS.eq_17, evS.eq_18, evS.eq_19, evSs, evE.eq_1, evE.eq_2, evE.eq_3, evE.eq_4, evE.eq_5, evE.eq_6, evE.eq_7, evE.eq_8, evE.eq_9, evE.eq_10, evE.eq_11, evE.eq_12, evE.eq_13, evE.eq_14, evE.eq_15, evE.eq_16, evE.eq_17, evE.eq_18, evE.eq_19, evE.eq_20, evE.eq_21, evE.eq_22, evE.eq_23, evE.eq_24, evE.eq_25, evE.eq_29, evE.eq_30, evE.eq_31, evEs, evPs, evRs, putAll, truD, Out.res, retZ, pend, partE, ZZ.S.get, ZZ.S.put, Pd.get, getAll, idxD, sliD, binD, cmpD, fnD, fxD, mtD, isiD, line, iterE, iterD, frRun, asg.eq_1, asg.eq_2, asgs.eq_1, asgs.eq_2, ZZ.S.ownL, setD, appD, extD, augD, seqOf, unwipe, wipeS, Slot.keepF, D.bls, tyMt] <;> first | rfl | exact ⟨rfl, rfl⟩ | skip)) ?_
    rfl
theorem c_stamped {m : Nat} (hm : 7 ≤ m) {a b M : Nat} (h : GrOk a b) (h1 : 1 ≤ M) (h2 : M ≤ 1000000) (f : Int) (f0 : 0 ≤ f) (f1 : f ≤ 1000000000) (s : Nat) (hs : s < Sn a b M) (hd : Option (List D)) : (gm m).cal 9 [gr a b, .int M, .int f, .int s] hd = .ok (.f (stD a b (Sn a b M) M f s)) hd := by
  (obtain ⟨n, rfl⟩ : ∃ n, m = n + 1 := ⟨m - 1, by omega⟩); rw [cal_eq (d := ⟨"stamped", 7, 4, b9⟩) rfl]; refine callE rfl ?_; show Sd _ (evSs _ b9 _); unfold b9
  have k1 := c_check_grid (m := n) (by omega) h hd
  have k2 := num_ok (m := n) (by omega) M 1 1000000 (by omega) (by omega) hd
  have k3 := num_ok (m := n) (by omega) f 0 1000000000 f0 f1 hd
  have k4 := c_sheets (m := n) (by omega) h h1 h2 hd
  have k5 := num_ok (m := n) (by omega) s 0 ((Sn a b M : Int) - 1) (by omega) (by omega) hd
  have k6 := c_begins (m := n) (by omega) h h1 h2 f f0 f1 hd
  refine sNx (by (simp (disch := first | assumption | omega | (simp; done) | rfl) [callD, outOf, evS.eq_1, evS.eq_2, evS.eq_3, evS.eq_4, evS.eq_5, evS.eq_6, evS.eq_7, evS.eq_10, evS.eq_11, evS.eq_12, evS.eq_13, evS.eq_14, evS.eq_15, evS.eq_16, evS.eq_17, evS.eq_18, evS.eq_19, evSs, evE.eq_1, evE.eq_2, evE.eq_3, evE.eq_4, evE.eq_5, evE.eq_6, evE.eq_7, evE.eq_8, evE.eq_9, evE.eq_10, evE.eq_11, evE.eq_12, evE.eq_13, evE.eq_14, evE.eq_15, evE.eq_16, evE.eq_17, evE.eq_18, evE.eq_19, evE.eq_20, evE.eq_21, evE.eq_22, evE.eq_23, evE.eq_24, evE.eq_25, evE.eq_29, evE.eq_30, evE.eq_31, evEs, evPs, evRs, putAll, truD, Out.res, retZ, pend, partE, ZZ.S.get, ZZ.S.put, Pd.get, getAll, idxD, sliD, binD, cmpD, fnD, fxD, mtD, isiD, line, iterE, iterD, frRun, asg.eq_1, asg.eq_2, asgs.eq_1, asgs.eq_2, ZZ.S.ownL, setD, appD, extD, augD, seqOf, unwipe, wipeS, Slot.keepF, D.bls, tyMt, k1] <;> first | rfl | exact ⟨rfl, rfl⟩ | skip)) ?_
  refine sNx (by (simp (disch := first | assumption | omega | (simp; done) | rfl) [callD, outOf, evS.eq_1, evS.eq_2, evS.eq_3, evS.eq_4, evS.eq_5, evS.eq_6, evS.eq_7, evS.eq_10, evS.eq_11, evS.eq_12, evS.eq_13, evS.eq_14, evS.eq_15, evS.eq_16, evS.eq_17, evS.eq_18, evS.eq_19, evSs, evE.eq_1, evE.eq_2, evE.eq_3, evE.eq_4, evE.eq_5, evE.eq_6, evE.eq_7, evE.eq_8, evE.eq_9, evE.eq_10, evE.eq_11, evE.eq_12, evE.eq_13, evE.eq_14, evE.eq_15, evE.eq_16, evE.eq_17, evE.eq_18, evE.eq_19, evE.eq_20, evE.eq_21, evE.eq_22, evE.eq_23, evE.eq_24, evE.eq_25, evE.eq_29, evE.eq_30, evE.eq_31, evEs, evPs, evRs, putAll, truD, Out.res, retZ, pend, partE, ZZ.S.get, ZZ.S.put, Pd.get, getAll, idxD, sliD, binD, cmpD, fnD, fxD, mtD, isiD, line, iterE, iterD, frRun, asg.eq_1, asg.eq_2, asgs.eq_1, asgs.eq_2, ZZ.S.ownL, setD, appD, extD, augD, seqOf, unwipe, wipeS, Slot.keepF, D.bls, tyMt, k2] <;> first | rfl | exact ⟨rfl, rfl⟩ | skip)) ?_
  refine sNx (by (simp (disch := first | assumption | omega | (simp; done) | rfl) [callD, outOf, evS.eq_1, evS.eq_2, evS.eq_3, evS.eq_4, evS.eq_5, evS.eq_6, evS.eq_7, evS.eq_10, evS.eq_11, evS.eq_12, evS.eq_13, evS.eq_14, evS.eq_15, evS.eq_16, evS.eq_17, evS.eq_18, evS.eq_19, evSs, evE.eq_1, evE.eq_2, evE.eq_3, evE.eq_4, evE.eq_5, evE.eq_6, evE.eq_7, evE.eq_8, evE.eq_9, evE.eq_10, evE.eq_11, evE.eq_12, evE.eq_13, evE.eq_14, evE.eq_15, evE.eq_16, evE.eq_17, evE.eq_18, evE.eq_19, evE.eq_20, evE.eq_21, evE.eq_22, evE.eq_23, evE.eq_24, evE.eq_25, evE.eq_29, evE.eq_30, evE.eq_31, evEs, evPs, evRs, putAll, truD, Out.res, retZ, pend, partE, ZZ.S.get, ZZ.S.put, Pd.get, getAll, idxD, sliD, binD, cmpD, fnD, fxD, mtD, isiD, line, iterE, iterD, frRun, asg.eq_1, asg.eq_2, asgs.eq_1, asgs.eq_2, ZZ.S.ownL, setD, appD, extD, augD, seqOf, unwipe, wipeS, Slot.keepF, D.bls, tyMt, k3] <;> first | rfl | exact ⟨rfl, rfl⟩ | skip)) ?_
  refine sNx (by (simp (disch := first | assumption | omega | (simp; done) | rfl) [callD, outOf, evS.eq_1, evS.eq_2, evS.eq_3, evS.eq_4, evS.eq_5, evS.eq_6, evS.eq_7, evS.eq_10, evS.eq_11, evS.eq_12, evS.eq_13, evS.eq_14, evS.eq_15, evS.eq_16, evS.eq_17, evS.eq_18, evS.eq_19, evSs, evE.eq_1, evE.eq_2, evE.eq_3, evE.eq_4, evE.eq_5, evE.eq_6, evE.eq_7, evE.eq_8, evE.eq_9, evE.eq_10, evE.eq_11, evE.eq_12, evE.eq_13, evE.eq_14, evE.eq_15, evE.eq_16, evE.eq_17, evE.eq_18, evE.eq_19, evE.eq_20, evE.eq_21, evE.eq_22, evE.eq_23, evE.eq_24, evE.eq_25, evE.eq_29, evE.eq_30, evE.eq_31, evEs, evPs, evRs, putAll, truD, Out.res, retZ, pend, partE, ZZ.S.get, ZZ.S.put, Pd.get, getAll, idxD, sliD, binD, cmpD, fnD, fxD, mtD, isiD, line, iterE, iterD, frRun, asg.eq_1, asg.eq_2, asgs.eq_1, asgs.eq_2, ZZ.S.ownL, setD, appD, extD, augD, seqOf, unwipe, wipeS, Slot.keepF, D.bls, tyMt, k4, k5] <;> first | rfl | exact ⟨rfl, rfl⟩ | skip)) ?_
  refine sNx (by (simp (disch := first | assumption | omega | (simp; done) | rfl) [callD, outOf, evS.eq_1, evS.eq_2, evS.eq_3, evS.eq_4, evS.eq_5, evS.eq_6, evS.eq_7, evS.eq_10, evS.eq_11, evS.eq_12, evS.eq_13, evS.eq_14, evS.eq_15, evS.eq_16, evS.eq_17, evS.eq_18, evS.eq_19, evSs, evE.eq_1, evE.eq_2, evE.eq_3, evE.eq_4, evE.eq_5, evE.eq_6, evE.eq_7, evE.eq_8, evE.eq_9, evE.eq_10, evE.eq_11, evE.eq_12, evE.eq_13, evE.eq_14, evE.eq_15, evE.eq_16, evE.eq_17, evE.eq_18, evE.eq_19, evE.eq_20, evE.eq_21, evE.eq_22, evE.eq_23, evE.eq_24, evE.eq_25, evE.eq_29, evE.eq_30, evE.eq_31, evEs, evPs, evRs, putAll, truD, Out.res, retZ, pend, partE, ZZ.S.get, ZZ.S.put, Pd.get, getAll, idxD, sliD, binD, cmpD, fnD, fxD, mtD, isiD, line, iterE, iterD, frRun, asg.eq_1, asg.eq_2, asgs.eq_1, asgs.eq_2, ZZ.S.ownL, setD, appD, extD, augD, seqOf, unwipe, wipeS, Slot.keepF, D.bls, tyMt] <;> first | rfl | exact ⟨rfl, rfl⟩ | skip)) ?_
  generalize Sn a b M = S at k6
  have ha := h.2.1
  have hb := h.2.2.2
  refine sFr (I := fun pre st => ∃ s5, st = ⟨[.fz (gr a b), .fz (.int M), .fz (.int f), .fz (.int s), .ow (.lst (pre.map (rowS b S M f s))), s5, .un], hd⟩) (rowB b S f) (List.range a) (by simp (disch := first | assumption | omega | (simp; done) | rfl) [callD, outOf, evS.eq_1, evS.eq_2, evS.eq_3, evS.eq_4, evS.eq_5, evS.eq_6, evS.eq_7, evS.eq_10, evS.eq_11, evS.eq_12, evS.eq_13, evS.eq_14, evS.eq_15, evS.eq_16, evS.eq_17, evS.eq_18, evS.eq_19, evSs, evE.eq_1, evE.eq_2, evE.eq_3, evE.eq_4, evE.eq_5, evE.eq_6, evE.eq_7, evE.eq_8, evE.eq_9, evE.eq_10, evE.eq_11, evE.eq_12, evE.eq_13, evE.eq_14, evE.eq_15, evE.eq_16, evE.eq_17, evE.eq_18, evE.eq_19, evE.eq_20, evE.eq_21, evE.eq_22, evE.eq_23, evE.eq_24, evE.eq_25, evE.eq_29, evE.eq_30, evE.eq_31, evEs, evPs, evRs, putAll, truD, Out.res, retZ, pend, partE, ZZ.S.get, ZZ.S.put, Pd.get, getAll, idxD, sliD, binD, cmpD, fnD, fxD, mtD, isiD, line, iterE, iterD, frRun, asg.eq_1, asg.eq_2, asgs.eq_1, asgs.eq_2, ZZ.S.ownL, setD, appD, extD, augD, seqOf, unwipe, wipeS, Slot.keepF, D.bls, tyMt, k6, begD] <;> first | rfl | exact ⟨rfl, rfl⟩) ?_ ?_ ?_
  · exact ⟨_, rfl⟩
  · rintro pre r post _ e ⟨s5, rfl⟩
    obtain ⟨ra, rb⟩ := range_at e
    refine ⟨_, by simp (disch := first | assumption | omega | (simp; done) | rfl) [callD, outOf, evS.eq_1, evS.eq_2, evS.eq_3, evS.eq_4, evS.eq_5, evS.eq_6, evS.eq_7, evS.eq_10, evS.eq_11, evS.eq_12, evS.eq_13, evS.eq_14, evS.eq_15, evS.eq_16, evS.eq_17, evS.eq_18, evS.eq_19, evSs, evE.eq_1, evE.eq_2, evE.eq_3, evE.eq_4, evE.eq_5, evE.eq_6, evE.eq_7, evE.eq_8, evE.eq_9, evE.eq_10, evE.eq_11, evE.eq_12, evE.eq_13, evE.eq_14, evE.eq_15, evE.eq_16, evE.eq_17, evE.eq_18, evE.eq_19, evE.eq_20, evE.eq_21, evE.eq_22, evE.eq_23, evE.eq_24, evE.eq_25, evE.eq_29, evE.eq_30, evE.eq_31, evEs, evPs, evRs, putAll, truD, Out.res, retZ, pend, partE, ZZ.S.get, ZZ.S.put, Pd.get, getAll, idxD, sliD, binD, cmpD, fnD, fxD, mtD, isiD, line, iterE, iterD, frRun, asg.eq_1, asg.eq_2, asgs.eq_1, asgs.eq_2, ZZ.S.ownL, setD, appD, extD, augD, seqOf, unwipe, wipeS, Slot.keepF, D.bls, tyMt] <;> first | rfl | exact ⟨rfl, rfl⟩, ?_⟩
    have lc := lc_one0 (G := gm n) (j := 6) (k := .val) (its := [.var 5]) (elt := .ife (.cmp .lt (.bin .add (.var 6) (.var 3)) (.bin .add (.var 2) (.var 1))) (.bin .add (.var 6) (.var 3)) (.con .non)) (st := ⟨[.fz (gr a b), .fz (.int M), .fz (.int f), .fz (.int s), .ow (.lst (pre.map (rowS b S M f s))), .fz (rowB b S f r), .un], hd⟩) (st1 := ⟨[.fz (gr a b), .fz (.int M), .fz (.int f), .fz (.int s), .ow (.lst (pre.map (rowS b S M f s))), .fz (rowB b S f r), .un], hd⟩) (fun c => D.int (ent b S f r c)) (fun c => cut (f + (M : Int)) (ent b S f r c + (s : Int))) (List.range b) (by simp (disch := first | assumption | omega | (simp; done) | rfl) [callD, outOf, evS.eq_1, evS.eq_2, evS.eq_3, evS.eq_4, evS.eq_5, evS.eq_6, evS.eq_7, evS.eq_10, evS.eq_11, evS.eq_12, evS.eq_13, evS.eq_14, evS.eq_15, evS.eq_16, evS.eq_17, evS.eq_18, evS.eq_19, evSs, evE.eq_1, evE.eq_2, evE.eq_3, evE.eq_4, evE.eq_5, evE.eq_6, evE.eq_7, evE.eq_8, evE.eq_9, evE.eq_10, evE.eq_11, evE.eq_12, evE.eq_13, evE.eq_14, evE.eq_15, evE.eq_16, evE.eq_17, evE.eq_18, evE.eq_19, evE.eq_20, evE.eq_21, evE.eq_22, evE.eq_23, evE.eq_24, evE.eq_25, evE.eq_29, evE.eq_30, evE.eq_31, evEs, evPs, evRs, putAll, truD, Out.res, retZ, pend, partE, ZZ.S.get, ZZ.S.put, Pd.get, getAll, idxD, sliD, binD, cmpD, fnD, fxD, mtD, isiD, line, iterE, iterD, frRun, asg.eq_1, asg.eq_2, asgs.eq_1, asgs.eq_2, ZZ.S.ownL, setD, appD, extD, augD, seqOf, unwipe, wipeS, Slot.keepF, D.bls, tyMt, rowB] <;> first | rfl | exact ⟨rfl, rfl⟩) (by rw [List.length_range]; omega) (fun c hc => by
      by_cases hlt : ent b S f r c + (s : Int) < f + (M : Int)
      · simp (disch := first | assumption | omega | (simp; done) | rfl) [callD, outOf, evS.eq_1, evS.eq_2, evS.eq_3, evS.eq_4, evS.eq_5, evS.eq_6, evS.eq_7, evS.eq_10, evS.eq_11, evS.eq_12, evS.eq_13, evS.eq_14, evS.eq_15, evS.eq_16, evS.eq_17, evS.eq_18, evS.eq_19, evSs, evE.eq_1, evE.eq_2, evE.eq_3, evE.eq_4, evE.eq_5, evE.eq_6, evE.eq_7, evE.eq_8, evE.eq_9, evE.eq_10, evE.eq_11, evE.eq_12, evE.eq_13, evE.eq_14, evE.eq_15, evE.eq_16, evE.eq_17, evE.eq_18, evE.eq_19, evE.eq_20, evE.eq_21, evE.eq_22, evE.eq_23, evE.eq_24, evE.eq_25, evE.eq_29, evE.eq_30, evE.eq_31, evEs, evPs, evRs, putAll, truD, Out.res, retZ, pend, partE, ZZ.S.get, ZZ.S.put, Pd.get, getAll, idxD, sliD, binD, cmpD, fnD, fxD, mtD, isiD, line, iterE, iterD, frRun, asg.eq_1, asg.eq_2, asgs.eq_1, asgs.eq_2, ZZ.S.ownL, setD, appD, extD, augD, seqOf, unwipe, wipeS, Slot.keepF, D.bls, tyMt, hlt, cut, ltD]
      · simp (disch := first | assumption | omega | (simp; done) | rfl) [callD, outOf, evS.eq_1, evS.eq_2, evS.eq_3, evS.eq_4, evS.eq_5, evS.eq_6, evS.eq_7, evS.eq_10, evS.eq_11, evS.eq_12, evS.eq_13, evS.eq_14, evS.eq_15, evS.eq_16, evS.eq_17, evS.eq_18, evS.eq_19, evSs, evE.eq_1, evE.eq_2, evE.eq_3, evE.eq_4, evE.eq_5, evE.eq_6, evE.eq_7, evE.eq_8, evE.eq_9, evE.eq_10, evE.eq_11, evE.eq_12, evE.eq_13, evE.eq_14, evE.eq_15, evE.eq_16, evE.eq_17, evE.eq_18, evE.eq_19, evE.eq_20, evE.eq_21, evE.eq_22, evE.eq_23, evE.eq_24, evE.eq_25, evE.eq_29, evE.eq_30, evE.eq_31, evEs, evPs, evRs, putAll, truD, Out.res, retZ, pend, partE, ZZ.S.get, ZZ.S.put, Pd.get, getAll, idxD, sliD, binD, cmpD, fnD, fxD, mtD, isiD, line, iterE, iterD, frRun, asg.eq_1, asg.eq_2, asgs.eq_1, asgs.eq_2, ZZ.S.ownL, setD, appD, extD, augD, seqOf, unwipe, wipeS, Slot.keepF, D.bls, tyMt, hlt, cut, ltD])
    have hln : pre.length < 16777216 := by omega
    refine sNx (by (simp (disch := first | assumption | omega | (simp; done) | rfl) [callD, outOf, evS.eq_1, evS.eq_2, evS.eq_3, evS.eq_4, evS.eq_5, evS.eq_6, evS.eq_7, evS.eq_10, evS.eq_11, evS.eq_12, evS.eq_13, evS.eq_14, evS.eq_15, evS.eq_16, evS.eq_17, evS.eq_18, evS.eq_19, evSs, evE.eq_1, evE.eq_2, evE.eq_3, evE.eq_4, evE.eq_5, evE.eq_6, evE.eq_7, evE.eq_8, evE.eq_9, evE.eq_10, evE.eq_11, evE.eq_12, evE.eq_13, evE.eq_14, evE.eq_15, evE.eq_16, evE.eq_17, evE.eq_18, evE.eq_19, evE.eq_20, evE.eq_21, evE.eq_22, evE.eq_23, evE.eq_24, evE.eq_25, evE.eq_29, evE.eq_30, evE.eq_31, evEs, evPs, evRs, putAll, truD, Out.res, retZ, pend, partE, ZZ.S.get, ZZ.S.put, Pd.get, getAll, idxD, sliD, binD, cmpD, fnD, fxD, mtD, isiD, line, iterE, iterD, frRun, asg.eq_1, asg.eq_2, asgs.eq_1, asgs.eq_2, ZZ.S.ownL, setD, appD, extD, augD, seqOf, unwipe, wipeS, Slot.keepF, D.bls, tyMt, lc, hln] <;> first | rfl | exact ⟨rfl, rfl⟩ | skip)) ?_
    rw [show pre.map (rowS b S M f s) ++ [D.tup ((List.range b).map fun c => cut (f + (M : Int)) (ent b S f r c + (s : Int)))] = (pre ++ [r]).map (rowS b S M f s) by rw [List.map_append]; rfl]
    exact sNil (.inl ⟨_, .inl rfl, _, rfl⟩)
  · rintro _ ⟨s5, rfl⟩
    refine sRet (by (simp (disch := first | assumption | omega | (simp; done) | rfl) [callD, outOf, evS.eq_1, evS.eq_2, evS.eq_3, evS.eq_4, evS.eq_5, evS.eq_6, evS.eq_7, evS.eq_10, evS.eq_11, evS.eq_12, evS.eq_13, evS.eq_14, evS.eq_15, evS.eq_16, evS.eq_17, evS.eq_18, evS.eq_19, evSs, evE.eq_1, evE.eq_2, evE.eq_3, evE.eq_4, evE.eq_5, evE.eq_6, evE.eq_7, evE.eq_8, evE.eq_9, evE.eq_10, evE.eq_11, evE.eq_12, evE.eq_13, evE.eq_14, evE.eq_15, evE.eq_16, evE.eq_17, evE.eq_18, evE.eq_19, evE.eq_20, evE.eq_21, evE.eq_22, evE.eq_23, evE.eq_24, evE.eq_25, evE.eq_29, evE.eq_30, evE.eq_31, evEs, evPs, evRs, putAll, truD, Out.res, retZ, pend, partE, ZZ.S.get, ZZ.S.put, Pd.get, getAll, idxD, sliD, binD, cmpD, fnD, fxD, mtD, isiD, line, iterE, iterD, frRun, asg.eq_1, asg.eq_2, asgs.eq_1, asgs.eq_2, ZZ.S.ownL, setD, appD, extD, augD, seqOf, unwipe, wipeS, Slot.keepF, D.bls, tyMt] <;> first | rfl | exact ⟨rfl, rfl⟩ | skip)) ?_
    rfl
end ZZ.L

namespace ZZ.L
open PySem
def one (lim x : Int) : List Int := if x < lim then [x] else []
def cellI (b S M : Nat) (f : Int) (r c : Nat) : List Int := (List.range S).flatMap fun (s : Nat) => one (f + (M : Int)) (ent b S f r c + (s : Int))
def rowI (b S M : Nat) (f : Int) (r : Nat) : List Int := (List.range b).flatMap (cellI b S M f r)
def stI (a b S M : Nat) (f : Int) : List Int := (List.range a).flatMap (rowI b S M f)
theorem one_len (lim x : Int) : (one lim x).length ≤ 1 := by unfold one; split <;> simp
theorem cell_len {b S M : Nat} (f : Int) (r c : Nat) (h : S ≤ 200) : (cellI b S M f r c).length ≤ 200 := by
  have := fm_len (xs := List.range S) (F := fun (s : Nat) => one (f + (M : Int)) (ent b S f r c + (s : Int))) (K := 1) fun s _ => one_len _ _
  rw [List.length_range] at this
  exact Nat.le_trans this (by omega)
theorem row_len {b S M : Nat} (f : Int) (r : Nat) (h : S ≤ 200) (hb : b ≤ 8) : (rowI b S M f r).length ≤ 1600 := by
  have := fm_len (xs := List.range b) (F := cellI b S M f r) (K := 200) fun c _ => cell_len f r c h
  rw [List.length_range] at this
  exact Nat.le_trans this (by omega)
theorem c_stacked {m : Nat} (hm : 8 ≤ m) {a b M : Nat} (h : GrOk a b) (h1 : 1 ≤ M) (h2 : M ≤ 200) (f : Int) (f0 : 0 ≤ f) (f1 : f ≤ 1000000000) (hd : Option (List D)) : (gm m).cal 10 [gr a b, .int M, .int f] hd = .ok (.f (.tup ((stI a b (Sn a b M) M f).map .int))) hd := by
  (obtain ⟨n, rfl⟩ : ∃ n, m = n + 1 := ⟨m - 1, by omega⟩); rw [cal_eq (d := ⟨"stacked", 9, 3, b10⟩) rfl]; refine callE rfl ?_; show Sd _ (evSs _ b10 _); unfold b10
  have k1 := c_check_grid (m := n) (by omega) h hd
  have k2 := num_ok (m := n) (by omega) M 1 2000 (by omega) (by omega) hd
  have k3 := num_ok (m := n) (by omega) f 0 1000000000 f0 f1 hd
  have k4 := c_sheets (m := n) (by omega) h h1 (by omega) hd
  have k5 := fun s hs => c_stamped (m := n) (by omega) h h1 (by omega) f f0 f1 s hs hd
  refine sNx (by (simp (disch := first | assumption | omega | (simp; done) | rfl) [callD, outOf, evS.eq_1, evS.eq_2, evS.eq_3, evS.eq_4, evS.eq_5, evS.eq_6, evS.eq_7, evS.eq_10, evS.eq_11, evS.eq_12, evS.eq_13, evS.eq_14, evS.eq_15, evS.eq_16, evS.eq_17, evS.eq_18, evS.eq_19, evSs, evE.eq_1, evE.eq_2, evE.eq_3, evE.eq_4, evE.eq_5, evE.eq_6, evE.eq_7, evE.eq_8, evE.eq_9, evE.eq_10, evE.eq_11, evE.eq_12, evE.eq_13, evE.eq_14, evE.eq_15, evE.eq_16, evE.eq_17, evE.eq_18, evE.eq_19, evE.eq_20, evE.eq_21, evE.eq_22, evE.eq_23, evE.eq_24, evE.eq_25, evE.eq_29, evE.eq_30, evE.eq_31, evEs, evPs, evRs, putAll, truD, Out.res, retZ, pend, partE, ZZ.S.get, ZZ.S.put, Pd.get, getAll, idxD, sliD, binD, cmpD, fnD, fxD, mtD, isiD, line, iterE, iterD, frRun, asg.eq_1, asg.eq_2, asgs.eq_1, asgs.eq_2, ZZ.S.ownL, setD, appD, extD, augD, seqOf, unwipe, wipeS, Slot.keepF, D.bls, tyMt, k1] <;> first | rfl | exact ⟨rfl, rfl⟩ | skip)) ?_
  refine sNx (by (simp (disch := first | assumption | omega | (simp; done) | rfl) [callD, outOf, evS.eq_1, evS.eq_2, evS.eq_3, evS.eq_4, evS.eq_5, evS.eq_6, evS.eq_7, evS.eq_10, evS.eq_11, evS.eq_12, evS.eq_13, evS.eq_14, evS.eq_15, evS.eq_16, evS.eq_17, evS.eq_18, evS.eq_19, evSs, evE.eq_1, evE.eq_2, evE.eq_3, evE.eq_4, evE.eq_5, evE.eq_6, evE.eq_7, evE.eq_8, evE.eq_9, evE.eq_10, evE.eq_11, evE.eq_12, evE.eq_13, evE.eq_14, evE.eq_15, evE.eq_16, evE.eq_17, evE.eq_18, evE.eq_19, evE.eq_20, evE.eq_21, evE.eq_22, evE.eq_23, evE.eq_24, evE.eq_25, evE.eq_29, evE.eq_30, evE.eq_31, evEs, evPs, evRs, putAll, truD, Out.res, retZ, pend, partE, ZZ.S.get, ZZ.S.put, Pd.get, getAll, idxD, sliD, binD, cmpD, fnD, fxD, mtD, isiD, line, iterE, iterD, frRun, asg.eq_1, asg.eq_2, asgs.eq_1, asgs.eq_2, ZZ.S.ownL, setD, appD, extD, augD, seqOf, unwipe, wipeS, Slot.keepF, D.bls, tyMt, k2] <;> first | rfl | exact ⟨rfl, rfl⟩ | skip)) ?_
  refine sNx (by (simp (disch := first | assumption | omega | (simp; done) | rfl) [callD, outOf, evS.eq_1, evS.eq_2, evS.eq_3, evS.eq_4, evS.eq_5, evS.eq_6, evS.eq_7, evS.eq_10, evS.eq_11, evS.eq_12, evS.eq_13, evS.eq_14, evS.eq_15, evS.eq_16, evS.eq_17, evS.eq_18, evS.eq_19, evSs, evE.eq_1, evE.eq_2, evE.eq_3, evE.eq_4, evE.eq_5, evE.eq_6, evE.eq_7, evE.eq_8, evE.eq_9, evE.eq_10, evE.eq_11, evE.eq_12, evE.eq_13, evE.eq_14, evE.eq_15, evE.eq_16, evE.eq_17, evE.eq_18, evE.eq_19, evE.eq_20, evE.eq_21, evE.eq_22, evE.eq_23, evE.eq_24, evE.eq_25, evE.eq_29, evE.eq_30, evE.eq_31, evEs, evPs, evRs, putAll, truD, Out.res, retZ, pend, partE, ZZ.S.get, ZZ.S.put, Pd.get, getAll, idxD, sliD, binD, cmpD, fnD, fxD, mtD, isiD, line, iterE, iterD, frRun, asg.eq_1, asg.eq_2, asgs.eq_1, asgs.eq_2, ZZ.S.ownL, setD, appD, extD, augD, seqOf, unwipe, wipeS, Slot.keepF, D.bls, tyMt, k3] <;> first | rfl | exact ⟨rfl, rfl⟩ | skip)) ?_
  refine sNx (by (simp (disch := first | assumption | omega | (simp; done) | rfl) [callD, outOf, evS.eq_1, evS.eq_2, evS.eq_3, evS.eq_4, evS.eq_5, evS.eq_6, evS.eq_7, evS.eq_10, evS.eq_11, evS.eq_12, evS.eq_13, evS.eq_14, evS.eq_15, evS.eq_16, evS.eq_17, evS.eq_18, evS.eq_19, evSs, evE.eq_1, evE.eq_2, evE.eq_3, evE.eq_4, evE.eq_5, evE.eq_6, evE.eq_7, evE.eq_8, evE.eq_9, evE.eq_10, evE.eq_11, evE.eq_12, evE.eq_13, evE.eq_14, evE.eq_15, evE.eq_16, evE.eq_17, evE.eq_18, evE.eq_19, evE.eq_20, evE.eq_21, evE.eq_22, evE.eq_23, evE.eq_24, evE.eq_25, evE.eq_29, evE.eq_30, evE.eq_31, evEs, evPs, evRs, putAll, truD, Out.res, retZ, pend, partE, ZZ.S.get, ZZ.S.put, Pd.get, getAll, idxD, sliD, binD, cmpD, fnD, fxD, mtD, isiD, line, iterE, iterD, frRun, asg.eq_1, asg.eq_2, asgs.eq_1, asgs.eq_2, ZZ.S.ownL, setD, appD, extD, augD, seqOf, unwipe, wipeS, Slot.keepF, D.bls, tyMt, k4] <;> first | rfl | exact ⟨rfl, rfl⟩ | skip)) ?_
  obtain ⟨S1, S2, S3⟩ := Sn_pos h h1
  generalize Sn a b M = S at *
  have ha := h.2.1
  have hb := h.2.2.2
  refine sFr (I := fun pre st => ∃ (A : List Int) (s5 s6 s7 s8 : Slot), st = ⟨[.fz (gr a b), .fz (.int M), .fz (.int f), .fz (.int S), .ow (.lst (A.map .int)), s5, s6, s7, s8], hd⟩ ∧ A = pre.flatMap (rowI b S M f)) (fun (k : Nat) => D.int (k : Int)) (List.range a) (it_rng (j := (a : Int)) (by (simp (disch := first | assumption | omega | (simp; done) | rfl) [callD, outOf, evS.eq_1, evS.eq_2, evS.eq_3, evS.eq_4, evS.eq_5, evS.eq_6, evS.eq_7, evS.eq_10, evS.eq_11, evS.eq_12, evS.eq_13, evS.eq_14, evS.eq_15, evS.eq_16, evS.eq_17, evS.eq_18, evS.eq_19, evSs, evE.eq_1, evE.eq_2, evE.eq_3, evE.eq_4, evE.eq_5, evE.eq_6, evE.eq_7, evE.eq_8, evE.eq_9, evE.eq_10, evE.eq_11, evE.eq_12, evE.eq_13, evE.eq_14, evE.eq_15, evE.eq_16, evE.eq_17, evE.eq_18, evE.eq_19, evE.eq_20, evE.eq_21, evE.eq_22, evE.eq_23, evE.eq_24, evE.eq_25, evE.eq_29, evE.eq_30, evE.eq_31, evEs, evPs, evRs, putAll, truD, Out.res, retZ, pend, partE, ZZ.S.get, ZZ.S.put, Pd.get, getAll, idxD, sliD, binD, cmpD, fnD, fxD, mtD, isiD, line, iterE, iterD, frRun, asg.eq_1, asg.eq_2, asgs.eq_1, asgs.eq_2, ZZ.S.ownL, setD, appD, extD, augD, seqOf, unwipe, wipeS, Slot.keepF, D.bls, tyMt] <;> first | rfl | exact ⟨rfl, rfl⟩ | skip)) (by omega) (by omega)) ?_ ?_ ?_
  · exact ⟨[], _, _, _, _, rfl, rfl⟩
  · rintro pre r post _ e ⟨A, s5, s6, s7, s8, rfl, hA⟩
    obtain ⟨ra, rb⟩ := range_at e
    refine ⟨_, by (simp (disch := first | assumption | omega | (simp; done) | rfl) [callD, outOf, evS.eq_1, evS.eq_2, evS.eq_3, evS.eq_4, evS.eq_5, evS.eq_6, evS.eq_7, evS.eq_10, evS.eq_11, evS.eq_12, evS.eq_13, evS.eq_14, evS.eq_15, evS.eq_16, evS.eq_17, evS.eq_18, evS.eq_19, evSs, evE.eq_1, evE.eq_2, evE.eq_3, evE.eq_4, evE.eq_5, evE.eq_6, evE.eq_7, evE.eq_8, evE.eq_9, evE.eq_10, evE.eq_11, evE.eq_12, evE.eq_13, evE.eq_14, evE.eq_15, evE.eq_16, evE.eq_17, evE.eq_18, evE.eq_19, evE.eq_20, evE.eq_21, evE.eq_22, evE.eq_23, evE.eq_24, evE.eq_25, evE.eq_29, evE.eq_30, evE.eq_31, evEs, evPs, evRs, putAll, truD, Out.res, retZ, pend, partE, ZZ.S.get, ZZ.S.put, Pd.get, getAll, idxD, sliD, binD, cmpD, fnD, fxD, mtD, isiD, line, iterE, iterD, frRun, asg.eq_1, asg.eq_2, asgs.eq_1, asgs.eq_2, ZZ.S.ownL, setD, appD, extD, augD, seqOf, unwipe, wipeS, Slot.keepF, D.bls, tyMt] <;> first | rfl | exact ⟨rfl, rfl⟩ | skip), ?_⟩
    have l1 := fm_len (xs := pre) (F := rowI b S M f) (K := 1600) fun r _ => row_len f r (by omega) hb
    rw [← hA] at l1
    refine sFr (I := fun pre2 st => ∃ (B : List Int) (s6 s7 s8 : Slot), st = ⟨[.fz (gr a b), .fz (.int M), .fz (.int f), .fz (.int S), .ow (.lst (B.map .int)), .fz (.int r), s6, s7, s8], hd⟩ ∧ B = A ++ pre2.flatMap (cellI b S M f r)) (fun (k : Nat) => D.int (k : Int)) (List.range b) (it_rng (j := (b : Int)) (by (simp (disch := first | assumption | omega | (simp; done) | rfl) [callD, outOf, evS.eq_1, evS.eq_2, evS.eq_3, evS.eq_4, evS.eq_5, evS.eq_6, evS.eq_7, evS.eq_10, evS.eq_11, evS.eq_12, evS.eq_13, evS.eq_14, evS.eq_15, evS.eq_16, evS.eq_17, evS.eq_18, evS.eq_19, evSs, evE.eq_1, evE.eq_2, evE.eq_3, evE.eq_4, evE.eq_5, evE.eq_6, evE.eq_7, evE.eq_8, evE.eq_9, evE.eq_10, evE.eq_11, evE.eq_12, evE.eq_13, evE.eq_14, evE.eq_15, evE.eq_16, evE.eq_17, evE.eq_18, evE.eq_19, evE.eq_20, evE.eq_21, evE.eq_22, evE.eq_23, evE.eq_24, evE.eq_25, evE.eq_29, evE.eq_30, evE.eq_31, evEs, evPs, evRs, putAll, truD, Out.res, retZ, pend, partE, ZZ.S.get, ZZ.S.put, Pd.get, getAll, idxD, sliD, binD, cmpD, fnD, fxD, mtD, isiD, line, iterE, iterD, frRun, asg.eq_1, asg.eq_2, asgs.eq_1, asgs.eq_2, ZZ.S.ownL, setD, appD, extD, augD, seqOf, unwipe, wipeS, Slot.keepF, D.bls, tyMt] <;> first | rfl | exact ⟨rfl, rfl⟩ | skip)) (by omega) (by omega)) ?_ ?_ ?_
    · exact ⟨A, _, _, _, rfl, by rw [List.flatMap_nil, List.append_nil]⟩
    · rintro pre2 c post2 _ e2 ⟨B, s6, s7, s8, rfl, hB⟩
      obtain ⟨ca, cb⟩ := range_at e2
      refine ⟨_, by (simp (disch := first | assumption | omega | (simp; done) | rfl) [callD, outOf, evS.eq_1, evS.eq_2, evS.eq_3, evS.eq_4, evS.eq_5, evS.eq_6, evS.eq_7, evS.eq_10, evS.eq_11, evS.eq_12, evS.eq_13, evS.eq_14, evS.eq_15, evS.eq_16, evS.eq_17, evS.eq_18, evS.eq_19, evSs, evE.eq_1, evE.eq_2, evE.eq_3, evE.eq_4, evE.eq_5, evE.eq_6, evE.eq_7, evE.eq_8, evE.eq_9, evE.eq_10, evE.eq_11, evE.eq_12, evE.eq_13, evE.eq_14, evE.eq_15, evE.eq_16, evE.eq_17, evE.eq_18, evE.eq_19, evE.eq_20, evE.eq_21, evE.eq_22, evE.eq_23, evE.eq_24, evE.eq_25, evE.eq_29, evE.eq_30, evE.eq_31, evEs, evPs, evRs, putAll, truD, Out.res, retZ, pend, partE, ZZ.S.get, ZZ.S.put, Pd.get, getAll, idxD, sliD, binD, cmpD, fnD, fxD, mtD, isiD, line, iterE, iterD, frRun, asg.eq_1, asg.eq_2, asgs.eq_1, asgs.eq_2, ZZ.S.ownL, setD, appD, extD, augD, seqOf, unwipe, wipeS, Slot.keepF, D.bls, tyMt] <;> first | rfl | exact ⟨rfl, rfl⟩ | skip), ?_⟩
      have l2 := fm_len (xs := pre2) (F := cellI b S M f r) (K := 200) fun c _ => cell_len f r c (by omega)
      have l3 : B.length ≤ 14400 := by rw [hB, List.length_append]; omega
      refine sFr (I := fun pre3 st => ∃ (Y : List Int) (s7 s8 : Slot), st = ⟨[.fz (gr a b), .fz (.int M), .fz (.int f), .fz (.int S), .ow (.lst (Y.map .int)), .fz (.int r), .fz (.int c), s7, s8], hd⟩ ∧ Y = B ++ pre3.flatMap fun (s : Nat) => one (f + (M : Int)) (ent b S f r c + (s : Int))) (fun (k : Nat) => D.int (k : Int)) (List.range S) (it_rng (j := (S : Int)) (by (simp (disch := first | assumption | omega | (simp; done) | rfl) [callD, outOf, evS.eq_1, evS.eq_2, evS.eq_3, evS.eq_4, evS.eq_5, evS.eq_6, evS.eq_7, evS.eq_10, evS.eq_11, evS.eq_12, evS.eq_13, evS.eq_14, evS.eq_15, evS.eq_16, evS.eq_17, evS.eq_18, evS.eq_19, evSs, evE.eq_1, evE.eq_2, evE.eq_3, evE.eq_4, evE.eq_5, evE.eq_6, evE.eq_7, evE.eq_8, evE.eq_9, evE.eq_10, evE.eq_11, evE.eq_12, evE.eq_13, evE.eq_14, evE.eq_15, evE.eq_16, evE.eq_17, evE.eq_18, evE.eq_19, evE.eq_20, evE.eq_21, evE.eq_22, evE.eq_23, evE.eq_24, evE.eq_25, evE.eq_29, evE.eq_30, evE.eq_31, evEs, evPs, evRs, putAll, truD, Out.res, retZ, pend, partE, ZZ.S.get, ZZ.S.put, Pd.get, getAll, idxD, sliD, binD, cmpD, fnD, fxD, mtD, isiD, line, iterE, iterD, frRun, asg.eq_1, asg.eq_2, asgs.eq_1, asgs.eq_2, ZZ.S.ownL, setD, appD, extD, augD, seqOf, unwipe, wipeS, Slot.keepF, D.bls, tyMt] <;> first | rfl | exact ⟨rfl, rfl⟩ | skip)) (by omega) (by omega)) ?_ ?_ ?_
      · exact ⟨B, _, _, rfl, by rw [List.flatMap_nil, List.append_nil]⟩
      · rintro pre3 s post3 _ e3 ⟨Y, s7, s8, rfl, hY⟩
        obtain ⟨sa, sb⟩ := range_at e3
        refine ⟨_, by (simp (disch := first | assumption | omega | (simp; done) | rfl) [callD, outOf, evS.eq_1, evS.eq_2, evS.eq_3, evS.eq_4, evS.eq_5, evS.eq_6, evS.eq_7, evS.eq_10, evS.eq_11, evS.eq_12, evS.eq_13, evS.eq_14, evS.eq_15, evS.eq_16, evS.eq_17, evS.eq_18, evS.eq_19, evSs, evE.eq_1, evE.eq_2, evE.eq_3, evE.eq_4, evE.eq_5, evE.eq_6, evE.eq_7, evE.eq_8, evE.eq_9, evE.eq_10, evE.eq_11, evE.eq_12, evE.eq_13, evE.eq_14, evE.eq_15, evE.eq_16, evE.eq_17, evE.eq_18, evE.eq_19, evE.eq_20, evE.eq_21, evE.eq_22, evE.eq_23, evE.eq_24, evE.eq_25, evE.eq_29, evE.eq_30, evE.eq_31, evEs, evPs, evRs, putAll, truD, Out.res, retZ, pend, partE, ZZ.S.get, ZZ.S.put, Pd.get, getAll, idxD, sliD, binD, cmpD, fnD, fxD, mtD, isiD, line, iterE, iterD, frRun, asg.eq_1, asg.eq_2, asgs.eq_1, asgs.eq_2, ZZ.S.ownL, setD, appD, extD, augD, seqOf, unwipe, wipeS, Slot.keepF, D.bls, tyMt] <;> first | rfl | exact ⟨rfl, rfl⟩ | skip), ?_⟩
        have l4 := fm_len (xs := pre3) (F := fun (s : Nat) => one (f + (M : Int)) (ent b S f r c + (s : Int))) (K := 1) fun s _ => one_len _ _
        have l5 : Y.length ≤ 15000 := by rw [hY, List.length_append]; omega
        have ex : (B ++ (pre3 ++ [s]).flatMap fun (s : Nat) => one (f + (M : Int)) (ent b S f r c + (s : Int))) = Y ++ one (f + (M : Int)) (ent b S f r c + (s : Int)) := by
          rw [List.flatMap_append, List.flatMap_cons, List.flatMap_nil, List.append_nil, hY, List.append_assoc]
        have k6 := k5 s sb
        have e4 : L2.atI ((List.range a).map (rowS b S M f s)) (r : Int) = some (rowS b S M f s r) := atI_range _ rb
        have e5 : L2.atI ((List.range b).map fun c => cut (f + (M : Int)) (ent b S f r c + (s : Int))) (c : Int) = some (cut (f + (M : Int)) (ent b S f r c + (s : Int))) := atI_range (fun c => cut (f + (M : Int)) (ent b S f r c + (s : Int))) cb
        refine sNx (by (simp (disch := first | assumption | omega | (simp; done) | rfl) [callD, outOf, evS.eq_1, evS.eq_2, evS.eq_3, evS.eq_4, evS.eq_5, evS.eq_6, evS.eq_7, evS.eq_10, evS.eq_11, evS.eq_12, evS.eq_13, evS.eq_14, evS.eq_15, evS.eq_16, evS.eq_17, evS.eq_18, evS.eq_19, evSs, evE.eq_1, evE.eq_2, evE.eq_3, evE.eq_4, evE.eq_5, evE.eq_6, evE.eq_7, evE.eq_8, evE.eq_9, evE.eq_10, evE.eq_11, evE.eq_12, evE.eq_13, evE.eq_14, evE.eq_15, evE.eq_16, evE.eq_17, evE.eq_18, evE.eq_19, evE.eq_20, evE.eq_21, evE.eq_22, evE.eq_23, evE.eq_24, evE.eq_25, evE.eq_29, evE.eq_30, evE.eq_31, evEs, evPs, evRs, putAll, truD, Out.res, retZ, pend, partE, ZZ.S.get, ZZ.S.put, Pd.get, getAll, idxD, sliD, binD, cmpD, fnD, fxD, mtD, isiD, line, iterE, iterD, frRun, asg.eq_1, asg.eq_2, asgs.eq_1, asgs.eq_2, ZZ.S.ownL, setD, appD, extD, augD, seqOf, unwipe, wipeS, Slot.keepF, D.bls, tyMt, k6, stD, e4, rowS, e5] <;> first | rfl | exact ⟨rfl, rfl⟩ | skip)) ?_
        generalize ent b S f r c + (s : Int) = x at ex
        have hl1 : Y.length + 1 ≤ 16777216 := by omega
        have hl2 : Y.length ≤ 16777216 := by omega
        by_cases hx : x < f + (M : Int)
        · have e6 : cut (f + (M : Int)) x = .int x := if_pos hx
          rw [e6]
          refine sNx (by (simp (disch := first | assumption | omega | (simp; done) | rfl) [callD, outOf, evS.eq_1, evS.eq_2, evS.eq_3, evS.eq_4, evS.eq_5, evS.eq_6, evS.eq_7, evS.eq_10, evS.eq_11, evS.eq_12, evS.eq_13, evS.eq_14, evS.eq_15, evS.eq_16, evS.eq_17, evS.eq_18, evS.eq_19, evSs, evE.eq_1, evE.eq_2, evE.eq_3, evE.eq_4, evE.eq_5, evE.eq_6, evE.eq_7, evE.eq_8, evE.eq_9, evE.eq_10, evE.eq_11, evE.eq_12, evE.eq_13, evE.eq_14, evE.eq_15, evE.eq_16, evE.eq_17, evE.eq_18, evE.eq_19, evE.eq_20, evE.eq_21, evE.eq_22, evE.eq_23, evE.eq_24, evE.eq_25, evE.eq_29, evE.eq_30, evE.eq_31, evEs, evPs, evRs, putAll, truD, Out.res, retZ, pend, partE, ZZ.S.get, ZZ.S.put, Pd.get, getAll, idxD, sliD, binD, cmpD, fnD, fxD, mtD, isiD, line, iterE, iterD, frRun, asg.eq_1, asg.eq_2, asgs.eq_1, asgs.eq_2, ZZ.S.ownL, setD, appD, extD, augD, seqOf, unwipe, wipeS, Slot.keepF, D.bls, tyMt, isD, hl1] <;> first | rfl | exact ⟨rfl, rfl⟩ | skip)) ?_
          rw [show Y.map D.int ++ [.int x] = (Y ++ [x]).map D.int by rw [List.map_append]; rfl]
          exact sNil (.inl ⟨_, .inl rfl, _, _, _, rfl, by rw [ex, one, if_pos hx]⟩)
        · have e6 : cut (f + (M : Int)) x = .non := if_neg hx
          rw [e6]
          refine sNx (by (simp (disch := first | assumption | omega | (simp; done) | rfl) [callD, outOf, evS.eq_1, evS.eq_2, evS.eq_3, evS.eq_4, evS.eq_5, evS.eq_6, evS.eq_7, evS.eq_10, evS.eq_11, evS.eq_12, evS.eq_13, evS.eq_14, evS.eq_15, evS.eq_16, evS.eq_17, evS.eq_18, evS.eq_19, evSs, evE.eq_1, evE.eq_2, evE.eq_3, evE.eq_4, evE.eq_5, evE.eq_6, evE.eq_7, evE.eq_8, evE.eq_9, evE.eq_10, evE.eq_11, evE.eq_12, evE.eq_13, evE.eq_14, evE.eq_15, evE.eq_16, evE.eq_17, evE.eq_18, evE.eq_19, evE.eq_20, evE.eq_21, evE.eq_22, evE.eq_23, evE.eq_24, evE.eq_25, evE.eq_29, evE.eq_30, evE.eq_31, evEs, evPs, evRs, putAll, truD, Out.res, retZ, pend, partE, ZZ.S.get, ZZ.S.put, Pd.get, getAll, idxD, sliD, binD, cmpD, fnD, fxD, mtD, isiD, line, iterE, iterD, frRun, asg.eq_1, asg.eq_2, asgs.eq_1, asgs.eq_2, ZZ.S.ownL, setD, appD, extD, augD, seqOf, unwipe, wipeS, Slot.keepF, D.bls, tyMt, isD, hl2] <;> first | rfl | exact ⟨rfl, rfl⟩ | skip)) ?_
          exact sNil (.inl ⟨_, .inl rfl, _, _, _, rfl, by rw [ex, one, if_neg hx, List.append_nil]⟩)
      · rintro _ ⟨Y, s7, s8, rfl, hY⟩
        refine sNil (.inl ⟨_, .inl rfl, _, _, _, _, rfl, ?_⟩)
        rw [List.flatMap_append, List.flatMap_cons, List.flatMap_nil, List.append_nil, ← List.append_assoc, ← hB, hY]
        rfl
    · rintro _ ⟨B, s6, s7, s8, rfl, hB⟩
      refine sNil (.inl ⟨_, .inl rfl, _, _, _, _, _, rfl, ?_⟩)
      rw [List.flatMap_append, List.flatMap_cons, List.flatMap_nil, List.append_nil, ← hA, hB]
      rfl
  · rintro _ ⟨A, s5, s6, s7, s8, rfl, hA⟩
    refine sRet (by (simp (disch := first | assumption | omega | (simp; done) | rfl) [callD, outOf, evS.eq_1, evS.eq_2, evS.eq_3, evS.eq_4, evS.eq_5, evS.eq_6, evS.eq_7, evS.eq_10, evS.eq_11, evS.eq_12, evS.eq_13, evS.eq_14, evS.eq_15, evS.eq_16, evS.eq_17, evS.eq_18, evS.eq_19, evSs, evE.eq_1, evE.eq_2, evE.eq_3, evE.eq_4, evE.eq_5, evE.eq_6, evE.eq_7, evE.eq_8, evE.eq_9, evE.eq_10, evE.eq_11, evE.eq_12, evE.eq_13, evE.eq_14, evE.eq_15, evE.eq_16, evE.eq_17, evE.eq_18, evE.eq_19, evE.eq_20, evE.eq_21, evE.eq_22, evE.eq_23, evE.eq_24, evE.eq_25, evE.eq_29, evE.eq_30, evE.eq_31, evEs, evPs, evRs, putAll, truD, Out.res, retZ, pend, partE, ZZ.S.get, ZZ.S.put, Pd.get, getAll, idxD, sliD, binD, cmpD, fnD, fxD, mtD, isiD, line, iterE, iterD, frRun, asg.eq_1, asg.eq_2, asgs.eq_1, asgs.eq_2, ZZ.S.ownL, setD, appD, extD, augD, seqOf, unwipe, wipeS, Slot.keepF, D.bls, tyMt] <;> first | rfl | exact ⟨rfl, rfl⟩ | skip)) ?_
    rw [hA]
    rfl
/-! ### what is stacked -/
theorem fm_if {α : Type} (p : Int → Prop) [DecidablePred p] (g : α → Int) (xs : List α) : (xs.flatMap fun x => if p (g x) then [g x] else []) = (xs.map g).filter fun y => decide (p y) := by
  induction xs with
  | nil => rfl
  | cons x l ih =>
    rw [List.flatMap_cons, List.map_cons, ih]
    by_cases h : p (g x)
    · rw [if_pos h, List.filter_cons_of_pos (by exact decide_eq_true h)]; rfl
    · rw [if_neg h, List.filter_cons_of_neg (by simpa using h)]; rfl
theorem ent_nat (b S : Nat) (f : Int) (r c s : Nat) : ent b S f r c + (s : Int) = f + (((r * b + c) * S + s : Nat) : Int) := by
  unfold ent
  rw [Int.natCast_add, Int.natCast_mul, Int.natCast_add, Int.natCast_mul]
  omega
theorem stI_eq {a b S M : Nat} (f : Int) (h : M ≤ a * b * S) : stI a b S M f = (List.range M).map fun (k : Nat) => f + (k : Int) := by
  have e1 : ∀ r c, cellI b S M f r c = ((List.range S).map fun s => f + (((r * b + c) * S + s : Nat) : Int)).filter fun y => decide (y < f + (M : Int)) := by
    intro r c
    rw [← fm_if (fun y => y < f + (M : Int)) (fun s : Nat => f + (((r * b + c) * S + s : Nat) : Int))]
    unfold cellI one
    simp only [ent_nat]
  have e2 : stI a b S M f = (((List.range a).flatMap fun r => (List.range b).flatMap fun c => (List.range S).map fun s => f + (((r * b + c) * S + s : Nat) : Int))).filter fun y => decide (y < f + (M : Int)) := by
    unfold stI rowI
    simp only [List.filter_flatMap, funext (e1 _)]
  have e3 : ((List.range a).flatMap fun r => (List.range b).flatMap fun c => (List.range S).map fun s => f + (((r * b + c) * S + s : Nat) : Int)) = (List.range (a * b * S)).map fun (k : Nat) => f + (k : Int) := by
    rw [← rng_mul (a * b) S, ← rng_mul a b]
    simp only [List.flatMap_assoc, List.flatMap_map, List.map_flatMap, List.map_map, Function.comp_def]
  rw [e2, e3, List.filter_map]
  have e4 : ((fun y => decide (y < f + (M : Int))) ∘ fun (k : Nat) => f + (k : Int)) = fun k => decide (k < M) := by
    funext k
    show decide (f + (k : Int) < f + (M : Int)) = decide (k < M)
    (exact decide_eq_decide.mpr (by omega))
  rw [e4, rng_lt h]
/-- all numbers, sheet by sheet -/
def fndI (a b S M : Nat) (f : Int) : List Int := (List.range S).flatMap fun (s : Nat) => (List.range a).flatMap fun r => ((List.range b).map fun c => ent b S f r c + (s : Int)).filter fun y => decide (y < f + (M : Int))
theorem fnd_perm {a b S M : Nat} (f : Int) (h : M ≤ a * b * S) : (fndI a b S M f).Perm ((List.range M).map fun (k : Nat) => f + (k : Int)) := by
  have e2 : fndI a b S M f = ((List.range S).flatMap fun s => (List.range (a * b)).map fun q => f + ((q * S + s : Nat) : Int)).filter fun y => decide (y < f + (M : Int)) := by
    unfold fndI
    rw [← rng_mul a b]
    simp only [List.filter_flatMap, List.map_flatMap, List.map_map, Function.comp_def, ent_nat]
  have e3 := (fm_swap (fun s q => f + ((q * S + s : Nat) : Int)) (List.range (a * b)) (List.range S)).filter fun y => decide (y < f + (M : Int))
  rw [e2]
  refine e3.trans (.of_eq ?_)
  rw [← stI_eq f h]
  have e1 : ∀ r c, cellI b S M f r c = ((List.range S).map fun s => f + (((r * b + c) * S + s : Nat) : Int)).filter fun y => decide (y < f + (M : Int)) := by
    intro r c
    rw [← fm_if (fun y => y < f + (M : Int)) (fun s : Nat => f + (((r * b + c) * S + s : Nat) : Int))]
    unfold cellI one
    simp only [ent_nat]
  unfold stI rowI
  rw [← rng_mul a b]
  simp only [List.filter_flatMap, List.flatMap_assoc, List.flatMap_map, funext (e1 _)]
end ZZ.L

namespace ZZ.L
open PySem
theorem gm_sub (n : Nat) : (gm n).sub = sub := by cases n <;> rfl
theorem c_said {n : Nat} {th : Option (List D) → Out} {hd hd' : Option (List D)} {e w : Str} (h : th hd = .exc ⟨e, []⟩ hd') (hw : (e, w) ∈ [(("NoNumber" : Str), ("number" : Str)), ("NoSheet", "sheet")]) : (gm (n + 1)).lam 21 th hd = .ok (.f (.str w)) hd' := by
  show callL { gm n with act := th } ⟨"_law_said", 3, 1, b21⟩ hd = _
  unfold callL
  rw [if_pos rfl]
  have hs := gm_sub n
  show Sd (fun r => outOf r = _) (evSs _ b21 _)
  unfold b21
  refine sTryR (x := ⟨e, []⟩) (by (simp (disch := first | assumption | omega | (simp; done) | rfl) [callD, outOf, evS.eq_1, evS.eq_2, evS.eq_3, evS.eq_4, evS.eq_5, evS.eq_6, evS.eq_7, evS.eq_10, evS.eq_11, evS.eq_12, evS.eq_13, evS.eq_14, evS.eq_15, evS.eq_16, evS.eq_17, evS.eq_18, evS.eq_19, evSs, evE.eq_1, evE.eq_2, evE.eq_3, evE.eq_4, evE.eq_5, evE.eq_6, evE.eq_7, evE.eq_8, evE.eq_9, evE.eq_10, evE.eq_11, evE.eq_12, evE.eq_13, evE.eq_14, evE.eq_15, evE.eq_16, evE.eq_17, evE.eq_18, evE.eq_19, evE.eq_20, evE.eq_21, evE.eq_22, evE.eq_23, evE.eq_24, evE.eq_25, evE.eq_29, evE.eq_30, evE.eq_31, evEs, evPs, evRs, putAll, truD, Out.res, retZ, pend, partE, ZZ.S.get, ZZ.S.put, Pd.get, getAll, idxD, sliD, binD, cmpD, fnD, fxD, mtD, isiD, line, iterE, iterD, frRun, asg.eq_1, asg.eq_2, asgs.eq_1, asgs.eq_2, ZZ.S.ownL, setD, appD, extD, augD, seqOf, unwipe, wipeS, Slot.keepF, D.bls, tyMt, h] <;> first | rfl | exact ⟨rfl, rfl⟩ | skip)) ?_ ?_
  · dsimp only
    rw [hs]
    simp only [List.mem_cons, List.not_mem_nil, or_false, Prod.mk.injEq] at hw
    rcases hw with ⟨rfl, rfl⟩ | ⟨rfl, rfl⟩ <;> kernel_rfl
  simp only [List.mem_cons, List.not_mem_nil, or_false, Prod.mk.injEq] at hw
  rcases hw with ⟨rfl, rfl⟩ | ⟨rfl, rfl⟩
  · have s2 : sub "NoNumber" "NoNumber" = some true := by kernel_rfl
    have s3 : sub "NoNumber" "NoSheet" = some false := by kernel_rfl
    have s5 : sub "NoNumber" "ValueError" = some true := by kernel_rfl
    refine sIf (b := false) (by (simp (disch := first | assumption | omega | (simp; done) | rfl) [callD, outOf, evS.eq_1, evS.eq_2, evS.eq_3, evS.eq_4, evS.eq_5, evS.eq_6, evS.eq_7, evS.eq_10, evS.eq_11, evS.eq_12, evS.eq_13, evS.eq_14, evS.eq_15, evS.eq_16, evS.eq_17, evS.eq_18, evS.eq_19, evSs, evE.eq_1, evE.eq_2, evE.eq_3, evE.eq_4, evE.eq_5, evE.eq_6, evE.eq_7, evE.eq_8, evE.eq_9, evE.eq_10, evE.eq_11, evE.eq_12, evE.eq_13, evE.eq_14, evE.eq_15, evE.eq_16, evE.eq_17, evE.eq_18, evE.eq_19, evE.eq_20, evE.eq_21, evE.eq_22, evE.eq_23, evE.eq_24, evE.eq_25, evE.eq_29, evE.eq_30, evE.eq_31, evEs, evPs, evRs, putAll, truD, Out.res, retZ, pend, partE, ZZ.S.get, ZZ.S.put, Pd.get, getAll, idxD, sliD, binD, cmpD, fnD, fxD, mtD, isiD, line, iterE, iterD, frRun, asg.eq_1, asg.eq_2, asgs.eq_1, asgs.eq_2, ZZ.S.ownL, setD, appD, extD, augD, seqOf, unwipe, wipeS, Slot.keepF, D.bls, tyMt, hs, s5] <;> first | rfl | exact ⟨rfl, rfl⟩ | skip)) ?_; simp only [if_true, Bool.false_eq_true, if_false, List.nil_append, List.cons_append]
    refine sNx (by (simp (disch := first | assumption | omega | (simp; done) | rfl) [callD, outOf, evS.eq_1, evS.eq_2, evS.eq_3, evS.eq_4, evS.eq_5, evS.eq_6, evS.eq_7, evS.eq_10, evS.eq_11, evS.eq_12, evS.eq_13, evS.eq_14, evS.eq_15, evS.eq_16, evS.eq_17, evS.eq_18, evS.eq_19, evSs, evE.eq_1, evE.eq_2, evE.eq_3, evE.eq_4, evE.eq_5, evE.eq_6, evE.eq_7, evE.eq_8, evE.eq_9, evE.eq_10, evE.eq_11, evE.eq_12, evE.eq_13, evE.eq_14, evE.eq_15, evE.eq_16, evE.eq_17, evE.eq_18, evE.eq_19, evE.eq_20, evE.eq_21, evE.eq_22, evE.eq_23, evE.eq_24, evE.eq_25, evE.eq_29, evE.eq_30, evE.eq_31, evEs, evPs, evRs, putAll, truD, Out.res, retZ, pend, partE, ZZ.S.get, ZZ.S.put, Pd.get, getAll, idxD, sliD, binD, cmpD, fnD, fxD, mtD, isiD, line, iterE, iterD, frRun, asg.eq_1, asg.eq_2, asgs.eq_1, asgs.eq_2, ZZ.S.ownL, setD, appD, extD, augD, seqOf, unwipe, wipeS, Slot.keepF, D.bls, tyMt, hs, s2, s3] <;> first | rfl | exact ⟨rfl, rfl⟩ | skip)) ?_
    refine sRet (by (simp (disch := first | assumption | omega | (simp; done) | rfl) [callD, outOf, evS.eq_1, evS.eq_2, evS.eq_3, evS.eq_4, evS.eq_5, evS.eq_6, evS.eq_7, evS.eq_10, evS.eq_11, evS.eq_12, evS.eq_13, evS.eq_14, evS.eq_15, evS.eq_16, evS.eq_17, evS.eq_18, evS.eq_19, evSs, evE.eq_1, evE.eq_2, evE.eq_3, evE.eq_4, evE.eq_5, evE.eq_6, evE.eq_7, evE.eq_8, evE.eq_9, evE.eq_10, evE.eq_11, evE.eq_12, evE.eq_13, evE.eq_14, evE.eq_15, evE.eq_16, evE.eq_17, evE.eq_18, evE.eq_19, evE.eq_20, evE.eq_21, evE.eq_22, evE.eq_23, evE.eq_24, evE.eq_25, evE.eq_29, evE.eq_30, evE.eq_31, evEs, evPs, evRs, putAll, truD, Out.res, retZ, pend, partE, ZZ.S.get, ZZ.S.put, Pd.get, getAll, idxD, sliD, binD, cmpD, fnD, fxD, mtD, isiD, line, iterE, iterD, frRun, asg.eq_1, asg.eq_2, asgs.eq_1, asgs.eq_2, ZZ.S.ownL, setD, appD, extD, augD, seqOf, unwipe, wipeS, Slot.keepF, D.bls, tyMt, D.flat, findF, eqF, List.countP_cons] <;> first | rfl | exact ⟨rfl, rfl⟩ | skip)) ?_
    exact ⟨_, _, rfl, rfl⟩
  · have s2 : sub "NoSheet" "NoNumber" = some false := by kernel_rfl
    have s3 : sub "NoSheet" "NoSheet" = some true := by kernel_rfl
    have s5 : sub "NoSheet" "ValueError" = some true := by kernel_rfl
    refine sIf (b := false) (by (simp (disch := first | assumption | omega | (simp; done) | rfl) [callD, outOf, evS.eq_1, evS.eq_2, evS.eq_3, evS.eq_4, evS.eq_5, evS.eq_6, evS.eq_7, evS.eq_10, evS.eq_11, evS.eq_12, evS.eq_13, evS.eq_14, evS.eq_15, evS.eq_16, evS.eq_17, evS.eq_18, evS.eq_19, evSs, evE.eq_1, evE.eq_2, evE.eq_3, evE.eq_4, evE.eq_5, evE.eq_6, evE.eq_7, evE.eq_8, evE.eq_9, evE.eq_10, evE.eq_11, evE.eq_12, evE.eq_13, evE.eq_14, evE.eq_15, evE.eq_16, evE.eq_17, evE.eq_18, evE.eq_19, evE.eq_20, evE.eq_21, evE.eq_22, evE.eq_23, evE.eq_24, evE.eq_25, evE.eq_29, evE.eq_30, evE.eq_31, evEs, evPs, evRs, putAll, truD, Out.res, retZ, pend, partE, ZZ.S.get, ZZ.S.put, Pd.get, getAll, idxD, sliD, binD, cmpD, fnD, fxD, mtD, isiD, line, iterE, iterD, frRun, asg.eq_1, asg.eq_2, asgs.eq_1, asgs.eq_2, ZZ.S.ownL, setD, appD, extD, augD, seqOf, unwipe, wipeS, Slot.keepF, D.bls, tyMt, hs, s5] <;> first | rfl | exact ⟨rfl, rfl⟩ | skip)) ?_; simp only [if_true, Bool.false_eq_true, if_false, List.nil_append, List.cons_append]
    refine sNx (by (simp (disch := first | assumption | omega | (simp; done) | rfl) [callD, outOf, evS.eq_1, evS.eq_2, evS.eq_3, evS.eq_4, evS.eq_5, evS.eq_6, evS.eq_7, evS.eq_10, evS.eq_11, evS.eq_12, evS.eq_13, evS.eq_14, evS.eq_15, evS.eq_16, evS.eq_17, evS.eq_18, evS.eq_19, evSs, evE.eq_1, evE.eq_2, evE.eq_3, evE.eq_4, evE.eq_5, evE.eq_6, evE.eq_7, evE.eq_8, evE.eq_9, evE.eq_10, evE.eq_11, evE.eq_12, evE.eq_13, evE.eq_14, evE.eq_15, evE.eq_16, evE.eq_17, evE.eq_18, evE.eq_19, evE.eq_20, evE.eq_21, evE.eq_22, evE.eq_23, evE.eq_24, evE.eq_25, evE.eq_29, evE.eq_30, evE.eq_31, evEs, evPs, evRs, putAll, truD, Out.res, retZ, pend, partE, ZZ.S.get, ZZ.S.put, Pd.get, getAll, idxD, sliD, binD, cmpD, fnD, fxD, mtD, isiD, line, iterE, iterD, frRun, asg.eq_1, asg.eq_2, asgs.eq_1, asgs.eq_2, ZZ.S.ownL, setD, appD, extD, augD, seqOf, unwipe, wipeS, Slot.keepF, D.bls, tyMt, hs, s2, s3] <;> first | rfl | exact ⟨rfl, rfl⟩ | skip)) ?_
    refine sRet (by (simp (disch := first | assumption | omega | (simp; done) | rfl) [callD, outOf, evS.eq_1, evS.eq_2, evS.eq_3, evS.eq_4, evS.eq_5, evS.eq_6, evS.eq_7, evS.eq_10, evS.eq_11, evS.eq_12, evS.eq_13, evS.eq_14, evS.eq_15, evS.eq_16, evS.eq_17, evS.eq_18, evS.eq_19, evSs, evE.eq_1, evE.eq_2, evE.eq_3, evE.eq_4, evE.eq_5, evE.eq_6, evE.eq_7, evE.eq_8, evE.eq_9, evE.eq_10, evE.eq_11, evE.eq_12, evE.eq_13, evE.eq_14, evE.eq_15, evE.eq_16, evE.eq_17, evE.eq_18, evE.eq_19, evE.eq_20, evE.eq_21, evE.eq_22, evE.eq_23, evE.eq_24, evE.eq_25, evE.eq_29, evE.eq_30, evE.eq_31, evEs, evPs, evRs, putAll, truD, Out.res, retZ, pend, partE, ZZ.S.get, ZZ.S.put, Pd.get, getAll, idxD, sliD, binD, cmpD, fnD, fxD, mtD, isiD, line, iterE, iterD, frRun, asg.eq_1, asg.eq_2, asgs.eq_1, asgs.eq_2, ZZ.S.ownL, setD, appD, extD, augD, seqOf, unwipe, wipeS, Slot.keepF, D.bls, tyMt, D.flat, findF, eqF, List.countP_cons] <;> first | rfl | exact ⟨rfl, rfl⟩ | skip)) ?_
    exact ⟨_, _, rfl, rfl⟩
theorem c_deep {m : Nat} (hm : 3 ≤ m) (h : Hn) : ∃ (v : Rv) (h' : Hn), (gm m).cal 15 [.hand] h.d = .ok v h'.d ∧ v.d.isT 2 = false ∧ v.d.pl = true := by
  have key : OkQ (fun v hd => ∃ h' : Hn, hd = h'.d ∧ v.d.isT 2 = false ∧ v.d.pl = true) ((gm m).cal 15 [.hand] h.d) := by
    (obtain ⟨n, rfl⟩ : ∃ n, m = n + 1 := ⟨m - 1, by omega⟩); rw [cal_eq (d := ⟨"_law_deep", 3, 1, b15⟩) rfl]; refine callK rfl ?_; show Sd _ (evSs _ b15 _); unfold b15
    obtain ⟨x, h1, e1, hx⟩ := c_any (m := n) (by omega) h (l := [.str "?", .str "X x"]) (by decide) (by decide)
    refine sNx (by (simp (disch := first | assumption | omega | (simp; done) | rfl) [callD, outOf, evS.eq_1, evS.eq_2, evS.eq_3, evS.eq_4, evS.eq_5, evS.eq_6, evS.eq_7, evS.eq_10, evS.eq_11, evS.eq_12, evS.eq_13, evS.eq_14, evS.eq_15, evS.eq_16, evS.eq_17, evS.eq_18, evS.eq_19, evSs, evE.eq_1, evE.eq_2, evE.eq_3, evE.eq_4, evE.eq_5, evE.eq_6, evE.eq_7, evE.eq_8, evE.eq_9, evE.eq_10, evE.eq_11, evE.eq_12, evE.eq_13, evE.eq_14, evE.eq_15, evE.eq_16, evE.eq_17, evE.eq_18, evE.eq_19, evE.eq_20, evE.eq_21, evE.eq_22, evE.eq_23, evE.eq_24, evE.eq_25, evE.eq_29, evE.eq_30, evE.eq_31, evEs, evPs, evRs, putAll, truD, Out.res, retZ, pend, partE, ZZ.S.get, ZZ.S.put, Pd.get, getAll, idxD, sliD, binD, cmpD, fnD, fxD, mtD, isiD, line, iterE, iterD, frRun, asg.eq_1, asg.eq_2, asgs.eq_1, asgs.eq_2, ZZ.S.ownL, setD, appD, extD, augD, seqOf, unwipe, wipeS, Slot.keepF, D.bls, tyMt, e1] <;> first | rfl | exact ⟨rfl, rfl⟩ | skip)) ?_
    obtain ⟨r, h2, e2, r0, r1⟩ := c_draw (m := n) (by omega) h1 (many := 8) (by omega) (by omega)
    refine sFr (I := fun pre s => ∃ (sl : Slot) (d : D) (h : Hn) (s2 : Slot), s = ⟨[.fz .hand, sl, s2], h.d⟩ ∧ (sl = .fz d ∨ ∃ l, d = .lst l ∧ sl = .ow (.lst l)) ∧ d.isT 2 = false ∧ d.pl = true) (fun (k : Nat) => D.int (k : Int)) (List.range (5 + r).toNat) (it_rng (j := 5 + r) (by (simp (disch := first | assumption | omega | (simp; done) | rfl) [callD, outOf, evS.eq_1, evS.eq_2, evS.eq_3, evS.eq_4, evS.eq_5, evS.eq_6, evS.eq_7, evS.eq_10, evS.eq_11, evS.eq_12, evS.eq_13, evS.eq_14, evS.eq_15, evS.eq_16, evS.eq_17, evS.eq_18, evS.eq_19, evSs, evE.eq_1, evE.eq_2, evE.eq_3, evE.eq_4, evE.eq_5, evE.eq_6, evE.eq_7, evE.eq_8, evE.eq_9, evE.eq_10, evE.eq_11, evE.eq_12, evE.eq_13, evE.eq_14, evE.eq_15, evE.eq_16, evE.eq_17, evE.eq_18, evE.eq_19, evE.eq_20, evE.eq_21, evE.eq_22, evE.eq_23, evE.eq_24, evE.eq_25, evE.eq_29, evE.eq_30, evE.eq_31, evEs, evPs, evRs, putAll, truD, Out.res, retZ, pend, partE, ZZ.S.get, ZZ.S.put, Pd.get, getAll, idxD, sliD, binD, cmpD, fnD, fxD, mtD, isiD, line, iterE, iterD, frRun, asg.eq_1, asg.eq_2, asgs.eq_1, asgs.eq_2, ZZ.S.ownL, setD, appD, extD, augD, seqOf, unwipe, wipeS, Slot.keepF, D.bls, tyMt, e2] <;> first | rfl | exact ⟨rfl, rfl⟩ | skip)) (by omega) (by omega)) ?_ ?_ ?_
    · refine ⟨_, x, h2, _, rfl, .inl rfl, ?_⟩
      (simp only [List.mem_cons, List.not_mem_nil, or_false] at hx)
      rcases hx with rfl | rfl <;> exact ⟨rfl, rfl⟩
    · rintro pre a post _ e ⟨sl, d, h3, s2, rfl, hsl, d1, d2⟩
      obtain ⟨x3, h4, e4, y0, y1⟩ := c_draw (m := n) (by omega) h3 (many := 2) (by omega) (by omega)
      refine ⟨_, by (simp (disch := first | assumption | omega | (simp; done) | rfl) [callD, outOf, evS.eq_1, evS.eq_2, evS.eq_3, evS.eq_4, evS.eq_5, evS.eq_6, evS.eq_7, evS.eq_10, evS.eq_11, evS.eq_12, evS.eq_13, evS.eq_14, evS.eq_15, evS.eq_16, evS.eq_17, evS.eq_18, evS.eq_19, evSs, evE.eq_1, evE.eq_2, evE.eq_3, evE.eq_4, evE.eq_5, evE.eq_6, evE.eq_7, evE.eq_8, evE.eq_9, evE.eq_10, evE.eq_11, evE.eq_12, evE.eq_13, evE.eq_14, evE.eq_15, evE.eq_16, evE.eq_17, evE.eq_18, evE.eq_19, evE.eq_20, evE.eq_21, evE.eq_22, evE.eq_23, evE.eq_24, evE.eq_25, evE.eq_29, evE.eq_30, evE.eq_31, evEs, evPs, evRs, putAll, truD, Out.res, retZ, pend, partE, ZZ.S.get, ZZ.S.put, Pd.get, getAll, idxD, sliD, binD, cmpD, fnD, fxD, mtD, isiD, line, iterE, iterD, frRun, asg.eq_1, asg.eq_2, asgs.eq_1, asgs.eq_2, ZZ.S.ownL, setD, appD, extD, augD, seqOf, unwipe, wipeS, Slot.keepF, D.bls, tyMt] <;> first | rfl | exact ⟨rfl, rfl⟩ | skip), ?_⟩
      rcases hsl with rfl | ⟨l, rfl, rfl⟩
      · by_cases hx : x3 = 0
        · subst hx
          refine sNx (by (simp (disch := first | assumption | omega | (simp; done) | rfl) [callD, outOf, evS.eq_1, evS.eq_2, evS.eq_3, evS.eq_4, evS.eq_5, evS.eq_6, evS.eq_7, evS.eq_10, evS.eq_11, evS.eq_12, evS.eq_13, evS.eq_14, evS.eq_15, evS.eq_16, evS.eq_17, evS.eq_18, evS.eq_19, evSs, evE.eq_1, evE.eq_2, evE.eq_3, evE.eq_4, evE.eq_5, evE.eq_6, evE.eq_7, evE.eq_8, evE.eq_9, evE.eq_10, evE.eq_11, evE.eq_12, evE.eq_13, evE.eq_14, evE.eq_15, evE.eq_16, evE.eq_17, evE.eq_18, evE.eq_19, evE.eq_20, evE.eq_21, evE.eq_22, evE.eq_23, evE.eq_24, evE.eq_25, evE.eq_29, evE.eq_30, evE.eq_31, evEs, evPs, evRs, putAll, truD, Out.res, retZ, pend, partE, ZZ.S.get, ZZ.S.put, Pd.get, getAll, idxD, sliD, binD, cmpD, fnD, fxD, mtD, isiD, line, iterE, iterD, frRun, asg.eq_1, asg.eq_2, asgs.eq_1, asgs.eq_2, ZZ.S.ownL, setD, appD, extD, augD, seqOf, unwipe, wipeS, Slot.keepF, D.bls, tyMt, e4] <;> first | rfl | exact ⟨rfl, rfl⟩ | skip)) ?_
          exact sNil (.inl ⟨_, .inl rfl, _, .lst [d], h4, _, rfl, .inr ⟨_, rfl, rfl⟩, rfl, rfl⟩)
        · refine sNx (by (simp (disch := first | assumption | omega | (simp; done) | rfl) [callD, outOf, evS.eq_1, evS.eq_2, evS.eq_3, evS.eq_4, evS.eq_5, evS.eq_6, evS.eq_7, evS.eq_10, evS.eq_11, evS.eq_12, evS.eq_13, evS.eq_14, evS.eq_15, evS.eq_16, evS.eq_17, evS.eq_18, evS.eq_19, evSs, evE.eq_1, evE.eq_2, evE.eq_3, evE.eq_4, evE.eq_5, evE.eq_6, evE.eq_7, evE.eq_8, evE.eq_9, evE.eq_10, evE.eq_11, evE.eq_12, evE.eq_13, evE.eq_14, evE.eq_15, evE.eq_16, evE.eq_17, evE.eq_18, evE.eq_19, evE.eq_20, evE.eq_21, evE.eq_22, evE.eq_23, evE.eq_24, evE.eq_25, evE.eq_29, evE.eq_30, evE.eq_31, evEs, evPs, evRs, putAll, truD, Out.res, retZ, pend, partE, ZZ.S.get, ZZ.S.put, Pd.get, getAll, idxD, sliD, binD, cmpD, fnD, fxD, mtD, isiD, line, iterE, iterD, frRun, asg.eq_1, asg.eq_2, asgs.eq_1, asgs.eq_2, ZZ.S.ownL, setD, appD, extD, augD, seqOf, unwipe, wipeS, Slot.keepF, D.bls, tyMt, e4, hx] <;> first | rfl | exact ⟨rfl, rfl⟩ | skip)) ?_
          exact sNil (.inl ⟨_, .inl rfl, _, .tup [d], h4, _, rfl, .inl rfl, rfl, rfl⟩)
      · by_cases hx : x3 = 0
        · subst hx
          refine sNx (by (simp (disch := first | assumption | omega | (simp; done) | rfl) [callD, outOf, evS.eq_1, evS.eq_2, evS.eq_3, evS.eq_4, evS.eq_5, evS.eq_6, evS.eq_7, evS.eq_10, evS.eq_11, evS.eq_12, evS.eq_13, evS.eq_14, evS.eq_15, evS.eq_16, evS.eq_17, evS.eq_18, evS.eq_19, evSs, evE.eq_1, evE.eq_2, evE.eq_3, evE.eq_4, evE.eq_5, evE.eq_6, evE.eq_7, evE.eq_8, evE.eq_9, evE.eq_10, evE.eq_11, evE.eq_12, evE.eq_13, evE.eq_14, evE.eq_15, evE.eq_16, evE.eq_17, evE.eq_18, evE.eq_19, evE.eq_20, evE.eq_21, evE.eq_22, evE.eq_23, evE.eq_24, evE.eq_25, evE.eq_29, evE.eq_30, evE.eq_31, evEs, evPs, evRs, putAll, truD, Out.res, retZ, pend, partE, ZZ.S.get, ZZ.S.put, Pd.get, getAll, idxD, sliD, binD, cmpD, fnD, fxD, mtD, isiD, line, iterE, iterD, frRun, asg.eq_1, asg.eq_2, asgs.eq_1, asgs.eq_2, ZZ.S.ownL, setD, appD, extD, augD, seqOf, unwipe, wipeS, Slot.keepF, D.bls, tyMt, e4] <;> first | rfl | exact ⟨rfl, rfl⟩ | skip)) ?_
          exact sNil (.inl ⟨_, .inl rfl, _, .lst [.lst l], h4, _, rfl, .inr ⟨_, rfl, rfl⟩, rfl, rfl⟩)
        · refine sNx (by (simp (disch := first | assumption | omega | (simp; done) | rfl) [callD, outOf, evS.eq_1, evS.eq_2, evS.eq_3, evS.eq_4, evS.eq_5, evS.eq_6, evS.eq_7, evS.eq_10, evS.eq_11, evS.eq_12, evS.eq_13, evS.eq_14, evS.eq_15, evS.eq_16, evS.eq_17, evS.eq_18, evS.eq_19, evSs, evE.eq_1, evE.eq_2, evE.eq_3, evE.eq_4, evE.eq_5, evE.eq_6, evE.eq_7, evE.eq_8, evE.eq_9, evE.eq_10, evE.eq_11, evE.eq_12, evE.eq_13, evE.eq_14, evE.eq_15, evE.eq_16, evE.eq_17, evE.eq_18, evE.eq_19, evE.eq_20, evE.eq_21, evE.eq_22, evE.eq_23, evE.eq_24, evE.eq_25, evE.eq_29, evE.eq_30, evE.eq_31, evEs, evPs, evRs, putAll, truD, Out.res, retZ, pend, partE, ZZ.S.get, ZZ.S.put, Pd.get, getAll, idxD, sliD, binD, cmpD, fnD, fxD, mtD, isiD, line, iterE, iterD, frRun, asg.eq_1, asg.eq_2, asgs.eq_1, asgs.eq_2, ZZ.S.ownL, setD, appD, extD, augD, seqOf, unwipe, wipeS, Slot.keepF, D.bls, tyMt, e4, hx] <;> first | rfl | exact ⟨rfl, rfl⟩ | skip)) ?_
          exact sNil (.inl ⟨_, .inl rfl, _, .tup [.lst l], h4, _, rfl, .inl rfl, rfl, rfl⟩)
    · rintro _ ⟨sl, d, h3, s2, rfl, hsl, d1, d2⟩
      rcases hsl with rfl | ⟨l, rfl, rfl⟩
      · refine sRet (by (simp (disch := first | assumption | omega | (simp; done) | rfl) [callD, outOf, evS.eq_1, evS.eq_2, evS.eq_3, evS.eq_4, evS.eq_5, evS.eq_6, evS.eq_7, evS.eq_10, evS.eq_11, evS.eq_12, evS.eq_13, evS.eq_14, evS.eq_15, evS.eq_16, evS.eq_17, evS.eq_18, evS.eq_19, evSs, evE.eq_1, evE.eq_2, evE.eq_3, evE.eq_4, evE.eq_5, evE.eq_6, evE.eq_7, evE.eq_8, evE.eq_9, evE.eq_10, evE.eq_11, evE.eq_12, evE.eq_13, evE.eq_14, evE.eq_15, evE.eq_16, evE.eq_17, evE.eq_18, evE.eq_19, evE.eq_20, evE.eq_21, evE.eq_22, evE.eq_23, evE.eq_24, evE.eq_25, evE.eq_29, evE.eq_30, evE.eq_31, evEs, evPs, evRs, putAll, truD, Out.res, retZ, pend, partE, ZZ.S.get, ZZ.S.put, Pd.get, getAll, idxD, sliD, binD, cmpD, fnD, fxD, mtD, isiD, line, iterE, iterD, frRun, asg.eq_1, asg.eq_2, asgs.eq_1, asgs.eq_2, ZZ.S.ownL, setD, appD, extD, augD, seqOf, unwipe, wipeS, Slot.keepF, D.bls, tyMt] <;> first | rfl | exact ⟨rfl, rfl⟩ | skip)) ?_
        exact ⟨_, _, rfl, h3, rfl, d1, d2⟩
      · refine sRet (by (simp (disch := first | assumption | omega | (simp; done) | rfl) [callD, outOf, evS.eq_1, evS.eq_2, evS.eq_3, evS.eq_4, evS.eq_5, evS.eq_6, evS.eq_7, evS.eq_10, evS.eq_11, evS.eq_12, evS.eq_13, evS.eq_14, evS.eq_15, evS.eq_16, evS.eq_17, evS.eq_18, evS.eq_19, evSs, evE.eq_1, evE.eq_2, evE.eq_3, evE.eq_4, evE.eq_5, evE.eq_6, evE.eq_7, evE.eq_8, evE.eq_9, evE.eq_10, evE.eq_11, evE.eq_12, evE.eq_13, evE.eq_14, evE.eq_15, evE.eq_16, evE.eq_17, evE.eq_18, evE.eq_19, evE.eq_20, evE.eq_21, evE.eq_22, evE.eq_23, evE.eq_24, evE.eq_25, evE.eq_29, evE.eq_30, evE.eq_31, evEs, evPs, evRs, putAll, truD, Out.res, retZ, pend, partE, ZZ.S.get, ZZ.S.put, Pd.get, getAll, idxD, sliD, binD, cmpD, fnD, fxD, mtD, isiD, line, iterE, iterD, frRun, asg.eq_1, asg.eq_2, asgs.eq_1, asgs.eq_2, ZZ.S.ownL, setD, appD, extD, augD, seqOf, unwipe, wipeS, Slot.keepF, D.bls, tyMt] <;> first | rfl | exact ⟨rfl, rfl⟩ | skip)) ?_
        exact ⟨_, _, rfl, h3, rfl, d1, d2⟩
  obtain ⟨v, hd, e, h', rfl, k⟩ := key
  exact ⟨v, h', e, k⟩
theorem c_grid {m : Nat} (hm : 3 ≤ m) (h : Hn) : ∃ (a b : Nat) (h' : Hn), (gm m).cal 16 [.hand] h.d = .ok (.f (gr a b)) h'.d ∧ GrOk a b := by
  have key : OkQ (fun v hd => ∃ (a b : Nat) (h' : Hn), hd = h'.d ∧ v = .f (gr a b) ∧ GrOk a b) ((gm m).cal 16 [.hand] h.d) := by
    (obtain ⟨n, rfl⟩ : ∃ n, m = n + 1 := ⟨m - 1, by omega⟩); rw [cal_eq (d := ⟨"_law_grid", 1, 1, b16⟩) rfl]; refine callK rfl ?_; show Sd _ (evSs _ b16 _); unfold b16
    obtain ⟨x, h1, e1, hx⟩ := c_any (m := n) (by omega) h (l := [.int 3, .int 8]) (by decide) (by decide)
    obtain ⟨k, hk, rfl⟩ : ∃ k : Int, (k = 3 ∨ k = 8) ∧ x = .int k := by
      (simp only [List.mem_cons, List.not_mem_nil, or_false] at hx)
      rcases hx with rfl | rfl
      · exact ⟨3, .inl rfl, rfl⟩
      · exact ⟨8, .inr rfl, rfl⟩
    obtain ⟨r, h2, e2, r0, r1⟩ := c_draw (m := n) (by omega) h1 (many := k) (by omega) (by omega)
    obtain ⟨x, h3, e3, hx⟩ := c_any (m := n) (by omega) h2 (l := [.int 3, .int 8]) (by decide) (by decide)
    obtain ⟨k2, hk2, rfl⟩ : ∃ k : Int, (k = 3 ∨ k = 8) ∧ x = .int k := by
      (simp only [List.mem_cons, List.not_mem_nil, or_false] at hx)
      rcases hx with rfl | rfl
      · exact ⟨3, .inl rfl, rfl⟩
      · exact ⟨8, .inr rfl, rfl⟩
    obtain ⟨r2, h4, e4, r3, r4⟩ := c_draw (m := n) (by omega) h3 (many := k2) (by omega) (by omega)
    refine sRet (by (simp (disch := first | assumption | omega | (simp; done) | rfl) [callD, outOf, evS.eq_1, evS.eq_2, evS.eq_3, evS.eq_4, evS.eq_5, evS.eq_6, evS.eq_7, evS.eq_10, evS.eq_11, evS.eq_12, evS.eq_13, evS.eq_14, evS.eq_15, evS.eq_16, evS.eq_17, evS.eq_18, evS.eq_19, evSs, evE.eq_1, evE.eq_2, evE.eq_3, evE.eq_4, evE.eq_5, evE.eq_6, evE.eq_7, evE.eq_8, evE.eq_9, evE.eq_10, evE.eq_11, evE.eq_12, evE.eq_13, evE.eq_14, evE.eq_15, evE.eq_16, evE.eq_17, evE.eq_18, evE.eq_19, evE.eq_20, evE.eq_21, evE.eq_22, evE.eq_23, evE.eq_24, evE.eq_25, evE.eq_29, evE.eq_30, evE.eq_31, evEs, evPs, evRs, putAll, truD, Out.res, retZ, pend, partE, ZZ.S.get, ZZ.S.put, Pd.get, getAll, idxD, sliD, binD, cmpD, fnD, fxD, mtD, isiD, line, iterE, iterD, frRun, asg.eq_1, asg.eq_2, asgs.eq_1, asgs.eq_2, ZZ.S.ownL, setD, appD, extD, augD, seqOf, unwipe, wipeS, Slot.keepF, D.bls, tyMt, e1, e2, e3, e4] <;> first | rfl | exact ⟨rfl, rfl⟩ | skip)) ?_
    refine ⟨_, _, rfl, (1 + r).toNat, (1 + r2).toNat, h4, rfl, ?_, by omega, by omega, by omega, by omega⟩
    rw [gr, Int.toNat_of_nonneg (by omega), Int.toNat_of_nonneg (by omega)]
  obtain ⟨v, hd, e, a, b, h', rfl, rfl, k⟩ := key
  exact ⟨a, b, h', e, k⟩
theorem c_law_step {m : Nat} (hm : 1 ≤ m) {a b M : Nat} (h : GrOk a b) (hd : Option (List D)) : (gm m).cal 17 [gr a b, .int M] hd = .ok (.f (.int (Sn a b M))) hd := by
  have hb := ab_bd h
  (obtain ⟨n, rfl⟩ : ∃ n, m = n + 1 := ⟨m - 1, by omega⟩); rw [cal_eq (d := ⟨"_law_step", 2, 2, b17⟩) rfl]; refine callE rfl ?_; show Sd _ (evSs _ b17 _); unfold b17
  have n1 : ¬ (a : Int) * (b : Int) = 0 := by
    have : ((a * b : Nat) : Int) ≠ 0 := by omega
    rwa [Int.natCast_mul] at this
  have n2 : ((a : Int) * (b : Int)).natAbs < 1073741824 := by
    have : ((a * b : Nat) : Int).natAbs < 1073741824 := by omega
    rwa [Int.natCast_mul] at this
  have s1 : small64 (a : Int) = true := sm_n (by have := h.2.1; omega)
  have n3 : ¬ a = 0 := by have := h.1; omega
  have n4 : ¬ b = 0 := by have := h.2.2.1; omega
  have n5 : a * b < 1073741824 := by omega
  refine sRet (by (simp (disch := first | assumption | omega | (simp; done) | rfl) [callD, outOf, evS.eq_1, evS.eq_2, evS.eq_3, evS.eq_4, evS.eq_5, evS.eq_6, evS.eq_7, evS.eq_10, evS.eq_11, evS.eq_12, evS.eq_13, evS.eq_14, evS.eq_15, evS.eq_16, evS.eq_17, evS.eq_18, evS.eq_19, evSs, evE.eq_1, evE.eq_2, evE.eq_3, evE.eq_4, evE.eq_5, evE.eq_6, evE.eq_7, evE.eq_8, evE.eq_9, evE.eq_10, evE.eq_11, evE.eq_12, evE.eq_13, evE.eq_14, evE.eq_15, evE.eq_16, evE.eq_17, evE.eq_18, evE.eq_19, evE.eq_20, evE.eq_21, evE.eq_22, evE.eq_23, evE.eq_24, evE.eq_25, evE.eq_29, evE.eq_30, evE.eq_31, evEs, evPs, evRs, putAll, truD, Out.res, retZ, pend, partE, ZZ.S.get, ZZ.S.put, Pd.get, getAll, idxD, sliD, binD, cmpD, fnD, fxD, mtD, isiD, line, iterE, iterD, frRun, asg.eq_1, asg.eq_2, asgs.eq_1, asgs.eq_2, ZZ.S.ownL, setD, appD, extD, augD, seqOf, unwipe, wipeS, Slot.keepF, D.bls, tyMt, s1, n1, n2, n3, n4, n5, Int.natAbs_mul, Sn_int h] <;> first | rfl | exact ⟨rfl, rfl⟩ | skip)) ?_
  rfl
theorem c_law_stamped {m : Nat} (hm : 2 ≤ m) {a b M : Nat} (h : GrOk a b) (f : Int) (s : Nat) (hd : Option (List D)) : (gm m).cal 18 [gr a b, .int M, .int f, .int s] hd = .ok (.f (stD a b (Sn a b M) M f s)) hd := by
  (obtain ⟨n, rfl⟩ : ∃ n, m = n + 1 := ⟨m - 1, by omega⟩); rw [cal_eq (d := ⟨"_law_stamped", 10, 4, b18⟩) rfl]; refine callE rfl ?_; show Sd _ (evSs _ b18 _); unfold b18
  have k4 := c_law_step (m := n) (M := M) (by omega) h hd
  refine sNx (by (simp (disch := first | assumption | omega | (simp; done) | rfl) [callD, outOf, evS.eq_1, evS.eq_2, evS.eq_3, evS.eq_4, evS.eq_5, evS.eq_6, evS.eq_7, evS.eq_10, evS.eq_11, evS.eq_12, evS.eq_13, evS.eq_14, evS.eq_15, evS.eq_16, evS.eq_17, evS.eq_18, evS.eq_19, evSs, evE.eq_1, evE.eq_2, evE.eq_3, evE.eq_4, evE.eq_5, evE.eq_6, evE.eq_7, evE.eq_8, evE.eq_9, evE.eq_10, evE.eq_11, evE.eq_12, evE.eq_13, evE.eq_14, evE.eq_15, evE.eq_16, evE.eq_17, evE.eq_18, evE.eq_19, evE.eq_20, evE.eq_21, evE.eq_22, evE.eq_23, evE.eq_24, evE.eq_25, evE.eq_29, evE.eq_30, evE.eq_31, evEs, evPs, evRs, putAll, truD, Out.res, retZ, pend, partE, ZZ.S.get, ZZ.S.put, Pd.get, getAll, idxD, sliD, binD, cmpD, fnD, fxD, mtD, isiD, line, iterE, iterD, frRun, asg.eq_1, asg.eq_2, asgs.eq_1, asgs.eq_2, ZZ.S.ownL, setD, appD, extD, augD, seqOf, unwipe, wipeS, Slot.keepF, D.bls, tyMt, k4] <;> first | rfl | exact ⟨rfl, rfl⟩ | skip)) ?_
  generalize Sn a b M = S
  have ha := h.2.1
  have hb := h.2.2.2
  refine sFr (I := fun pre st => ∃ s6 s7, st = ⟨[.fz (gr a b), .fz (.int M), .fz (.int f), .fz (.int s), .fz (.int S), .ow (.lst (pre.map (rowS b S M f s))), s6, s7, .un, .un], hd⟩) (fun (k : Nat) => D.int (k : Int)) (List.range a) (it_rng (j := (a : Int)) (by (simp (disch := first | assumption | omega | (simp; done) | rfl) [callD, outOf, evS.eq_1, evS.eq_2, evS.eq_3, evS.eq_4, evS.eq_5, evS.eq_6, evS.eq_7, evS.eq_10, evS.eq_11, evS.eq_12, evS.eq_13, evS.eq_14, evS.eq_15, evS.eq_16, evS.eq_17, evS.eq_18, evS.eq_19, evSs, evE.eq_1, evE.eq_2, evE.eq_3, evE.eq_4, evE.eq_5, evE.eq_6, evE.eq_7, evE.eq_8, evE.eq_9, evE.eq_10, evE.eq_11, evE.eq_12, evE.eq_13, evE.eq_14, evE.eq_15, evE.eq_16, evE.eq_17, evE.eq_18, evE.eq_19, evE.eq_20, evE.eq_21, evE.eq_22, evE.eq_23, evE.eq_24, evE.eq_25, evE.eq_29, evE.eq_30, evE.eq_31, evEs, evPs, evRs, putAll, truD, Out.res, retZ, pend, partE, ZZ.S.get, ZZ.S.put, Pd.get, getAll, idxD, sliD, binD, cmpD, fnD, fxD, mtD, isiD, line, iterE, iterD, frRun, asg.eq_1, asg.eq_2, asgs.eq_1, asgs.eq_2, ZZ.S.ownL, setD, appD, extD, augD, seqOf, unwipe, wipeS, Slot.keepF, D.bls, tyMt] <;> first | rfl | exact ⟨rfl, rfl⟩ | skip)) (by omega) (by omega)) ?_ ?_ ?_
  · exact ⟨_, _, rfl⟩
  · rintro pre r post _ e ⟨s6, s7, rfl⟩
    obtain ⟨ra, rb⟩ := range_at e
    refine ⟨_, by (simp (disch := first | assumption | omega | (simp; done) | rfl) [callD, outOf, evS.eq_1, evS.eq_2, evS.eq_3, evS.eq_4, evS.eq_5, evS.eq_6, evS.eq_7, evS.eq_10, evS.eq_11, evS.eq_12, evS.eq_13, evS.eq_14, evS.eq_15, evS.eq_16, evS.eq_17, evS.eq_18, evS.eq_19, evSs, evE.eq_1, evE.eq_2, evE.eq_3, evE.eq_4, evE.eq_5, evE.eq_6, evE.eq_7, evE.eq_8, evE.eq_9, evE.eq_10, evE.eq_11, evE.eq_12, evE.eq_13, evE.eq_14, evE.eq_15, evE.eq_16, evE.eq_17, evE.eq_18, evE.eq_19, evE.eq_20, evE.eq_21, evE.eq_22, evE.eq_23, evE.eq_24, evE.eq_25, evE.eq_29, evE.eq_30, evE.eq_31, evEs, evPs, evRs, putAll, truD, Out.res, retZ, pend, partE, ZZ.S.get, ZZ.S.put, Pd.get, getAll, idxD, sliD, binD, cmpD, fnD, fxD, mtD, isiD, line, iterE, iterD, frRun, asg.eq_1, asg.eq_2, asgs.eq_1, asgs.eq_2, ZZ.S.ownL, setD, appD, extD, augD, seqOf, unwipe, wipeS, Slot.keepF, D.bls, tyMt] <;> first | rfl | exact ⟨rfl, rfl⟩ | skip), ?_⟩
    have sb : small64 (b : Int) = true := sm_n (by omega)
    have lc := lc_one0 (G := gm n) (j := 8) (k := .rng1) (its := [.idx (.var 0) (.con (.int 1))]) (elt := .bin .add (.bin .add (.var 2) (.bin .mul (.bin .add (.bin .mul (.var 6) (.idx (.var 0) (.con (.int 1)))) (.var 8)) (.var 4))) (.var 3)) (st := ⟨[.fz (gr a b), .fz (.int M), .fz (.int f), .fz (.int s), .fz (.int S), .ow (.lst (pre.map (rowS b S M f s))), .fz (.int r), s7, .un, .un], hd⟩) (st1 := ⟨[.fz (gr a b), .fz (.int M), .fz (.int f), .fz (.int s), .fz (.int S), .ow (.lst (pre.map (rowS b S M f s))), .fz (.int r), s7, .un, .un], hd⟩) (fun (k : Nat) => D.int (k : Int)) (fun c => .int (ent b S f r c + (s : Int))) (List.range b) (it_rng (j := (b : Int)) (by (simp (disch := first | assumption | omega | (simp; done) | rfl) [callD, outOf, evS.eq_1, evS.eq_2, evS.eq_3, evS.eq_4, evS.eq_5, evS.eq_6, evS.eq_7, evS.eq_10, evS.eq_11, evS.eq_12, evS.eq_13, evS.eq_14, evS.eq_15, evS.eq_16, evS.eq_17, evS.eq_18, evS.eq_19, evSs, evE.eq_1, evE.eq_2, evE.eq_3, evE.eq_4, evE.eq_5, evE.eq_6, evE.eq_7, evE.eq_8, evE.eq_9, evE.eq_10, evE.eq_11, evE.eq_12, evE.eq_13, evE.eq_14, evE.eq_15, evE.eq_16, evE.eq_17, evE.eq_18, evE.eq_19, evE.eq_20, evE.eq_21, evE.eq_22, evE.eq_23, evE.eq_24, evE.eq_25, evE.eq_29, evE.eq_30, evE.eq_31, evEs, evPs, evRs, putAll, truD, Out.res, retZ, pend, partE, ZZ.S.get, ZZ.S.put, Pd.get, getAll, idxD, sliD, binD, cmpD, fnD, fxD, mtD, isiD, line, iterE, iterD, frRun, asg.eq_1, asg.eq_2, asgs.eq_1, asgs.eq_2, ZZ.S.ownL, setD, appD, extD, augD, seqOf, unwipe, wipeS, Slot.keepF, D.bls, tyMt] <;> first | rfl | exact ⟨rfl, rfl⟩ | skip)) (by omega) (by omega)) (by rw [List.length_range]; omega) (fun c hc => by
      have hc := List.mem_range.mp hc
      have hm : r * b ≤ 64 := Nat.mul_le_mul (show r ≤ 8 by omega) hb
      have sx : small64 ((r : Int) * (b : Int) + (c : Int)) = true := by
        have : small64 ((r * b + c : Nat) : Int) = true := sm_n (by omega)
        rwa [Int.natCast_add, Int.natCast_mul] at this
      simp (disch := first | assumption | omega | (simp; done) | rfl) [callD, outOf, evS.eq_1, evS.eq_2, evS.eq_3, evS.eq_4, evS.eq_5, evS.eq_6, evS.eq_7, evS.eq_10, evS.eq_11, evS.eq_12, evS.eq_13, evS.eq_14, evS.eq_15, evS.eq_16, evS.eq_17, evS.eq_18, evS.eq_19, evSs, evE.eq_1, evE.eq_2, evE.eq_3, evE.eq_4, evE.eq_5, evE.eq_6, evE.eq_7, evE.eq_8, evE.eq_9, evE.eq_10, evE.eq_11, evE.eq_12, evE.eq_13, evE.eq_14, evE.eq_15, evE.eq_16, evE.eq_17, evE.eq_18, evE.eq_19, evE.eq_20, evE.eq_21, evE.eq_22, evE.eq_23, evE.eq_24, evE.eq_25, evE.eq_29, evE.eq_30, evE.eq_31, evEs, evPs, evRs, putAll, truD, Out.res, retZ, pend, partE, ZZ.S.get, ZZ.S.put, Pd.get, getAll, idxD, sliD, binD, cmpD, fnD, fxD, mtD, isiD, line, iterE, iterD, frRun, asg.eq_1, asg.eq_2, asgs.eq_1, asgs.eq_2, ZZ.S.ownL, setD, appD, extD, augD, seqOf, unwipe, wipeS, Slot.keepF, D.bls, tyMt, sb, sx]
      rfl)
    refine sNx (by (simp (disch := first | assumption | omega | (simp; done) | rfl) [callD, outOf, evS.eq_1, evS.eq_2, evS.eq_3, evS.eq_4, evS.eq_5, evS.eq_6, evS.eq_7, evS.eq_10, evS.eq_11, evS.eq_12, evS.eq_13, evS.eq_14, evS.eq_15, evS.eq_16, evS.eq_17, evS.eq_18, evS.eq_19, evSs, evE.eq_1, evE.eq_2, evE.eq_3, evE.eq_4, evE.eq_5, evE.eq_6, evE.eq_7, evE.eq_8, evE.eq_9, evE.eq_10, evE.eq_11, evE.eq_12, evE.eq_13, evE.eq_14, evE.eq_15, evE.eq_16, evE.eq_17, evE.eq_18, evE.eq_19, evE.eq_20, evE.eq_21, evE.eq_22, evE.eq_23, evE.eq_24, evE.eq_25, evE.eq_29, evE.eq_30, evE.eq_31, evEs, evPs, evRs, putAll, truD, Out.res, retZ, pend, partE, ZZ.S.get, ZZ.S.put, Pd.get, getAll, idxD, sliD, binD, cmpD, fnD, fxD, mtD, isiD, line, iterE, iterD, frRun, asg.eq_1, asg.eq_2, asgs.eq_1, asgs.eq_2, ZZ.S.ownL, setD, appD, extD, augD, seqOf, unwipe, wipeS, Slot.keepF, D.bls, tyMt, lc] <;> first | rfl | exact ⟨rfl, rfl⟩ | skip)) ?_
    have lc2 := lc_one0 (G := gm n) (j := 9) (k := .val) (its := [.var 7]) (elt := .ife (.cmp .lt (.var 9) (.bin .add (.var 2) (.var 1))) (.var 9) (.con .non)) (st := ⟨[.fz (gr a b), .fz (.int M), .fz (.int f), .fz (.int s), .fz (.int S), .ow (.lst (pre.map (rowS b S M f s))), .fz (.int r), .ow (.lst ((List.range b).map fun c => .int (ent b S f r c + (s : Int)))), .un, .un], hd⟩) (st1 := ⟨[.fz (gr a b), .fz (.int M), .fz (.int f), .fz (.int s), .fz (.int S), .ow (.lst (pre.map (rowS b S M f s))), .fz (.int r), .fz (.lst ((List.range b).map fun c => .int (ent b S f r c + (s : Int)))), .un, .un], hd⟩) (fun c => D.int (ent b S f r c + (s : Int))) (fun c => cut (f + (M : Int)) (ent b S f r c + (s : Int))) (List.range b) (by (simp (disch := first | assumption | omega | (simp; done) | rfl) [callD, outOf, evS.eq_1, evS.eq_2, evS.eq_3, evS.eq_4, evS.eq_5, evS.eq_6, evS.eq_7, evS.eq_10, evS.eq_11, evS.eq_12, evS.eq_13, evS.eq_14, evS.eq_15, evS.eq_16, evS.eq_17, evS.eq_18, evS.eq_19, evSs, evE.eq_1, evE.eq_2, evE.eq_3, evE.eq_4, evE.eq_5, evE.eq_6, evE.eq_7, evE.eq_8, evE.eq_9, evE.eq_10, evE.eq_11, evE.eq_12, evE.eq_13, evE.eq_14, evE.eq_15, evE.eq_16, evE.eq_17, evE.eq_18, evE.eq_19, evE.eq_20, evE.eq_21, evE.eq_22, evE.eq_23, evE.eq_24, evE.eq_25, evE.eq_29, evE.eq_30, evE.eq_31, evEs, evPs, evRs, putAll, truD, Out.res, retZ, pend, partE, ZZ.S.get, ZZ.S.put, Pd.get, getAll, idxD, sliD, binD, cmpD, fnD, fxD, mtD, isiD, line, iterE, iterD, frRun, asg.eq_1, asg.eq_2, asgs.eq_1, asgs.eq_2, ZZ.S.ownL, setD, appD, extD, augD, seqOf, unwipe, wipeS, Slot.keepF, D.bls, tyMt] <;> first | rfl | exact ⟨rfl, rfl⟩ | skip)) (by rw [List.length_range]; omega) (fun c hc => by
      by_cases hlt : ent b S f r c + (s : Int) < f + (M : Int)
      · simp (disch := first | assumption | omega | (simp; done) | rfl) [callD, outOf, evS.eq_1, evS.eq_2, evS.eq_3, evS.eq_4, evS.eq_5, evS.eq_6, evS.eq_7, evS.eq_10, evS.eq_11, evS.eq_12, evS.eq_13, evS.eq_14, evS.eq_15, evS.eq_16, evS.eq_17, evS.eq_18, evS.eq_19, evSs, evE.eq_1, evE.eq_2, evE.eq_3, evE.eq_4, evE.eq_5, evE.eq_6, evE.eq_7, evE.eq_8, evE.eq_9, evE.eq_10, evE.eq_11, evE.eq_12, evE.eq_13, evE.eq_14, evE.eq_15, evE.eq_16, evE.eq_17, evE.eq_18, evE.eq_19, evE.eq_20, evE.eq_21, evE.eq_22, evE.eq_23, evE.eq_24, evE.eq_25, evE.eq_29, evE.eq_30, evE.eq_31, evEs, evPs, evRs, putAll, truD, Out.res, retZ, pend, partE, ZZ.S.get, ZZ.S.put, Pd.get, getAll, idxD, sliD, binD, cmpD, fnD, fxD, mtD, isiD, line, iterE, iterD, frRun, asg.eq_1, asg.eq_2, asgs.eq_1, asgs.eq_2, ZZ.S.ownL, setD, appD, extD, augD, seqOf, unwipe, wipeS, Slot.keepF, D.bls, tyMt, hlt, cut, ltD]
      · simp (disch := first | assumption | omega | (simp; done) | rfl) [callD, outOf, evS.eq_1, evS.eq_2, evS.eq_3, evS.eq_4, evS.eq_5, evS.eq_6, evS.eq_7, evS.eq_10, evS.eq_11, evS.eq_12, evS.eq_13, evS.eq_14, evS.eq_15, evS.eq_16, evS.eq_17, evS.eq_18, evS.eq_19, evSs, evE.eq_1, evE.eq_2, evE.eq_3, evE.eq_4, evE.eq_5, evE.eq_6, evE.eq_7, evE.eq_8, evE.eq_9, evE.eq_10, evE.eq_11, evE.eq_12, evE.eq_13, evE.eq_14, evE.eq_15, evE.eq_16, evE.eq_17, evE.eq_18, evE.eq_19, evE.eq_20, evE.eq_21, evE.eq_22, evE.eq_23, evE.eq_24, evE.eq_25, evE.eq_29, evE.eq_30, evE.eq_31, evEs, evPs, evRs, putAll, truD, Out.res, retZ, pend, partE, ZZ.S.get, ZZ.S.put, Pd.get, getAll, idxD, sliD, binD, cmpD, fnD, fxD, mtD, isiD, line, iterE, iterD, frRun, asg.eq_1, asg.eq_2, asgs.eq_1, asgs.eq_2, ZZ.S.ownL, setD, appD, extD, augD, seqOf, unwipe, wipeS, Slot.keepF, D.bls, tyMt, hlt, cut, ltD])
    have hln : pre.length < 16777216 := by omega
    refine sNx (by (simp (disch := first | assumption | omega | (simp; done) | rfl) [callD, outOf, evS.eq_1, evS.eq_2, evS.eq_3, evS.eq_4, evS.eq_5, evS.eq_6, evS.eq_7, evS.eq_10, evS.eq_11, evS.eq_12, evS.eq_13, evS.eq_14, evS.eq_15, evS.eq_16, evS.eq_17, evS.eq_18, evS.eq_19, evSs, evE.eq_1, evE.eq_2, evE.eq_3, evE.eq_4, evE.eq_5, evE.eq_6, evE.eq_7, evE.eq_8, evE.eq_9, evE.eq_10, evE.eq_11, evE.eq_12, evE.eq_13, evE.eq_14, evE.eq_15, evE.eq_16, evE.eq_17, evE.eq_18, evE.eq_19, evE.eq_20, evE.eq_21, evE.eq_22, evE.eq_23, evE.eq_24, evE.eq_25, evE.eq_29, evE.eq_30, evE.eq_31, evEs, evPs, evRs, putAll, truD, Out.res, retZ, pend, partE, ZZ.S.get, ZZ.S.put, Pd.get, getAll, idxD, sliD, binD, cmpD, fnD, fxD, mtD, isiD, line, iterE, iterD, frRun, asg.eq_1, asg.eq_2, asgs.eq_1, asgs.eq_2, ZZ.S.ownL, setD, appD, extD, augD, seqOf, unwipe, wipeS, Slot.keepF, D.bls, tyMt, lc2, hln] <;> first | rfl | exact ⟨rfl, rfl⟩ | skip)) ?_
    rw [show pre.map (rowS b S M f s) ++ [D.tup ((List.range b).map fun c => cut (f + (M : Int)) (ent b S f r c + (s : Int)))] = (pre ++ [r]).map (rowS b S M f s) by rw [List.map_append]; rfl]
    exact sNil (.inl ⟨_, .inl rfl, _, _, rfl⟩)
  · rintro _ ⟨s6, s7, rfl⟩
    refine sRet (by (simp (disch := first | assumption | omega | (simp; done) | rfl) [callD, outOf, evS.eq_1, evS.eq_2, evS.eq_3, evS.eq_4, evS.eq_5, evS.eq_6, evS.eq_7, evS.eq_10, evS.eq_11, evS.eq_12, evS.eq_13, evS.eq_14, evS.eq_15, evS.eq_16, evS.eq_17, evS.eq_18, evS.eq_19, evSs, evE.eq_1, evE.eq_2, evE.eq_3, evE.eq_4, evE.eq_5, evE.eq_6, evE.eq_7, evE.eq_8, evE.eq_9, evE.eq_10, evE.eq_11, evE.eq_12, evE.eq_13, evE.eq_14, evE.eq_15, evE.eq_16, evE.eq_17, evE.eq_18, evE.eq_19, evE.eq_20, evE.eq_21, evE.eq_22, evE.eq_23, evE.eq_24, evE.eq_25, evE.eq_29, evE.eq_30, evE.eq_31, evEs, evPs, evRs, putAll, truD, Out.res, retZ, pend, partE, ZZ.S.get, ZZ.S.put, Pd.get, getAll, idxD, sliD, binD, cmpD, fnD, fxD, mtD, isiD, line, iterE, iterD, frRun, asg.eq_1, asg.eq_2, asgs.eq_1, asgs.eq_2, ZZ.S.ownL, setD, appD, extD, augD, seqOf, unwipe, wipeS, Slot.keepF, D.bls, tyMt] <;> first | rfl | exact ⟨rfl, rfl⟩ | skip)) ?_
    rfl
end ZZ.L

namespace ZZ.L
open PySem
/-- no grid -/
def NoG (x : D) : Prop := x.pl = true ∧ ∀ (hd : Option (List D)) (n : Nat), 3 ≤ n → (gm n).cal 5 [x] hd = .ok (.f (.bl false)) hd
theorem c_no_grid {m : Nat} (hm : 4 ≤ m) (h : Hn) : ∃ (x : D) (h' : Hn), (gm m).cal 19 [.hand] h.d = .ok (.f x) h'.d ∧ NoG x := by
  have key : OkQ (fun v hd => ∃ (x : D) (h' : Hn), hd = h'.d ∧ v = .f x ∧ NoG x) ((gm m).cal 19 [.hand] h.d) := by
    (obtain ⟨n, rfl⟩ : ∃ n, m = n + 1 := ⟨m - 1, by omega⟩); rw [cal_eq (d := ⟨"_law_no_grid", 2, 1, b19⟩) rfl]; refine callK rfl ?_; show Sd _ (evSs _ b19 _); unfold b19
    refine sNx (by (simp (disch := first | assumption | omega | (simp; done) | rfl) [callD, outOf, evS.eq_1, evS.eq_2, evS.eq_3, evS.eq_4, evS.eq_5, evS.eq_6, evS.eq_7, evS.eq_10, evS.eq_11, evS.eq_12, evS.eq_13, evS.eq_14, evS.eq_15, evS.eq_16, evS.eq_17, evS.eq_18, evS.eq_19, evSs, evE.eq_1, evE.eq_2, evE.eq_3, evE.eq_4, evE.eq_5, evE.eq_6, evE.eq_7, evE.eq_8, evE.eq_9, evE.eq_10, evE.eq_11, evE.eq_12, evE.eq_13, evE.eq_14, evE.eq_15, evE.eq_16, evE.eq_17, evE.eq_18, evE.eq_19, evE.eq_20, evE.eq_21, evE.eq_22, evE.eq_23, evE.eq_24, evE.eq_25, evE.eq_29, evE.eq_30, evE.eq_31, evEs, evPs, evRs, putAll, truD, Out.res, retZ, pend, partE, ZZ.S.get, ZZ.S.put, Pd.get, getAll, idxD, sliD, binD, cmpD, fnD, fxD, mtD, isiD, line, iterE, iterD, frRun, asg.eq_1, asg.eq_2, asgs.eq_1, asgs.eq_2, ZZ.S.ownL, setD, appD, extD, augD, seqOf, unwipe, wipeS, Slot.keepF, D.bls, tyMt, kvD, keysOf, pairUp] <;> first | rfl | exact ⟨rfl, rfl⟩ | skip)) ?_
    obtain ⟨v, h1, e1, v1, v2⟩ := c_deep (m := n) (by omega) h
    obtain ⟨x, h2, e2, hx⟩ := c_any (m := n) (by omega) h1 (l := [D.non, .tup [], .tup [.int 0, .int 2], .tup [.int 9, .int 2], .lst [.int 2, .int 2], .tup [.int 2], .tup [.int 2, .int 2, .int 2], .tup [.bl true, .int 2], .tup [.str "2", .int 2], .int 2, .str "x", .dct [], .tup [.int 2, .int (-1)], v.d]) (by show 0 < 14; omega) (by show 14 < _; omega)
    refine sRet (by (simp (disch := first | assumption | omega | (simp; done) | rfl) [callD, outOf, evS.eq_1, evS.eq_2, evS.eq_3, evS.eq_4, evS.eq_5, evS.eq_6, evS.eq_7, evS.eq_10, evS.eq_11, evS.eq_12, evS.eq_13, evS.eq_14, evS.eq_15, evS.eq_16, evS.eq_17, evS.eq_18, evS.eq_19, evSs, evE.eq_1, evE.eq_2, evE.eq_3, evE.eq_4, evE.eq_5, evE.eq_6, evE.eq_7, evE.eq_8, evE.eq_9, evE.eq_10, evE.eq_11, evE.eq_12, evE.eq_13, evE.eq_14, evE.eq_15, evE.eq_16, evE.eq_17, evE.eq_18, evE.eq_19, evE.eq_20, evE.eq_21, evE.eq_22, evE.eq_23, evE.eq_24, evE.eq_25, evE.eq_29, evE.eq_30, evE.eq_31, evEs, evPs, evRs, putAll, truD, Out.res, retZ, pend, partE, ZZ.S.get, ZZ.S.put, Pd.get, getAll, idxD, sliD, binD, cmpD, fnD, fxD, mtD, isiD, line, iterE, iterD, frRun, asg.eq_1, asg.eq_2, asgs.eq_1, asgs.eq_2, ZZ.S.ownL, setD, appD, extD, augD, seqOf, unwipe, wipeS, Slot.keepF, D.bls, tyMt, e1, e2] <;> first | rfl | exact ⟨rfl, rfl⟩ | skip)) ?_
    refine ⟨_, _, rfl, x, h2, rfl, rfl, ?_⟩
    (simp only [List.mem_cons, List.not_mem_nil, or_false] at hx)
    rcases hx with rfl | rfl | rfl | rfl | rfl | rfl | rfl | rfl | rfl | rfl | rfl | rfl | rfl | rfl
    all_goals first
      | exact ⟨v2, fun hd n hn => c_grid_bad hn v2 v1 hd⟩
      | exact ⟨rfl, fun hd n hn => by
          obtain ⟨k, rfl⟩ : ∃ k, n = k + 3 := ⟨n - 3, by omega⟩
          kernel_rfl⟩
  obtain ⟨v, hd, e, x, h', rfl, rfl, k⟩ := key
  exact ⟨x, h', e, k⟩
theorem c_no_many {m : Nat} (hm : 3 ≤ m) (h : Hn) : ∃ (x : D) (h' : Hn), (gm m).cal 20 [.hand] h.d = .ok (.f x) h'.d ∧ x.pl = true ∧ x.within 1 1000000 = false := by
  have key : OkQ (fun v hd => ∃ (x : D) (h' : Hn), hd = h'.d ∧ v = .f x ∧ x.pl = true ∧ x.within 1 1000000 = false) ((gm m).cal 20 [.hand] h.d) := by
    (obtain ⟨n, rfl⟩ : ∃ n, m = n + 1 := ⟨m - 1, by omega⟩); rw [cal_eq (d := ⟨"_law_no_many", 1, 1, b20⟩) rfl]; refine callK rfl ?_; show Sd _ (evSs _ b20 _); unfold b20
    obtain ⟨x, h2, e2, hx⟩ := c_any (m := n) (by omega) h (l := [D.int 0, .int 1000001, .int (-1), .non, .bl true, .str "5"]) (by show 0 < 6; omega) (by show 6 < _; omega)
    refine sRet (by (simp (disch := first | assumption | omega | (simp; done) | rfl) [callD, outOf, evS.eq_1, evS.eq_2, evS.eq_3, evS.eq_4, evS.eq_5, evS.eq_6, evS.eq_7, evS.eq_10, evS.eq_11, evS.eq_12, evS.eq_13, evS.eq_14, evS.eq_15, evS.eq_16, evS.eq_17, evS.eq_18, evS.eq_19, evSs, evE.eq_1, evE.eq_2, evE.eq_3, evE.eq_4, evE.eq_5, evE.eq_6, evE.eq_7, evE.eq_8, evE.eq_9, evE.eq_10, evE.eq_11, evE.eq_12, evE.eq_13, evE.eq_14, evE.eq_15, evE.eq_16, evE.eq_17, evE.eq_18, evE.eq_19, evE.eq_20, evE.eq_21, evE.eq_22, evE.eq_23, evE.eq_24, evE.eq_25, evE.eq_29, evE.eq_30, evE.eq_31, evEs, evPs, evRs, putAll, truD, Out.res, retZ, pend, partE, ZZ.S.get, ZZ.S.put, Pd.get, getAll, idxD, sliD, binD, cmpD, fnD, fxD, mtD, isiD, line, iterE, iterD, frRun, asg.eq_1, asg.eq_2, asgs.eq_1, asgs.eq_2, ZZ.S.ownL, setD, appD, extD, augD, seqOf, unwipe, wipeS, Slot.keepF, D.bls, tyMt, e2] <;> first | rfl | exact ⟨rfl, rfl⟩ | skip)) ?_
    refine ⟨_, _, rfl, x, h2, rfl, rfl, ?_⟩
    (simp only [List.mem_cons, List.not_mem_nil, or_false] at hx)
    rcases hx with rfl | rfl | rfl | rfl | rfl | rfl <;> exact ⟨rfl, by decide⟩
  obtain ⟨v, hd, e, x, h', rfl, rfl, k⟩ := key
  exact ⟨x, h', e, k⟩
theorem sh_cut (n : Nat) (l x : Int) : (cut l x).sh n = true := by
  unfold cut
  split <;> cases n <;> rfl
theorem sh_int (n : Nat) (i : Int) : D.sh n (.int i) = true := by cases n <;> rfl
theorem sh_stD {a b : Nat} (h : GrOk a b) (S M : Nat) (f : Int) (s : Nat) : (stD a b S M f s).sh 2 = true := by
  have ha := h.2.1
  have hb := h.2.2.2
  exact sh_tup (shs_map fun r _ => sh_tup (shs_map fun c _ => sh_cut _ _ _) (by rw [List.length_map, List.length_range]; omega)) (by rw [List.length_map, List.length_range]; omega)
theorem sh_begD {a b : Nat} (h : GrOk a b) (S : Nat) (f : Int) : (begD a b S f).sh 2 = true := by
  have ha := h.2.1
  have hb := h.2.2.2
  exact sh_tup (shs_map fun r _ => sh_tup (shs_map fun c _ => sh_int _ _) (by rw [List.length_map, List.length_range]; omega)) (by rw [List.length_map, List.length_range]; omega)
theorem eq2 {x : D} (h : x.sh 2 = true) : eqD (.lst [x, x]) (.lst [x, x]) = some true := eqD_self (n := 3) (by omega) (sh_lst (by unfold D.shs D.shs D.shs; rw [h]; rfl) (by show 2 ≤ _; omega))
theorem c_right {m : Nat} (hm : 8 ≤ m) {a b : Nat} (h : GrOk a b) (g : Hn) : ∃ h' : Hn, (gm m).cal 22 [.hand, gr a b] g.d = .ok (.f (.bl true)) h'.d := by
  have key : OkQ (fun v hd => v = .f (.bl true) ∧ ∃ h' : Hn, hd = h'.d) ((gm m).cal 22 [.hand, gr a b] g.d) := by
    (obtain ⟨n, rfl⟩ : ∃ n, m = n + 1 := ⟨m - 1, by omega⟩); rw [cal_eq (d := ⟨"_law_is_right", 10, 2, b22⟩) rfl]; refine callK rfl ?_; show Sd _ (evSs _ b22 _); unfold b22
    obtain ⟨x, h1, e1, hx⟩ := c_any (m := n) (by omega) g (l := [.int 40, .int 1000000]) (by decide) (by decide)
    obtain ⟨k, hk, rfl⟩ : ∃ k : Int, (k = 40 ∨ k = 1000000) ∧ x = .int k := by
      (simp only [List.mem_cons, List.not_mem_nil, or_false] at hx)
      rcases hx with rfl | rfl
      · exact ⟨_, .inl rfl, rfl⟩
      · exact ⟨_, .inr rfl, rfl⟩
    obtain ⟨r, h2, e2, r0, r1⟩ := c_draw (m := n) (by omega) h1 (many := k) (by omega) (by omega)
    obtain ⟨x, h3, e3, hx⟩ := c_any (m := n) (by omega) h2 (l := [.int 9, .int 1000000000]) (by decide) (by decide)
    obtain ⟨k2, hk2, rfl⟩ : ∃ k : Int, (k = 9 ∨ k = 1000000000) ∧ x = .int k := by
      (simp only [List.mem_cons, List.not_mem_nil, or_false] at hx)
      rcases hx with rfl | rfl
      · exact ⟨_, .inl rfl, rfl⟩
      · exact ⟨_, .inr rfl, rfl⟩
    obtain ⟨f, h4, e4, f0, f1⟩ := c_draw (m := n) (by omega) h3 (many := k2) (by omega) (by omega)
    obtain ⟨M, hM⟩ : ∃ M : Nat, 1 + r = (M : Int) := ⟨(1 + r).toNat, by omega⟩
    refine sNx (by (simp (disch := first | assumption | omega | (simp; done) | rfl) [callD, outOf, evS.eq_1, evS.eq_2, evS.eq_3, evS.eq_4, evS.eq_5, evS.eq_6, evS.eq_7, evS.eq_10, evS.eq_11, evS.eq_12, evS.eq_13, evS.eq_14, evS.eq_15, evS.eq_16, evS.eq_17, evS.eq_18, evS.eq_19, evSs, evE.eq_1, evE.eq_2, evE.eq_3, evE.eq_4, evE.eq_5, evE.eq_6, evE.eq_7, evE.eq_8, evE.eq_9, evE.eq_10, evE.eq_11, evE.eq_12, evE.eq_13, evE.eq_14, evE.eq_15, evE.eq_16, evE.eq_17, evE.eq_18, evE.eq_19, evE.eq_20, evE.eq_21, evE.eq_22, evE.eq_23, evE.eq_24, evE.eq_25, evE.eq_29, evE.eq_30, evE.eq_31, evEs, evPs, evRs, putAll, truD, Out.res, retZ, pend, partE, ZZ.S.get, ZZ.S.put, Pd.get, getAll, idxD, sliD, binD, cmpD, fnD, fxD, mtD, isiD, line, iterE, iterD, frRun, asg.eq_1, asg.eq_2, asgs.eq_1, asgs.eq_2, ZZ.S.ownL, setD, appD, extD, augD, seqOf, unwipe, wipeS, Slot.keepF, D.bls, tyMt, e1, e2, e3, e4] <;> first | rfl | exact ⟨rfl, rfl⟩ | skip)) ?_
    rw [hM]
    have m1 : 1 ≤ M := by omega
    have m2 : M ≤ 1000000 := by omega
    obtain ⟨S1, S2, S3⟩ := Sn_pos h m1
    have k1 := fun hd => c_law_step (m := n) (M := M) (by omega) h hd
    have k2 := fun hd => c_sheets (m := n) (by omega) h m1 m2 hd
    have k3 : ∀ hd, (gm n).cal 11 [gr a b, .int M] hd = .ok (.f (.int (Sn a b M))) hd := by
      intro hd
      obtain ⟨k, rfl⟩ : ∃ k, n = k + 1 := ⟨n - 1, by omega⟩
      have k2 := c_sheets (m := k) (by omega) h m1 m2 hd
      rw [cal_eq (d := ⟨"step_of", 2, 2, b11⟩) rfl]
      refine callE rfl ?_
      show Sd _ (evSs _ b11 _)
      unfold b11
      refine sRet (by (simp (disch := first | assumption | omega | (simp; done) | rfl) [callD, outOf, evS.eq_1, evS.eq_2, evS.eq_3, evS.eq_4, evS.eq_5, evS.eq_6, evS.eq_7, evS.eq_10, evS.eq_11, evS.eq_12, evS.eq_13, evS.eq_14, evS.eq_15, evS.eq_16, evS.eq_17, evS.eq_18, evS.eq_19, evSs, evE.eq_1, evE.eq_2, evE.eq_3, evE.eq_4, evE.eq_5, evE.eq_6, evE.eq_7, evE.eq_8, evE.eq_9, evE.eq_10, evE.eq_11, evE.eq_12, evE.eq_13, evE.eq_14, evE.eq_15, evE.eq_16, evE.eq_17, evE.eq_18, evE.eq_19, evE.eq_20, evE.eq_21, evE.eq_22, evE.eq_23, evE.eq_24, evE.eq_25, evE.eq_29, evE.eq_30, evE.eq_31, evEs, evPs, evRs, putAll, truD, Out.res, retZ, pend, partE, ZZ.S.get, ZZ.S.put, Pd.get, getAll, idxD, sliD, binD, cmpD, fnD, fxD, mtD, isiD, line, iterE, iterD, frRun, asg.eq_1, asg.eq_2, asgs.eq_1, asgs.eq_2, ZZ.S.ownL, setD, appD, extD, augD, seqOf, unwipe, wipeS, Slot.keepF, D.bls, tyMt, k2] <;> first | rfl | exact ⟨rfl, rfl⟩ | skip)) ?_
      rfl
    have k4 := fun hd => c_begins (m := n) (by omega) h m1 m2 f f0 (by omega) hd
    have k5 := fun s hs hd => c_stamped (m := n) (by omega) h m1 m2 f f0 (by omega) s hs hd
    have k6 := fun s hd => c_law_stamped (m := n) (M := M) (by omega) h f s hd
    refine sNx (by (simp (disch := first | assumption | omega | (simp; done) | rfl) [callD, outOf, evS.eq_1, evS.eq_2, evS.eq_3, evS.eq_4, evS.eq_5, evS.eq_6, evS.eq_7, evS.eq_10, evS.eq_11, evS.eq_12, evS.eq_13, evS.eq_14, evS.eq_15, evS.eq_16, evS.eq_17, evS.eq_18, evS.eq_19, evSs, evE.eq_1, evE.eq_2, evE.eq_3, evE.eq_4, evE.eq_5, evE.eq_6, evE.eq_7, evE.eq_8, evE.eq_9, evE.eq_10, evE.eq_11, evE.eq_12, evE.eq_13, evE.eq_14, evE.eq_15, evE.eq_16, evE.eq_17, evE.eq_18, evE.eq_19, evE.eq_20, evE.eq_21, evE.eq_22, evE.eq_23, evE.eq_24, evE.eq_25, evE.eq_29, evE.eq_30, evE.eq_31, evEs, evPs, evRs, putAll, truD, Out.res, retZ, pend, partE, ZZ.S.get, ZZ.S.put, Pd.get, getAll, idxD, sliD, binD, cmpD, fnD, fxD, mtD, isiD, line, iterE, iterD, frRun, asg.eq_1, asg.eq_2, asgs.eq_1, asgs.eq_2, ZZ.S.ownL, setD, appD, extD, augD, seqOf, unwipe, wipeS, Slot.keepF, D.bls, tyMt, k1] <;> first | rfl | exact ⟨rfl, rfl⟩ | skip)) ?_
    generalize Sn a b M = S at *
    have q1 : eqD (.lst [.int S, .int S, .int S]) (.lst [.int S, .int S, .int S]) = some true := eqD_self (n := 1) (by omega) rfl
    refine sIf (b := false) (by (simp (disch := first | assumption | omega | (simp; done) | rfl) [callD, outOf, evS.eq_1, evS.eq_2, evS.eq_3, evS.eq_4, evS.eq_5, evS.eq_6, evS.eq_7, evS.eq_10, evS.eq_11, evS.eq_12, evS.eq_13, evS.eq_14, evS.eq_15, evS.eq_16, evS.eq_17, evS.eq_18, evS.eq_19, evSs, evE.eq_1, evE.eq_2, evE.eq_3, evE.eq_4, evE.eq_5, evE.eq_6, evE.eq_7, evE.eq_8, evE.eq_9, evE.eq_10, evE.eq_11, evE.eq_12, evE.eq_13, evE.eq_14, evE.eq_15, evE.eq_16, evE.eq_17, evE.eq_18, evE.eq_19, evE.eq_20, evE.eq_21, evE.eq_22, evE.eq_23, evE.eq_24, evE.eq_25, evE.eq_29, evE.eq_30, evE.eq_31, evEs, evPs, evRs, putAll, truD, Out.res, retZ, pend, partE, ZZ.S.get, ZZ.S.put, Pd.get, getAll, idxD, sliD, binD, cmpD, fnD, fxD, mtD, isiD, line, iterE, iterD, frRun, asg.eq_1, asg.eq_2, asgs.eq_1, asgs.eq_2, ZZ.S.ownL, setD, appD, extD, augD, seqOf, unwipe, wipeS, Slot.keepF, D.bls, tyMt, k2, k3, q1] <;> first | rfl | exact ⟨rfl, rfl⟩ | skip)) ?_; simp only [if_true, Bool.false_eq_true, if_false, List.nil_append, List.cons_append]
    refine sNx (by (simp (disch := first | assumption | omega | (simp; done) | rfl) [callD, outOf, evS.eq_1, evS.eq_2, evS.eq_3, evS.eq_4, evS.eq_5, evS.eq_6, evS.eq_7, evS.eq_10, evS.eq_11, evS.eq_12, evS.eq_13, evS.eq_14, evS.eq_15, evS.eq_16, evS.eq_17, evS.eq_18, evS.eq_19, evSs, evE.eq_1, evE.eq_2, evE.eq_3, evE.eq_4, evE.eq_5, evE.eq_6, evE.eq_7, evE.eq_8, evE.eq_9, evE.eq_10, evE.eq_11, evE.eq_12, evE.eq_13, evE.eq_14, evE.eq_15, evE.eq_16, evE.eq_17, evE.eq_18, evE.eq_19, evE.eq_20, evE.eq_21, evE.eq_22, evE.eq_23, evE.eq_24, evE.eq_25, evE.eq_29, evE.eq_30, evE.eq_31, evEs, evPs, evRs, putAll, truD, Out.res, retZ, pend, partE, ZZ.S.get, ZZ.S.put, Pd.get, getAll, idxD, sliD, binD, cmpD, fnD, fxD, mtD, isiD, line, iterE, iterD, frRun, asg.eq_1, asg.eq_2, asgs.eq_1, asgs.eq_2, ZZ.S.ownL, setD, appD, extD, augD, seqOf, unwipe, wipeS, Slot.keepF, D.bls, tyMt] <;> first | rfl | exact ⟨rfl, rfl⟩ | skip)) ?_
    have ha := h.2.1
    have hb := h.2.2.2
    refine sFr (I := fun pre s => ∃ s6, s = ⟨[.fz .hand, .fz (gr a b), .fz (.int M), .fz (.int f), .fz (.int S), .ow (.lst (pre.map (rowB b S f))), s6, .un, .un, .un], h4.d⟩) (fun (k : Nat) => D.int (k : Int)) (List.range a) (it_rng (j := (a : Int)) (by (simp (disch := first | assumption | omega | (simp; done) | rfl) [callD, outOf, evS.eq_1, evS.eq_2, evS.eq_3, evS.eq_4, evS.eq_5, evS.eq_6, evS.eq_7, evS.eq_10, evS.eq_11, evS.eq_12, evS.eq_13, evS.eq_14, evS.eq_15, evS.eq_16, evS.eq_17, evS.eq_18, evS.eq_19, evSs, evE.eq_1, evE.eq_2, evE.eq_3, evE.eq_4, evE.eq_5, evE.eq_6, evE.eq_7, evE.eq_8, evE.eq_9, evE.eq_10, evE.eq_11, evE.eq_12, evE.eq_13, evE.eq_14, evE.eq_15, evE.eq_16, evE.eq_17, evE.eq_18, evE.eq_19, evE.eq_20, evE.eq_21, evE.eq_22, evE.eq_23, evE.eq_24, evE.eq_25, evE.eq_29, evE.eq_30, evE.eq_31, evEs, evPs, evRs, putAll, truD, Out.res, retZ, pend, partE, ZZ.S.get, ZZ.S.put, Pd.get, getAll, idxD, sliD, binD, cmpD, fnD, fxD, mtD, isiD, line, iterE, iterD, frRun, asg.eq_1, asg.eq_2, asgs.eq_1, asgs.eq_2, ZZ.S.ownL, setD, appD, extD, augD, seqOf, unwipe, wipeS, Slot.keepF, D.bls, tyMt] <;> first | rfl | exact ⟨rfl, rfl⟩ | skip)) (by omega) (by omega)) ?_ ?_ ?_
    · exact ⟨_, rfl⟩
    · rintro pre r post _ e ⟨s6, rfl⟩
      obtain ⟨ra, rb⟩ := range_at e
      refine ⟨_, by (simp (disch := first | assumption | omega | (simp; done) | rfl) [callD, outOf, evS.eq_1, evS.eq_2, evS.eq_3, evS.eq_4, evS.eq_5, evS.eq_6, evS.eq_7, evS.eq_10, evS.eq_11, evS.eq_12, evS.eq_13, evS.eq_14, evS.eq_15, evS.eq_16, evS.eq_17, evS.eq_18, evS.eq_19, evSs, evE.eq_1, evE.eq_2, evE.eq_3, evE.eq_4, evE.eq_5, evE.eq_6, evE.eq_7, evE.eq_8, evE.eq_9, evE.eq_10, evE.eq_11, evE.eq_12, evE.eq_13, evE.eq_14, evE.eq_15, evE.eq_16, evE.eq_17, evE.eq_18, evE.eq_19, evE.eq_20, evE.eq_21, evE.eq_22, evE.eq_23, evE.eq_24, evE.eq_25, evE.eq_29, evE.eq_30, evE.eq_31, evEs, evPs, evRs, putAll, truD, Out.res, retZ, pend, partE, ZZ.S.get, ZZ.S.put, Pd.get, getAll, idxD, sliD, binD, cmpD, fnD, fxD, mtD, isiD, line, iterE, iterD, frRun, asg.eq_1, asg.eq_2, asgs.eq_1, asgs.eq_2, ZZ.S.ownL, setD, appD, extD, augD, seqOf, unwipe, wipeS, Slot.keepF, D.bls, tyMt] <;> first | rfl | exact ⟨rfl, rfl⟩ | skip), ?_⟩
      have sb : small64 (b : Int) = true := sm_n (by omega)
      have lc := lc_one0 (G := gm n) (j := 9) (k := .rng1) (its := [.idx (.var 1) (.con (.int 1))]) (elt := .bin .add (.var 3) (.bin .mul (.bin .add (.bin .mul (.var 6) (.idx (.var 1) (.con (.int 1)))) (.var 9)) (.var 4))) (st := ⟨[.fz .hand, .fz (gr a b), .fz (.int M), .fz (.int f), .fz (.int S), .ow (.lst (pre.map (rowB b S f))), .fz (.int r), .un, .un, .un], h4.d⟩) (st1 := ⟨[.fz .hand, .fz (gr a b), .fz (.int M), .fz (.int f), .fz (.int S), .ow (.lst (pre.map (rowB b S f))), .fz (.int r), .un, .un, .un], h4.d⟩) (fun (k : Nat) => D.int (k : Int)) (fun c => .int (ent b S f r c)) (List.range b) (it_rng (j := (b : Int)) (by (simp (disch := first | assumption | omega | (simp; done) | rfl) [callD, outOf, evS.eq_1, evS.eq_2, evS.eq_3, evS.eq_4, evS.eq_5, evS.eq_6, evS.eq_7, evS.eq_10, evS.eq_11, evS.eq_12, evS.eq_13, evS.eq_14, evS.eq_15, evS.eq_16, evS.eq_17, evS.eq_18, evS.eq_19, evSs, evE.eq_1, evE.eq_2, evE.eq_3, evE.eq_4, evE.eq_5, evE.eq_6, evE.eq_7, evE.eq_8, evE.eq_9, evE.eq_10, evE.eq_11, evE.eq_12, evE.eq_13, evE.eq_14, evE.eq_15, evE.eq_16, evE.eq_17, evE.eq_18, evE.eq_19, evE.eq_20, evE.eq_21, evE.eq_22, evE.eq_23, evE.eq_24, evE.eq_25, evE.eq_29, evE.eq_30, evE.eq_31, evEs, evPs, evRs, putAll, truD, Out.res, retZ, pend, partE, ZZ.S.get, ZZ.S.put, Pd.get, getAll, idxD, sliD, binD, cmpD, fnD, fxD, mtD, isiD, line, iterE, iterD, frRun, asg.eq_1, asg.eq_2, asgs.eq_1, asgs.eq_2, ZZ.S.ownL, setD, appD, extD, augD, seqOf, unwipe, wipeS, Slot.keepF, D.bls, tyMt] <;> first | rfl | exact ⟨rfl, rfl⟩ | skip)) (by omega) (by omega)) (by rw [List.length_range]; omega) (fun c hc => by
        have hc := List.mem_range.mp hc
        have hm : r * b ≤ 64 := Nat.mul_le_mul (show r ≤ 8 by omega) hb
        have sx : small64 ((r : Int) * (b : Int) + (c : Int)) = true := by
          have : small64 ((r * b + c : Nat) : Int) = true := sm_n (by omega)
          rwa [Int.natCast_add, Int.natCast_mul] at this
        simp (disch := first | assumption | omega | (simp; done) | rfl) [callD, outOf, evS.eq_1, evS.eq_2, evS.eq_3, evS.eq_4, evS.eq_5, evS.eq_6, evS.eq_7, evS.eq_10, evS.eq_11, evS.eq_12, evS.eq_13, evS.eq_14, evS.eq_15, evS.eq_16, evS.eq_17, evS.eq_18, evS.eq_19, evSs, evE.eq_1, evE.eq_2, evE.eq_3, evE.eq_4, evE.eq_5, evE.eq_6, evE.eq_7, evE.eq_8, evE.eq_9, evE.eq_10, evE.eq_11, evE.eq_12, evE.eq_13, evE.eq_14, evE.eq_15, evE.eq_16, evE.eq_17, evE.eq_18, evE.eq_19, evE.eq_20, evE.eq_21, evE.eq_22, evE.eq_23, evE.eq_24, evE.eq_25, evE.eq_29, evE.eq_30, evE.eq_31, evEs, evPs, evRs, putAll, truD, Out.res, retZ, pend, partE, ZZ.S.get, ZZ.S.put, Pd.get, getAll, idxD, sliD, binD, cmpD, fnD, fxD, mtD, isiD, line, iterE, iterD, frRun, asg.eq_1, asg.eq_2, asgs.eq_1, asgs.eq_2, ZZ.S.ownL, setD, appD, extD, augD, seqOf, unwipe, wipeS, Slot.keepF, D.bls, tyMt, sb, sx]
        rfl)
      have hln : pre.length < 16777216 := by omega
      refine sNx (by (simp (disch := first | assumption | omega | (simp; done) | rfl) [callD, outOf, evS.eq_1, evS.eq_2, evS.eq_3, evS.eq_4, evS.eq_5, evS.eq_6, evS.eq_7, evS.eq_10, evS.eq_11, evS.eq_12, evS.eq_13, evS.eq_14, evS.eq_15, evS.eq_16, evS.eq_17, evS.eq_18, evS.eq_19, evSs, evE.eq_1, evE.eq_2, evE.eq_3, evE.eq_4, evE.eq_5, evE.eq_6, evE.eq_7, evE.eq_8, evE.eq_9, evE.eq_10, evE.eq_11, evE.eq_12, evE.eq_13, evE.eq_14, evE.eq_15, evE.eq_16, evE.eq_17, evE.eq_18, evE.eq_19, evE.eq_20, evE.eq_21, evE.eq_22, evE.eq_23, evE.eq_24, evE.eq_25, evE.eq_29, evE.eq_30, evE.eq_31, evEs, evPs, evRs, putAll, truD, Out.res, retZ, pend, partE, ZZ.S.get, ZZ.S.put, Pd.get, getAll, idxD, sliD, binD, cmpD, fnD, fxD, mtD, isiD, line, iterE, iterD, frRun, asg.eq_1, asg.eq_2, asgs.eq_1, asgs.eq_2, ZZ.S.ownL, setD, appD, extD, augD, seqOf, unwipe, wipeS, Slot.keepF, D.bls, tyMt, lc, hln] <;> first | rfl | exact ⟨rfl, rfl⟩ | skip)) ?_
      rw [show pre.map (rowB b S f) ++ [D.tup ((List.range b).map fun c => .int (ent b S f r c))] = (pre ++ [r]).map (rowB b S f) by rw [List.map_append]; rfl]
      exact sNil (.inl ⟨_, .inl rfl, _, rfl⟩)
    · rintro _ ⟨s6, rfl⟩
      have q2 := eq2 (sh_begD h S f)
      unfold begD at q2 k4
      refine sIf (b := false) (by (simp (disch := first | assumption | omega | (simp; done) | rfl) [callD, outOf, evS.eq_1, evS.eq_2, evS.eq_3, evS.eq_4, evS.eq_5, evS.eq_6, evS.eq_7, evS.eq_10, evS.eq_11, evS.eq_12, evS.eq_13, evS.eq_14, evS.eq_15, evS.eq_16, evS.eq_17, evS.eq_18, evS.eq_19, evSs, evE.eq_1, evE.eq_2, evE.eq_3, evE.eq_4, evE.eq_5, evE.eq_6, evE.eq_7, evE.eq_8, evE.eq_9, evE.eq_10, evE.eq_11, evE.eq_12, evE.eq_13, evE.eq_14, evE.eq_15, evE.eq_16, evE.eq_17, evE.eq_18, evE.eq_19, evE.eq_20, evE.eq_21, evE.eq_22, evE.eq_23, evE.eq_24, evE.eq_25, evE.eq_29, evE.eq_30, evE.eq_31, evEs, evPs, evRs, putAll, truD, Out.res, retZ, pend, partE, ZZ.S.get, ZZ.S.put, Pd.get, getAll, idxD, sliD, binD, cmpD, fnD, fxD, mtD, isiD, line, iterE, iterD, frRun, asg.eq_1, asg.eq_2, asgs.eq_1, asgs.eq_2, ZZ.S.ownL, setD, appD, extD, augD, seqOf, unwipe, wipeS, Slot.keepF, D.bls, tyMt, k4, q2] <;> first | rfl | exact ⟨rfl, rfl⟩ | skip)) ?_; simp only [if_true, Bool.false_eq_true, if_false, List.nil_append, List.cons_append]
      obtain ⟨si, h5, e5, i0, i1⟩ := c_draw (m := n) (by omega) h4 (many := (S : Int)) (by omega) (by omega)
      obtain ⟨s, rfl⟩ : ∃ s : Nat, si = (s : Int) := ⟨si.toNat, by omega⟩
      refine sNx (by (simp (disch := first | assumption | omega | (simp; done) | rfl) [callD, outOf, evS.eq_1, evS.eq_2, evS.eq_3, evS.eq_4, evS.eq_5, evS.eq_6, evS.eq_7, evS.eq_10, evS.eq_11, evS.eq_12, evS.eq_13, evS.eq_14, evS.eq_15, evS.eq_16, evS.eq_17, evS.eq_18, evS.eq_19, evSs, evE.eq_1, evE.eq_2, evE.eq_3, evE.eq_4, evE.eq_5, evE.eq_6, evE.eq_7, evE.eq_8, evE.eq_9, evE.eq_10, evE.eq_11, evE.eq_12, evE.eq_13, evE.eq_14, evE.eq_15, evE.eq_16, evE.eq_17, evE.eq_18, evE.eq_19, evE.eq_20, evE.eq_21, evE.eq_22, evE.eq_23, evE.eq_24, evE.eq_25, evE.eq_29, evE.eq_30, evE.eq_31, evEs, evPs, evRs, putAll, truD, Out.res, retZ, pend, partE, ZZ.S.get, ZZ.S.put, Pd.get, getAll, idxD, sliD, binD, cmpD, fnD, fxD, mtD, isiD, line, iterE, iterD, frRun, asg.eq_1, asg.eq_2, asgs.eq_1, asgs.eq_2, ZZ.S.ownL, setD, appD, extD, augD, seqOf, unwipe, wipeS, Slot.keepF, D.bls, tyMt, e5] <;> first | rfl | exact ⟨rfl, rfl⟩ | skip)) ?_
      have k5 := k5 s (by omega)
      refine sNx (by (simp (disch := first | assumption | omega | (simp; done) | rfl) [callD, outOf, evS.eq_1, evS.eq_2, evS.eq_3, evS.eq_4, evS.eq_5, evS.eq_6, evS.eq_7, evS.eq_10, evS.eq_11, evS.eq_12, evS.eq_13, evS.eq_14, evS.eq_15, evS.eq_16, evS.eq_17, evS.eq_18, evS.eq_19, evSs, evE.eq_1, evE.eq_2, evE.eq_3, evE.eq_4, evE.eq_5, evE.eq_6, evE.eq_7, evE.eq_8, evE.eq_9, evE.eq_10, evE.eq_11, evE.eq_12, evE.eq_13, evE.eq_14, evE.eq_15, evE.eq_16, evE.eq_17, evE.eq_18, evE.eq_19, evE.eq_20, evE.eq_21, evE.eq_22, evE.eq_23, evE.eq_24, evE.eq_25, evE.eq_29, evE.eq_30, evE.eq_31, evEs, evPs, evRs, putAll, truD, Out.res, retZ, pend, partE, ZZ.S.get, ZZ.S.put, Pd.get, getAll, idxD, sliD, binD, cmpD, fnD, fxD, mtD, isiD, line, iterE, iterD, frRun, asg.eq_1, asg.eq_2, asgs.eq_1, asgs.eq_2, ZZ.S.ownL, setD, appD, extD, augD, seqOf, unwipe, wipeS, Slot.keepF, D.bls, tyMt, k6] <;> first | rfl | exact ⟨rfl, rfl⟩ | skip)) ?_
      have q3 := eq2 (sh_stD h S M f s)
      refine sRet (by (simp (disch := first | assumption | omega | (simp; done) | rfl) [callD, outOf, evS.eq_1, evS.eq_2, evS.eq_3, evS.eq_4, evS.eq_5, evS.eq_6, evS.eq_7, evS.eq_10, evS.eq_11, evS.eq_12, evS.eq_13, evS.eq_14, evS.eq_15, evS.eq_16, evS.eq_17, evS.eq_18, evS.eq_19, evSs, evE.eq_1, evE.eq_2, evE.eq_3, evE.eq_4, evE.eq_5, evE.eq_6, evE.eq_7, evE.eq_8, evE.eq_9, evE.eq_10, evE.eq_11, evE.eq_12, evE.eq_13, evE.eq_14, evE.eq_15, evE.eq_16, evE.eq_17, evE.eq_18, evE.eq_19, evE.eq_20, evE.eq_21, evE.eq_22, evE.eq_23, evE.eq_24, evE.eq_25, evE.eq_29, evE.eq_30, evE.eq_31, evEs, evPs, evRs, putAll, truD, Out.res, retZ, pend, partE, ZZ.S.get, ZZ.S.put, Pd.get, getAll, idxD, sliD, binD, cmpD, fnD, fxD, mtD, isiD, line, iterE, iterD, frRun, asg.eq_1, asg.eq_2, asgs.eq_1, asgs.eq_2, ZZ.S.ownL, setD, appD, extD, augD, seqOf, unwipe, wipeS, Slot.keepF, D.bls, tyMt, k5, q3] <;> first | rfl | exact ⟨rfl, rfl⟩ | skip)) ?_
      exact ⟨_, _, rfl, rfl, h5, rfl⟩
  obtain ⟨v, hd, e, rfl, h', rfl⟩ := key
  exact ⟨h', e⟩
end ZZ.L

namespace ZZ.L
open PySem
def filI (b S M : Nat) (f : Int) (s r : Nat) : List Int := ((List.range b).map fun c => ent b S f r c + (s : Int)).filter fun y => decide (y < f + (M : Int))
theorem fil_len {b S M : Nat} (f : Int) (s r : Nat) (hb : b ≤ 8) : (filI b S M f s r).length ≤ 8 := by
  unfold filI
  have := List.length_filter_le (fun y => decide (y < f + (M : Int))) ((List.range b).map fun c => ent b S f r c + (s : Int))
  rw [List.length_map, List.length_range] at this
  omega
theorem c_stack {m : Nat} (hm : 9 ≤ m) {a b : Nat} (h : GrOk a b) (g : Hn) : ∃ h' : Hn, (gm m).cal 23 [.hand, gr a b] g.d = .ok (.f (.bl true)) h'.d := by
  have key : OkQ (fun v hd => v = .f (.bl true) ∧ ∃ h' : Hn, hd = h'.d) ((gm m).cal 23 [.hand, gr a b] g.d) := by
    (obtain ⟨n, rfl⟩ : ∃ n, m = n + 1 := ⟨m - 1, by omega⟩); rw [cal_eq (d := ⟨"_law_is_stack_right", 9, 2, b23⟩) rfl]; refine callK rfl ?_; show Sd _ (evSs _ b23 _); unfold b23
    obtain ⟨r, h1, e1, r0, r1⟩ := c_draw (m := n) (by omega) g (many := 200) (by omega) (by omega)
    obtain ⟨f, h2, e2, f0, f1⟩ := c_draw (m := n) (by omega) h1 (many := 1000) (by omega) (by omega)
    obtain ⟨M, hM⟩ : ∃ M : Nat, 1 + r = (M : Int) := ⟨(1 + r).toNat, by omega⟩
    refine sNx (by (simp (disch := first | assumption | omega | (simp; done) | rfl) [callD, outOf, evS.eq_1, evS.eq_2, evS.eq_3, evS.eq_4, evS.eq_5, evS.eq_6, evS.eq_7, evS.eq_10, evS.eq_11, evS.eq_12, evS.eq_13, evS.eq_14, evS.eq_15, evS.eq_16, evS.eq_17, evS.eq_18, evS.eq_19, evSs, evE.eq_1, evE.eq_2, evE.eq_3, evE.eq_4, evE.eq_5, evE.eq_6, evE.eq_7, evE.eq_8, evE.eq_9, evE.eq_10, evE.eq_11, evE.eq_12, evE.eq_13, evE.eq_14, evE.eq_15, evE.eq_16, evE.eq_17, evE.eq_18, evE.eq_19, evE.eq_20, evE.eq_21, evE.eq_22, evE.eq_23, evE.eq_24, evE.eq_25, evE.eq_29, evE.eq_30, evE.eq_31, evEs, evPs, evRs, putAll, truD, Out.res, retZ, pend, partE, ZZ.S.get, ZZ.S.put, Pd.get, getAll, idxD, sliD, binD, cmpD, fnD, fxD, mtD, isiD, line, iterE, iterD, frRun, asg.eq_1, asg.eq_2, asgs.eq_1, asgs.eq_2, ZZ.S.ownL, setD, appD, extD, augD, seqOf, unwipe, wipeS, Slot.keepF, D.bls, tyMt, e1, e2] <;> first | rfl | exact ⟨rfl, rfl⟩ | skip)) ?_
    rw [hM]
    have m1 : 1 ≤ M := by omega
    have m2 : M ≤ 200 := by omega
    obtain ⟨S1, S2, S3⟩ := Sn_pos h m1
    have k5 := fun s hs hd => c_stamped (m := n) (by omega) h m1 (by omega) f f0 (by omega) s hs hd
    have k7 := fun hd => c_stacked (m := n) (by omega) h m1 m2 f f0 (by omega) hd
    have k3 : ∀ hd, (gm n).cal 11 [gr a b, .int M] hd = .ok (.f (.int (Sn a b M))) hd := by
      intro hd
      obtain ⟨k, rfl⟩ : ∃ k, n = k + 1 := ⟨n - 1, by omega⟩
      have k2 := c_sheets (m := k) (by omega) h m1 (by omega) hd
      rw [cal_eq (d := ⟨"step_of", 2, 2, b11⟩) rfl]
      refine callE rfl ?_
      show Sd _ (evSs _ b11 _)
      unfold b11
      refine sRet (by (simp (disch := first | assumption | omega | (simp; done) | rfl) [callD, outOf, evS.eq_1, evS.eq_2, evS.eq_3, evS.eq_4, evS.eq_5, evS.eq_6, evS.eq_7, evS.eq_10, evS.eq_11, evS.eq_12, evS.eq_13, evS.eq_14, evS.eq_15, evS.eq_16, evS.eq_17, evS.eq_18, evS.eq_19, evSs, evE.eq_1, evE.eq_2, evE.eq_3, evE.eq_4, evE.eq_5, evE.eq_6, evE.eq_7, evE.eq_8, evE.eq_9, evE.eq_10, evE.eq_11, evE.eq_12, evE.eq_13, evE.eq_14, evE.eq_15, evE.eq_16, evE.eq_17, evE.eq_18, evE.eq_19, evE.eq_20, evE.eq_21, evE.eq_22, evE.eq_23, evE.eq_24, evE.eq_25, evE.eq_29, evE.eq_30, evE.eq_31, evEs, evPs, evRs, putAll, truD, Out.res, retZ, pend, partE, ZZ.S.get, ZZ.S.put, Pd.get, getAll, idxD, sliD, binD, cmpD, fnD, fxD, mtD, isiD, line, iterE, iterD, frRun, asg.eq_1, asg.eq_2, asgs.eq_1, asgs.eq_2, ZZ.S.ownL, setD, appD, extD, augD, seqOf, unwipe, wipeS, Slot.keepF, D.bls, tyMt, k2] <;> first | rfl | exact ⟨rfl, rfl⟩ | skip)) ?_
      rfl
    have lc := lc_one0 (G := gm n) (j := 8) (k := .rng1) (its := [.var 2]) (elt := .bin .add (.var 3) (.var 8)) (st := ⟨[.fz .hand, .fz (gr a b), .fz (.int M), .fz (.int f), .un, .un, .un, .un, .un], h2.d⟩) (st1 := ⟨[.fz .hand, .fz (gr a b), .fz (.int M), .fz (.int f), .un, .un, .un, .un, .un], h2.d⟩) (fun (k : Nat) => D.int (k : Int)) (fun k => .int (f + (k : Int))) (List.range M) (it_rng (j := (M : Int)) (by (simp (disch := first | assumption | omega | (simp; done) | rfl) [callD, outOf, evS.eq_1, evS.eq_2, evS.eq_3, evS.eq_4, evS.eq_5, evS.eq_6, evS.eq_7, evS.eq_10, evS.eq_11, evS.eq_12, evS.eq_13, evS.eq_14, evS.eq_15, evS.eq_16, evS.eq_17, evS.eq_18, evS.eq_19, evSs, evE.eq_1, evE.eq_2, evE.eq_3, evE.eq_4, evE.eq_5, evE.eq_6, evE.eq_7, evE.eq_8, evE.eq_9, evE.eq_10, evE.eq_11, evE.eq_12, evE.eq_13, evE.eq_14, evE.eq_15, evE.eq_16, evE.eq_17, evE.eq_18, evE.eq_19, evE.eq_20, evE.eq_21, evE.eq_22, evE.eq_23, evE.eq_24, evE.eq_25, evE.eq_29, evE.eq_30, evE.eq_31, evEs, evPs, evRs, putAll, truD, Out.res, retZ, pend, partE, ZZ.S.get, ZZ.S.put, Pd.get, getAll, idxD, sliD, binD, cmpD, fnD, fxD, mtD, isiD, line, iterE, iterD, frRun, asg.eq_1, asg.eq_2, asgs.eq_1, asgs.eq_2, ZZ.S.ownL, setD, appD, extD, augD, seqOf, unwipe, wipeS, Slot.keepF, D.bls, tyMt] <;> first | rfl | exact ⟨rfl, rfl⟩ | skip)) (by omega) (by omega)) (by rw [List.length_range]; omega) (fun c hc => by simp (disch := first | assumption | omega | (simp; done) | rfl) [callD, outOf, evS.eq_1, evS.eq_2, evS.eq_3, evS.eq_4, evS.eq_5, evS.eq_6, evS.eq_7, evS.eq_10, evS.eq_11, evS.eq_12, evS.eq_13, evS.eq_14, evS.eq_15, evS.eq_16, evS.eq_17, evS.eq_18, evS.eq_19, evSs, evE.eq_1, evE.eq_2, evE.eq_3, evE.eq_4, evE.eq_5, evE.eq_6, evE.eq_7, evE.eq_8, evE.eq_9, evE.eq_10, evE.eq_11, evE.eq_12, evE.eq_13, evE.eq_14, evE.eq_15, evE.eq_16, evE.eq_17, evE.eq_18, evE.eq_19, evE.eq_20, evE.eq_21, evE.eq_22, evE.eq_23, evE.eq_24, evE.eq_25, evE.eq_29, evE.eq_30, evE.eq_31, evEs, evPs, evRs, putAll, truD, Out.res, retZ, pend, partE, ZZ.S.get, ZZ.S.put, Pd.get, getAll, idxD, sliD, binD, cmpD, fnD, fxD, mtD, isiD, line, iterE, iterD, frRun, asg.eq_1, asg.eq_2, asgs.eq_1, asgs.eq_2, ZZ.S.ownL, setD, appD, extD, augD, seqOf, unwipe, wipeS, Slot.keepF, D.bls, tyMt])
    have eT : ((List.range M).map fun (k : Nat) => D.int (f + (k : Int))) = ((List.range M).map fun (k : Nat) => f + (k : Int)).map D.int := by rw [List.map_map]; rfl
    have hperm := fnd_perm f S3
    have hpw := pairwise_range f M
    have hst := stI_eq f S3
    have hTl : ((List.range M).map fun (k : Nat) => f + (k : Int)).length ≤ 200 := by rw [List.length_map, List.length_range]; exact m2
    rw [eT] at lc
    generalize ((List.range M).map fun (k : Nat) => f + (k : Int)) = T at lc hperm hpw hst hTl
    rw [hst] at k7
    refine sNx (by (simp (disch := first | assumption | omega | (simp; done) | rfl) [callD, outOf, evS.eq_1, evS.eq_2, evS.eq_3, evS.eq_4, evS.eq_5, evS.eq_6, evS.eq_7, evS.eq_10, evS.eq_11, evS.eq_12, evS.eq_13, evS.eq_14, evS.eq_15, evS.eq_16, evS.eq_17, evS.eq_18, evS.eq_19, evSs, evE.eq_1, evE.eq_2, evE.eq_3, evE.eq_4, evE.eq_5, evE.eq_6, evE.eq_7, evE.eq_8, evE.eq_9, evE.eq_10, evE.eq_11, evE.eq_12, evE.eq_13, evE.eq_14, evE.eq_15, evE.eq_16, evE.eq_17, evE.eq_18, evE.eq_19, evE.eq_20, evE.eq_21, evE.eq_22, evE.eq_23, evE.eq_24, evE.eq_25, evE.eq_29, evE.eq_30, evE.eq_31, evEs, evPs, evRs, putAll, truD, Out.res, retZ, pend, partE, ZZ.S.get, ZZ.S.put, Pd.get, getAll, idxD, sliD, binD, cmpD, fnD, fxD, mtD, isiD, line, iterE, iterD, frRun, asg.eq_1, asg.eq_2, asgs.eq_1, asgs.eq_2, ZZ.S.ownL, setD, appD, extD, augD, seqOf, unwipe, wipeS, Slot.keepF, D.bls, tyMt, lc] <;> first | rfl | exact ⟨rfl, rfl⟩ | skip)) ?_
    have shT : D.shs 0 (T.map .int) = true := shs_map fun x _ => rfl
    have q1 : eqD (.lst [.tup (T.map .int), .tup (T.map .int)]) (.lst [.tup (T.map .int), .tup (T.map .int)]) = some true := eqD_self (n := 2) (by omega) (sh_lst (by unfold D.shs D.shs D.shs; rw [sh_tup shT (by rw [List.length_map]; omega)]; rfl) (by show 2 ≤ _; omega))
    refine sIf (b := false) (by (simp (disch := first | assumption | omega | (simp; done) | rfl) [callD, outOf, evS.eq_1, evS.eq_2, evS.eq_3, evS.eq_4, evS.eq_5, evS.eq_6, evS.eq_7, evS.eq_10, evS.eq_11, evS.eq_12, evS.eq_13, evS.eq_14, evS.eq_15, evS.eq_16, evS.eq_17, evS.eq_18, evS.eq_19, evSs, evE.eq_1, evE.eq_2, evE.eq_3, evE.eq_4, evE.eq_5, evE.eq_6, evE.eq_7, evE.eq_8, evE.eq_9, evE.eq_10, evE.eq_11, evE.eq_12, evE.eq_13, evE.eq_14, evE.eq_15, evE.eq_16, evE.eq_17, evE.eq_18, evE.eq_19, evE.eq_20, evE.eq_21, evE.eq_22, evE.eq_23, evE.eq_24, evE.eq_25, evE.eq_29, evE.eq_30, evE.eq_31, evEs, evPs, evRs, putAll, truD, Out.res, retZ, pend, partE, ZZ.S.get, ZZ.S.put, Pd.get, getAll, idxD, sliD, binD, cmpD, fnD, fxD, mtD, isiD, line, iterE, iterD, frRun, asg.eq_1, asg.eq_2, asgs.eq_1, asgs.eq_2, ZZ.S.ownL, setD, appD, extD, augD, seqOf, unwipe, wipeS, Slot.keepF, D.bls, tyMt, k7, q1] <;> first | rfl | exact ⟨rfl, rfl⟩ | skip)) ?_; simp only [if_true, Bool.false_eq_true, if_false, List.nil_append, List.cons_append]
    refine sNx (by (simp (disch := first | assumption | omega | (simp; done) | rfl) [callD, outOf, evS.eq_1, evS.eq_2, evS.eq_3, evS.eq_4, evS.eq_5, evS.eq_6, evS.eq_7, evS.eq_10, evS.eq_11, evS.eq_12, evS.eq_13, evS.eq_14, evS.eq_15, evS.eq_16, evS.eq_17, evS.eq_18, evS.eq_19, evSs, evE.eq_1, evE.eq_2, evE.eq_3, evE.eq_4, evE.eq_5, evE.eq_6, evE.eq_7, evE.eq_8, evE.eq_9, evE.eq_10, evE.eq_11, evE.eq_12, evE.eq_13, evE.eq_14, evE.eq_15, evE.eq_16, evE.eq_17, evE.eq_18, evE.eq_19, evE.eq_20, evE.eq_21, evE.eq_22, evE.eq_23, evE.eq_24, evE.eq_25, evE.eq_29, evE.eq_30, evE.eq_31, evEs, evPs, evRs, putAll, truD, Out.res, retZ, pend, partE, ZZ.S.get, ZZ.S.put, Pd.get, getAll, idxD, sliD, binD, cmpD, fnD, fxD, mtD, isiD, line, iterE, iterD, frRun, asg.eq_1, asg.eq_2, asgs.eq_1, asgs.eq_2, ZZ.S.ownL, setD, appD, extD, augD, seqOf, unwipe, wipeS, Slot.keepF, D.bls, tyMt] <;> first | rfl | exact ⟨rfl, rfl⟩ | skip)) ?_
    generalize Sn a b M = S at *
    have ha := h.2.1
    have hb := h.2.2.2
    have hrow : ∀ s, ((List.range a).flatMap (filI b S M f s)).length ≤ 64 := by
      intro s
      have := fm_len (xs := List.range a) (F := filI b S M f s) (K := 8) fun r _ => fil_len f s r hb
      rw [List.length_range] at this
      omega
    refine sFr (I := fun pre st => ∃ (Y : List Int) (s6 s7 : Slot), st = ⟨[.fz .hand, .fz (gr a b), .fz (.int M), .fz (.int f), .fz (.tup (T.map .int)), .ow (.lst (Y.map .int)), s6, s7, .un], h2.d⟩ ∧ Y = pre.flatMap fun s => (List.range a).flatMap (filI b S M f s)) (fun (k : Nat) => D.int (k : Int)) (List.range S) (it_rng (j := (S : Int)) (by (simp (disch := first | assumption | omega | (simp; done) | rfl) [callD, outOf, evS.eq_1, evS.eq_2, evS.eq_3, evS.eq_4, evS.eq_5, evS.eq_6, evS.eq_7, evS.eq_10, evS.eq_11, evS.eq_12, evS.eq_13, evS.eq_14, evS.eq_15, evS.eq_16, evS.eq_17, evS.eq_18, evS.eq_19, evSs, evE.eq_1, evE.eq_2, evE.eq_3, evE.eq_4, evE.eq_5, evE.eq_6, evE.eq_7, evE.eq_8, evE.eq_9, evE.eq_10, evE.eq_11, evE.eq_12, evE.eq_13, evE.eq_14, evE.eq_15, evE.eq_16, evE.eq_17, evE.eq_18, evE.eq_19, evE.eq_20, evE.eq_21, evE.eq_22, evE.eq_23, evE.eq_24, evE.eq_25, evE.eq_29, evE.eq_30, evE.eq_31, evEs, evPs, evRs, putAll, truD, Out.res, retZ, pend, partE, ZZ.S.get, ZZ.S.put, Pd.get, getAll, idxD, sliD, binD, cmpD, fnD, fxD, mtD, isiD, line, iterE, iterD, frRun, asg.eq_1, asg.eq_2, asgs.eq_1, asgs.eq_2, ZZ.S.ownL, setD, appD, extD, augD, seqOf, unwipe, wipeS, Slot.keepF, D.bls, tyMt, k3] <;> first | rfl | exact ⟨rfl, rfl⟩ | skip)) (by omega) (by omega)) ?_ ?_ ?_
    · exact ⟨[], _, _, rfl, rfl⟩
    · rintro pre s post _ e ⟨Y, s6, s7, rfl, hY⟩
      obtain ⟨sa, sb⟩ := range_at e
      refine ⟨_, by (simp (disch := first | assumption | omega | (simp; done) | rfl) [callD, outOf, evS.eq_1, evS.eq_2, evS.eq_3, evS.eq_4, evS.eq_5, evS.eq_6, evS.eq_7, evS.eq_10, evS.eq_11, evS.eq_12, evS.eq_13, evS.eq_14, evS.eq_15, evS.eq_16, evS.eq_17, evS.eq_18, evS.eq_19, evSs, evE.eq_1, evE.eq_2, evE.eq_3, evE.eq_4, evE.eq_5, evE.eq_6, evE.eq_7, evE.eq_8, evE.eq_9, evE.eq_10, evE.eq_11, evE.eq_12, evE.eq_13, evE.eq_14, evE.eq_15, evE.eq_16, evE.eq_17, evE.eq_18, evE.eq_19, evE.eq_20, evE.eq_21, evE.eq_22, evE.eq_23, evE.eq_24, evE.eq_25, evE.eq_29, evE.eq_30, evE.eq_31, evEs, evPs, evRs, putAll, truD, Out.res, retZ, pend, partE, ZZ.S.get, ZZ.S.put, Pd.get, getAll, idxD, sliD, binD, cmpD, fnD, fxD, mtD, isiD, line, iterE, iterD, frRun, asg.eq_1, asg.eq_2, asgs.eq_1, asgs.eq_2, ZZ.S.ownL, setD, appD, extD, augD, seqOf, unwipe, wipeS, Slot.keepF, D.bls, tyMt] <;> first | rfl | exact ⟨rfl, rfl⟩ | skip), ?_⟩
      have k6 := k5 s sb
      have l1 := fm_len (xs := pre) (F := fun s => (List.range a).flatMap (filI b S M f s)) (K := 64) fun s _ => hrow s
      rw [← hY] at l1
      refine sFr (I := fun pre2 st => ∃ (X : List Int) (s7 : Slot), st = ⟨[.fz .hand, .fz (gr a b), .fz (.int M), .fz (.int f), .fz (.tup (T.map .int)), .ow (.lst (X.map .int)), .fz (.int s), s7, .un], h2.d⟩ ∧ X = Y ++ pre2.flatMap (filI b S M f s)) (rowS b S M f s) (List.range a) (by (simp (disch := first | assumption | omega | (simp; done) | rfl) [callD, outOf, evS.eq_1, evS.eq_2, evS.eq_3, evS.eq_4, evS.eq_5, evS.eq_6, evS.eq_7, evS.eq_10, evS.eq_11, evS.eq_12, evS.eq_13, evS.eq_14, evS.eq_15, evS.eq_16, evS.eq_17, evS.eq_18, evS.eq_19, evSs, evE.eq_1, evE.eq_2, evE.eq_3, evE.eq_4, evE.eq_5, evE.eq_6, evE.eq_7, evE.eq_8, evE.eq_9, evE.eq_10, evE.eq_11, evE.eq_12, evE.eq_13, evE.eq_14, evE.eq_15, evE.eq_16, evE.eq_17, evE.eq_18, evE.eq_19, evE.eq_20, evE.eq_21, evE.eq_22, evE.eq_23, evE.eq_24, evE.eq_25, evE.eq_29, evE.eq_30, evE.eq_31, evEs, evPs, evRs, putAll, truD, Out.res, retZ, pend, partE, ZZ.S.get, ZZ.S.put, Pd.get, getAll, idxD, sliD, binD, cmpD, fnD, fxD, mtD, isiD, line, iterE, iterD, frRun, asg.eq_1, asg.eq_2, asgs.eq_1, asgs.eq_2, ZZ.S.ownL, setD, appD, extD, augD, seqOf, unwipe, wipeS, Slot.keepF, D.bls, tyMt, k6, stD] <;> first | rfl | exact ⟨rfl, rfl⟩ | skip)) ?_ ?_ ?_
      · exact ⟨Y, _, rfl, by rw [List.flatMap_nil, List.append_nil]⟩
      · rintro pre2 r post2 _ e2 ⟨X, s7, rfl, hX⟩
        obtain ⟨ra, rb⟩ := range_at e2
        refine ⟨_, by (simp (disch := first | assumption | omega | (simp; done) | rfl) [callD, outOf, evS.eq_1, evS.eq_2, evS.eq_3, evS.eq_4, evS.eq_5, evS.eq_6, evS.eq_7, evS.eq_10, evS.eq_11, evS.eq_12, evS.eq_13, evS.eq_14, evS.eq_15, evS.eq_16, evS.eq_17, evS.eq_18, evS.eq_19, evSs, evE.eq_1, evE.eq_2, evE.eq_3, evE.eq_4, evE.eq_5, evE.eq_6, evE.eq_7, evE.eq_8, evE.eq_9, evE.eq_10, evE.eq_11, evE.eq_12, evE.eq_13, evE.eq_14, evE.eq_15, evE.eq_16, evE.eq_17, evE.eq_18, evE.eq_19, evE.eq_20, evE.eq_21, evE.eq_22, evE.eq_23, evE.eq_24, evE.eq_25, evE.eq_29, evE.eq_30, evE.eq_31, evEs, evPs, evRs, putAll, truD, Out.res, retZ, pend, partE, ZZ.S.get, ZZ.S.put, Pd.get, getAll, idxD, sliD, binD, cmpD, fnD, fxD, mtD, isiD, line, iterE, iterD, frRun, asg.eq_1, asg.eq_2, asgs.eq_1, asgs.eq_2, ZZ.S.ownL, setD, appD, extD, augD, seqOf, unwipe, wipeS, Slot.keepF, D.bls, tyMt] <;> first | rfl | exact ⟨rfl, rfl⟩ | skip), ?_⟩
        have l2 := fm_len (xs := pre2) (F := filI b S M f s) (K := 8) fun r _ => fil_len f s r hb
        have l3 : X.length ≤ 13000 := by rw [hX, List.length_append]; omega
        have lc2 := lc_one (G := gm n) (j := 8) (k := .val) (its := [.var 7]) (ifs := some (.cmp .isn (.var 8) (.con .non))) (elt := .var 8) (st := ⟨[.fz .hand, .fz (gr a b), .fz (.int M), .fz (.int f), .fz (.tup (T.map .int)), .ow (.lst (X.map .int)), .fz (.int s), .fz (rowS b S M f s r), .un], h2.d⟩) (st1 := ⟨[.fz .hand, .fz (gr a b), .fz (.int M), .fz (.int f), .fz (.tup (T.map .int)), .ow (.lst (X.map .int)), .fz (.int s), .fz (rowS b S M f s r), .un], h2.d⟩) (fun c => cut (f + (M : Int)) (ent b S f r c + (s : Int))) (fun c => decide (ent b S f r c + (s : Int) < f + (M : Int))) (fun c => .int (ent b S f r c + (s : Int))) (List.range b) (by (simp (disch := first | assumption | omega | (simp; done) | rfl) [callD, outOf, evS.eq_1, evS.eq_2, evS.eq_3, evS.eq_4, evS.eq_5, evS.eq_6, evS.eq_7, evS.eq_10, evS.eq_11, evS.eq_12, evS.eq_13, evS.eq_14, evS.eq_15, evS.eq_16, evS.eq_17, evS.eq_18, evS.eq_19, evSs, evE.eq_1, evE.eq_2, evE.eq_3, evE.eq_4, evE.eq_5, evE.eq_6, evE.eq_7, evE.eq_8, evE.eq_9, evE.eq_10, evE.eq_11, evE.eq_12, evE.eq_13, evE.eq_14, evE.eq_15, evE.eq_16, evE.eq_17, evE.eq_18, evE.eq_19, evE.eq_20, evE.eq_21, evE.eq_22, evE.eq_23, evE.eq_24, evE.eq_25, evE.eq_29, evE.eq_30, evE.eq_31, evEs, evPs, evRs, putAll, truD, Out.res, retZ, pend, partE, ZZ.S.get, ZZ.S.put, Pd.get, getAll, idxD, sliD, binD, cmpD, fnD, fxD, mtD, isiD, line, iterE, iterD, frRun, asg.eq_1, asg.eq_2, asgs.eq_1, asgs.eq_2, ZZ.S.ownL, setD, appD, extD, augD, seqOf, unwipe, wipeS, Slot.keepF, D.bls, tyMt, rowS] <;> first | rfl | exact ⟨rfl, rfl⟩ | skip)) (by rw [List.length_range]; omega) (fun c hc => by
          by_cases hlt : ent b S f r c + (s : Int) < f + (M : Int)
          · have e6 : cut (f + (M : Int)) (ent b S f r c + (s : Int)) = .int (ent b S f r c + (s : Int)) := if_pos hlt
            rw [e6]
            exact ⟨by simp (disch := first | assumption | omega | (simp; done) | rfl) [callD, outOf, evS.eq_1, evS.eq_2, evS.eq_3, evS.eq_4, evS.eq_5, evS.eq_6, evS.eq_7, evS.eq_10, evS.eq_11, evS.eq_12, evS.eq_13, evS.eq_14, evS.eq_15, evS.eq_16, evS.eq_17, evS.eq_18, evS.eq_19, evSs, evE.eq_1, evE.eq_2, evE.eq_3, evE.eq_4, evE.eq_5, evE.eq_6, evE.eq_7, evE.eq_8, evE.eq_9, evE.eq_10, evE.eq_11, evE.eq_12, evE.eq_13, evE.eq_14, evE.eq_15, evE.eq_16, evE.eq_17, evE.eq_18, evE.eq_19, evE.eq_20, evE.eq_21, evE.eq_22, evE.eq_23, evE.eq_24, evE.eq_25, evE.eq_29, evE.eq_30, evE.eq_31, evEs, evPs, evRs, putAll, truD, Out.res, retZ, pend, partE, ZZ.S.get, ZZ.S.put, Pd.get, getAll, idxD, sliD, binD, cmpD, fnD, fxD, mtD, isiD, line, iterE, iterD, frRun, asg.eq_1, asg.eq_2, asgs.eq_1, asgs.eq_2, ZZ.S.ownL, setD, appD, extD, augD, seqOf, unwipe, wipeS, Slot.keepF, D.bls, tyMt, isD, hlt], fun _ => by simp (disch := first | assumption | omega | (simp; done) | rfl) [callD, outOf, evS.eq_1, evS.eq_2, evS.eq_3, evS.eq_4, evS.eq_5, evS.eq_6, evS.eq_7, evS.eq_10, evS.eq_11, evS.eq_12, evS.eq_13, evS.eq_14, evS.eq_15, evS.eq_16, evS.eq_17, evS.eq_18, evS.eq_19, evSs, evE.eq_1, evE.eq_2, evE.eq_3, evE.eq_4, evE.eq_5, evE.eq_6, evE.eq_7, evE.eq_8, evE.eq_9, evE.eq_10, evE.eq_11, evE.eq_12, evE.eq_13, evE.eq_14, evE.eq_15, evE.eq_16, evE.eq_17, evE.eq_18, evE.eq_19, evE.eq_20, evE.eq_21, evE.eq_22, evE.eq_23, evE.eq_24, evE.eq_25, evE.eq_29, evE.eq_30, evE.eq_31, evEs, evPs, evRs, putAll, truD, Out.res, retZ, pend, partE, ZZ.S.get, ZZ.S.put, Pd.get, getAll, idxD, sliD, binD, cmpD, fnD, fxD, mtD, isiD, line, iterE, iterD, frRun, asg.eq_1, asg.eq_2, asgs.eq_1, asgs.eq_2, ZZ.S.ownL, setD, appD, extD, augD, seqOf, unwipe, wipeS, Slot.keepF, D.bls, tyMt]⟩
          · have e6 : cut (f + (M : Int)) (ent b S f r c + (s : Int)) = .non := if_neg hlt
            rw [e6]
            exact ⟨by simp (disch := first | assumption | omega | (simp; done) | rfl) [callD, outOf, evS.eq_1, evS.eq_2, evS.eq_3, evS.eq_4, evS.eq_5, evS.eq_6, evS.eq_7, evS.eq_10, evS.eq_11, evS.eq_12, evS.eq_13, evS.eq_14, evS.eq_15, evS.eq_16, evS.eq_17, evS.eq_18, evS.eq_19, evSs, evE.eq_1, evE.eq_2, evE.eq_3, evE.eq_4, evE.eq_5, evE.eq_6, evE.eq_7, evE.eq_8, evE.eq_9, evE.eq_10, evE.eq_11, evE.eq_12, evE.eq_13, evE.eq_14, evE.eq_15, evE.eq_16, evE.eq_17, evE.eq_18, evE.eq_19, evE.eq_20, evE.eq_21, evE.eq_22, evE.eq_23, evE.eq_24, evE.eq_25, evE.eq_29, evE.eq_30, evE.eq_31, evEs, evPs, evRs, putAll, truD, Out.res, retZ, pend, partE, ZZ.S.get, ZZ.S.put, Pd.get, getAll, idxD, sliD, binD, cmpD, fnD, fxD, mtD, isiD, line, iterE, iterD, frRun, asg.eq_1, asg.eq_2, asgs.eq_1, asgs.eq_2, ZZ.S.ownL, setD, appD, extD, augD, seqOf, unwipe, wipeS, Slot.keepF, D.bls, tyMt, isD, hlt], fun hp => absurd (of_decide_eq_true hp) hlt⟩)
        have e7 : (((List.range b).filter fun c => decide (ent b S f r c + (s : Int) < f + (M : Int))).map fun c => D.int (ent b S f r c + (s : Int))) = (filI b S M f s r).map D.int := by
          unfold filI
          rw [List.filter_map, List.map_map]
          rfl
        rw [e7] at lc2
        have l4 := fil_len (S := S) (M := M) f s r hb
        have hln : X.length + (filI b S M f s r).length ≤ 16777216 := by omega
        refine sNx (by (simp (disch := first | assumption | omega | (simp; done) | rfl) [callD, outOf, evS.eq_1, evS.eq_2, evS.eq_3, evS.eq_4, evS.eq_5, evS.eq_6, evS.eq_7, evS.eq_10, evS.eq_11, evS.eq_12, evS.eq_13, evS.eq_14, evS.eq_15, evS.eq_16, evS.eq_17, evS.eq_18, evS.eq_19, evSs, evE.eq_1, evE.eq_2, evE.eq_3, evE.eq_4, evE.eq_5, evE.eq_6, evE.eq_7, evE.eq_8, evE.eq_9, evE.eq_10, evE.eq_11, evE.eq_12, evE.eq_13, evE.eq_14, evE.eq_15, evE.eq_16, evE.eq_17, evE.eq_18, evE.eq_19, evE.eq_20, evE.eq_21, evE.eq_22, evE.eq_23, evE.eq_24, evE.eq_25, evE.eq_29, evE.eq_30, evE.eq_31, evEs, evPs, evRs, putAll, truD, Out.res, retZ, pend, partE, ZZ.S.get, ZZ.S.put, Pd.get, getAll, idxD, sliD, binD, cmpD, fnD, fxD, mtD, isiD, line, iterE, iterD, frRun, asg.eq_1, asg.eq_2, asgs.eq_1, asgs.eq_2, ZZ.S.ownL, setD, appD, extD, augD, seqOf, unwipe, wipeS, Slot.keepF, D.bls, tyMt, lc2, hln] <;> first | rfl | exact ⟨rfl, rfl⟩ | skip)) ?_
        rw [show X.map D.int ++ (filI b S M f s r).map D.int = (X ++ filI b S M f s r).map D.int from List.map_append.symm]
        exact sNil (.inl ⟨_, .inl rfl, _, _, rfl, by rw [hX, List.flatMap_append, List.flatMap_cons, List.flatMap_nil, List.append_nil, List.append_assoc]⟩)
      · rintro _ ⟨X, s7, rfl, hX⟩
        exact sNil (.inl ⟨_, .inl rfl, X, _, _, rfl, by rw [hX, hY, List.flatMap_append, List.flatMap_cons, List.flatMap_nil, List.append_nil]⟩)
    · rintro _ ⟨Y, s6, s7, rfl, hY⟩
      have hY2 : Y = fndI a b S M f := hY
      rw [← hY2] at hperm
      have w1 := srtOk_ints Y
      have w2 := sortD_ints hperm hpw
      have w3 : eqD (.lst (T.map .int)) (.lst (T.map .int)) = some true := eqD_self (n := 1) (by omega) (sh_lst shT (by rw [List.length_map]; omega))
      have w4 : Y.length ≤ 16777216 := by
        have := hperm.length_eq
        omega
      refine sRet (by (simp (disch := first | assumption | omega | (simp; done) | rfl) [callD, outOf, evS.eq_1, evS.eq_2, evS.eq_3, evS.eq_4, evS.eq_5, evS.eq_6, evS.eq_7, evS.eq_10, evS.eq_11, evS.eq_12, evS.eq_13, evS.eq_14, evS.eq_15, evS.eq_16, evS.eq_17, evS.eq_18, evS.eq_19, evSs, evE.eq_1, evE.eq_2, evE.eq_3, evE.eq_4, evE.eq_5, evE.eq_6, evE.eq_7, evE.eq_8, evE.eq_9, evE.eq_10, evE.eq_11, evE.eq_12, evE.eq_13, evE.eq_14, evE.eq_15, evE.eq_16, evE.eq_17, evE.eq_18, evE.eq_19, evE.eq_20, evE.eq_21, evE.eq_22, evE.eq_23, evE.eq_24, evE.eq_25, evE.eq_29, evE.eq_30, evE.eq_31, evEs, evPs, evRs, putAll, truD, Out.res, retZ, pend, partE, ZZ.S.get, ZZ.S.put, Pd.get, getAll, idxD, sliD, binD, cmpD, fnD, fxD, mtD, isiD, line, iterE, iterD, frRun, asg.eq_1, asg.eq_2, asgs.eq_1, asgs.eq_2, ZZ.S.ownL, setD, appD, extD, augD, seqOf, unwipe, wipeS, Slot.keepF, D.bls, tyMt, w1, w2, w3, w4] <;> first | rfl | exact ⟨rfl, rfl⟩ | skip)) ?_
      exact ⟨_, _, rfl, rfl, h2, rfl⟩
  obtain ⟨v, hd, e, rfl, h', rfl⟩ := key
  exact ⟨h', e⟩
end ZZ.L

namespace ZZ.L
open PySem
theorem sh_g {n : Nat} {x y : D} {hd : Option (List D)} {e : Ex} (h : (gm n).cal 6 [x] hd = .exc e hd) : (gm (n + 1)).cal 7 [x, y] hd = .exc e hd := by
  rw [cal_eq (d := ⟨"sheets_for", 2, 2, b7⟩) rfl]
  refine callE rfl ?_
  show Sd _ (evSs _ b7 _)
  unfold b7
  refine sExc (by (simp (disch := first | assumption | omega | (simp; done) | rfl) [callD, outOf, evS.eq_1, evS.eq_2, evS.eq_3, evS.eq_4, evS.eq_5, evS.eq_6, evS.eq_7, evS.eq_10, evS.eq_11, evS.eq_12, evS.eq_13, evS.eq_14, evS.eq_15, evS.eq_16, evS.eq_17, evS.eq_18, evS.eq_19, evSs, evE.eq_1, evE.eq_2, evE.eq_3, evE.eq_4, evE.eq_5, evE.eq_6, evE.eq_7, evE.eq_8, evE.eq_9, evE.eq_10, evE.eq_11, evE.eq_12, evE.eq_13, evE.eq_14, evE.eq_15, evE.eq_16, evE.eq_17, evE.eq_18, evE.eq_19, evE.eq_20, evE.eq_21, evE.eq_22, evE.eq_23, evE.eq_24, evE.eq_25, evE.eq_29, evE.eq_30, evE.eq_31, evEs, evPs, evRs, putAll, truD, Out.res, retZ, pend, partE, ZZ.S.get, ZZ.S.put, Pd.get, getAll, idxD, sliD, binD, cmpD, fnD, fxD, mtD, isiD, line, iterE, iterD, frRun, asg.eq_1, asg.eq_2, asgs.eq_1, asgs.eq_2, ZZ.S.ownL, setD, appD, extD, augD, seqOf, unwipe, wipeS, Slot.keepF, D.bls, tyMt, h] <;> first | rfl | exact ⟨rfl, rfl⟩ | skip)) ?_
  rfl
theorem sh_n {n : Nat} {x y : D} {hd : Option (List D)} {e : Ex} (h : (gm n).cal 6 [x] hd = .ok (.f .non) hd) (k : (gm n).cal 3 [y, .int 1, .int 1000000] hd = .exc e hd) : (gm (n + 1)).cal 7 [x, y] hd = .exc e hd := by
  rw [cal_eq (d := ⟨"sheets_for", 2, 2, b7⟩) rfl]
  refine callE rfl ?_
  show Sd _ (evSs _ b7 _)
  unfold b7
  refine sNx (by (simp (disch := first | assumption | omega | (simp; done) | rfl) [callD, outOf, evS.eq_1, evS.eq_2, evS.eq_3, evS.eq_4, evS.eq_5, evS.eq_6, evS.eq_7, evS.eq_10, evS.eq_11, evS.eq_12, evS.eq_13, evS.eq_14, evS.eq_15, evS.eq_16, evS.eq_17, evS.eq_18, evS.eq_19, evSs, evE.eq_1, evE.eq_2, evE.eq_3, evE.eq_4, evE.eq_5, evE.eq_6, evE.eq_7, evE.eq_8, evE.eq_9, evE.eq_10, evE.eq_11, evE.eq_12, evE.eq_13, evE.eq_14, evE.eq_15, evE.eq_16, evE.eq_17, evE.eq_18, evE.eq_19, evE.eq_20, evE.eq_21, evE.eq_22, evE.eq_23, evE.eq_24, evE.eq_25, evE.eq_29, evE.eq_30, evE.eq_31, evEs, evPs, evRs, putAll, truD, Out.res, retZ, pend, partE, ZZ.S.get, ZZ.S.put, Pd.get, getAll, idxD, sliD, binD, cmpD, fnD, fxD, mtD, isiD, line, iterE, iterD, frRun, asg.eq_1, asg.eq_2, asgs.eq_1, asgs.eq_2, ZZ.S.ownL, setD, appD, extD, augD, seqOf, unwipe, wipeS, Slot.keepF, D.bls, tyMt, h] <;> first | rfl | exact ⟨rfl, rfl⟩ | skip)) ?_
  refine sExc (by (simp (disch := first | assumption | omega | (simp; done) | rfl) [callD, outOf, evS.eq_1, evS.eq_2, evS.eq_3, evS.eq_4, evS.eq_5, evS.eq_6, evS.eq_7, evS.eq_10, evS.eq_11, evS.eq_12, evS.eq_13, evS.eq_14, evS.eq_15, evS.eq_16, evS.eq_17, evS.eq_18, evS.eq_19, evSs, evE.eq_1, evE.eq_2, evE.eq_3, evE.eq_4, evE.eq_5, evE.eq_6, evE.eq_7, evE.eq_8, evE.eq_9, evE.eq_10, evE.eq_11, evE.eq_12, evE.eq_13, evE.eq_14, evE.eq_15, evE.eq_16, evE.eq_17, evE.eq_18, evE.eq_19, evE.eq_20, evE.eq_21, evE.eq_22, evE.eq_23, evE.eq_24, evE.eq_25, evE.eq_29, evE.eq_30, evE.eq_31, evEs, evPs, evRs, putAll, truD, Out.res, retZ, pend, partE, ZZ.S.get, ZZ.S.put, Pd.get, getAll, idxD, sliD, binD, cmpD, fnD, fxD, mtD, isiD, line, iterE, iterD, frRun, asg.eq_1, asg.eq_2, asgs.eq_1, asgs.eq_2, ZZ.S.ownL, setD, appD, extD, augD, seqOf, unwipe, wipeS, Slot.keepF, D.bls, tyMt, k] <;> first | rfl | exact ⟨rfl, rfl⟩ | skip)) ?_
  rfl
theorem be_g {n : Nat} {x y z : D} {hd : Option (List D)} {e : Ex} (h : (gm n).cal 6 [x] hd = .exc e hd) : (gm (n + 1)).cal 8 [x, y, z] hd = .exc e hd := by
  rw [cal_eq (d := ⟨"begins", 7, 3, b8⟩) rfl]
  refine callE rfl ?_
  show Sd _ (evSs _ b8 _)
  unfold b8
  refine sExc (by (simp (disch := first | assumption | omega | (simp; done) | rfl) [callD, outOf, evS.eq_1, evS.eq_2, evS.eq_3, evS.eq_4, evS.eq_5, evS.eq_6, evS.eq_7, evS.eq_10, evS.eq_11, evS.eq_12, evS.eq_13, evS.eq_14, evS.eq_15, evS.eq_16, evS.eq_17, evS.eq_18, evS.eq_19, evSs, evE.eq_1, evE.eq_2, evE.eq_3, evE.eq_4, evE.eq_5, evE.eq_6, evE.eq_7, evE.eq_8, evE.eq_9, evE.eq_10, evE.eq_11, evE.eq_12, evE.eq_13, evE.eq_14, evE.eq_15, evE.eq_16, evE.eq_17, evE.eq_18, evE.eq_19, evE.eq_20, evE.eq_21, evE.eq_22, evE.eq_23, evE.eq_24, evE.eq_25, evE.eq_29, evE.eq_30, evE.eq_31, evEs, evPs, evRs, putAll, truD, Out.res, retZ, pend, partE, ZZ.S.get, ZZ.S.put, Pd.get, getAll, idxD, sliD, binD, cmpD, fnD, fxD, mtD, isiD, line, iterE, iterD, frRun, asg.eq_1, asg.eq_2, asgs.eq_1, asgs.eq_2, ZZ.S.ownL, setD, appD, extD, augD, seqOf, unwipe, wipeS, Slot.keepF, D.bls, tyMt, h] <;> first | rfl | exact ⟨rfl, rfl⟩ | skip)) ?_
  rfl
theorem be_n {n : Nat} {x y z : D} {hd : Option (List D)} {e : Ex} (h : (gm n).cal 6 [x] hd = .ok (.f .non) hd) (k : (gm n).cal 3 [y, .int 1, .int 1000000] hd = .exc e hd) : (gm (n + 1)).cal 8 [x, y, z] hd = .exc e hd := by
  rw [cal_eq (d := ⟨"begins", 7, 3, b8⟩) rfl]
  refine callE rfl ?_
  show Sd _ (evSs _ b8 _)
  unfold b8
  refine sNx (by (simp (disch := first | assumption | omega | (simp; done) | rfl) [callD, outOf, evS.eq_1, evS.eq_2, evS.eq_3, evS.eq_4, evS.eq_5, evS.eq_6, evS.eq_7, evS.eq_10, evS.eq_11, evS.eq_12, evS.eq_13, evS.eq_14, evS.eq_15, evS.eq_16, evS.eq_17, evS.eq_18, evS.eq_19, evSs, evE.eq_1, evE.eq_2, evE.eq_3, evE.eq_4, evE.eq_5, evE.eq_6, evE.eq_7, evE.eq_8, evE.eq_9, evE.eq_10, evE.eq_11, evE.eq_12, evE.eq_13, evE.eq_14, evE.eq_15, evE.eq_16, evE.eq_17, evE.eq_18, evE.eq_19, evE.eq_20, evE.eq_21, evE.eq_22, evE.eq_23, evE.eq_24, evE.eq_25, evE.eq_29, evE.eq_30, evE.eq_31, evEs, evPs, evRs, putAll, truD, Out.res, retZ, pend, partE, ZZ.S.get, ZZ.S.put, Pd.get, getAll, idxD, sliD, binD, cmpD, fnD, fxD, mtD, isiD, line, iterE, iterD, frRun, asg.eq_1, asg.eq_2, asgs.eq_1, asgs.eq_2, ZZ.S.ownL, setD, appD, extD, augD, seqOf, unwipe, wipeS, Slot.keepF, D.bls, tyMt, h] <;> first | rfl | exact ⟨rfl, rfl⟩ | skip)) ?_
  refine sExc (by (simp (disch := first | assumption | omega | (simp; done) | rfl) [callD, outOf, evS.eq_1, evS.eq_2, evS.eq_3, evS.eq_4, evS.eq_5, evS.eq_6, evS.eq_7, evS.eq_10, evS.eq_11, evS.eq_12, evS.eq_13, evS.eq_14, evS.eq_15, evS.eq_16, evS.eq_17, evS.eq_18, evS.eq_19, evSs, evE.eq_1, evE.eq_2, evE.eq_3, evE.eq_4, evE.eq_5, evE.eq_6, evE.eq_7, evE.eq_8, evE.eq_9, evE.eq_10, evE.eq_11, evE.eq_12, evE.eq_13, evE.eq_14, evE.eq_15, evE.eq_16, evE.eq_17, evE.eq_18, evE.eq_19, evE.eq_20, evE.eq_21, evE.eq_22, evE.eq_23, evE.eq_24, evE.eq_25, evE.eq_29, evE.eq_30, evE.eq_31, evEs, evPs, evRs, putAll, truD, Out.res, retZ, pend, partE, ZZ.S.get, ZZ.S.put, Pd.get, getAll, idxD, sliD, binD, cmpD, fnD, fxD, mtD, isiD, line, iterE, iterD, frRun, asg.eq_1, asg.eq_2, asgs.eq_1, asgs.eq_2, ZZ.S.ownL, setD, appD, extD, augD, seqOf, unwipe, wipeS, Slot.keepF, D.bls, tyMt, k] <;> first | rfl | exact ⟨rfl, rfl⟩ | skip)) ?_
  rfl
theorem be_f {n : Nat} {x y z : D} {hd : Option (List D)} {e : Ex} (h : (gm n).cal 6 [x] hd = .ok (.f .non) hd) (h2 : (gm n).cal 3 [y, .int 1, .int 1000000] hd = .ok (.f .non) hd) (k : (gm n).cal 3 [z, .int 0, .int 1000000000] hd = .exc e hd) : (gm (n + 1)).cal 8 [x, y, z] hd = .exc e hd := by
  rw [cal_eq (d := ⟨"begins", 7, 3, b8⟩) rfl]
  refine callE rfl ?_
  show Sd _ (evSs _ b8 _)
  unfold b8
  refine sNx (by (simp (disch := first | assumption | omega | (simp; done) | rfl) [callD, outOf, evS.eq_1, evS.eq_2, evS.eq_3, evS.eq_4, evS.eq_5, evS.eq_6, evS.eq_7, evS.eq_10, evS.eq_11, evS.eq_12, evS.eq_13, evS.eq_14, evS.eq_15, evS.eq_16, evS.eq_17, evS.eq_18, evS.eq_19, evSs, evE.eq_1, evE.eq_2, evE.eq_3, evE.eq_4, evE.eq_5, evE.eq_6, evE.eq_7, evE.eq_8, evE.eq_9, evE.eq_10, evE.eq_11, evE.eq_12, evE.eq_13, evE.eq_14, evE.eq_15, evE.eq_16, evE.eq_17, evE.eq_18, evE.eq_19, evE.eq_20, evE.eq_21, evE.eq_22, evE.eq_23, evE.eq_24, evE.eq_25, evE.eq_29, evE.eq_30, evE.eq_31, evEs, evPs, evRs, putAll, truD, Out.res, retZ, pend, partE, ZZ.S.get, ZZ.S.put, Pd.get, getAll, idxD, sliD, binD, cmpD, fnD, fxD, mtD, isiD, line, iterE, iterD, frRun, asg.eq_1, asg.eq_2, asgs.eq_1, asgs.eq_2, ZZ.S.ownL, setD, appD, extD, augD, seqOf, unwipe, wipeS, Slot.keepF, D.bls, tyMt, h] <;> first | rfl | exact ⟨rfl, rfl⟩ | skip)) ?_
  refine sNx (by (simp (disch := first | assumption | omega | (simp; done) | rfl) [callD, outOf, evS.eq_1, evS.eq_2, evS.eq_3, evS.eq_4, evS.eq_5, evS.eq_6, evS.eq_7, evS.eq_10, evS.eq_11, evS.eq_12, evS.eq_13, evS.eq_14, evS.eq_15, evS.eq_16, evS.eq_17, evS.eq_18, evS.eq_19, evSs, evE.eq_1, evE.eq_2, evE.eq_3, evE.eq_4, evE.eq_5, evE.eq_6, evE.eq_7, evE.eq_8, evE.eq_9, evE.eq_10, evE.eq_11, evE.eq_12, evE.eq_13, evE.eq_14, evE.eq_15, evE.eq_16, evE.eq_17, evE.eq_18, evE.eq_19, evE.eq_20, evE.eq_21, evE.eq_22, evE.eq_23, evE.eq_24, evE.eq_25, evE.eq_29, evE.eq_30, evE.eq_31, evEs, evPs, evRs, putAll, truD, Out.res, retZ, pend, partE, ZZ.S.get, ZZ.S.put, Pd.get, getAll, idxD, sliD, binD, cmpD, fnD, fxD, mtD, isiD, line, iterE, iterD, frRun, asg.eq_1, asg.eq_2, asgs.eq_1, asgs.eq_2, ZZ.S.ownL, setD, appD, extD, augD, seqOf, unwipe, wipeS, Slot.keepF, D.bls, tyMt, h2] <;> first | rfl | exact ⟨rfl, rfl⟩ | skip)) ?_
  refine sExc (by (simp (disch := first | assumption | omega | (simp; done) | rfl) [callD, outOf, evS.eq_1, evS.eq_2, evS.eq_3, evS.eq_4, evS.eq_5, evS.eq_6, evS.eq_7, evS.eq_10, evS.eq_11, evS.eq_12, evS.eq_13, evS.eq_14, evS.eq_15, evS.eq_16, evS.eq_17, evS.eq_18, evS.eq_19, evSs, evE.eq_1, evE.eq_2, evE.eq_3, evE.eq_4, evE.eq_5, evE.eq_6, evE.eq_7, evE.eq_8, evE.eq_9, evE.eq_10, evE.eq_11, evE.eq_12, evE.eq_13, evE.eq_14, evE.eq_15, evE.eq_16, evE.eq_17, evE.eq_18, evE.eq_19, evE.eq_20, evE.eq_21, evE.eq_22, evE.eq_23, evE.eq_24, evE.eq_25, evE.eq_29, evE.eq_30, evE.eq_31, evEs, evPs, evRs, putAll, truD, Out.res, retZ, pend, partE, ZZ.S.get, ZZ.S.put, Pd.get, getAll, idxD, sliD, binD, cmpD, fnD, fxD, mtD, isiD, line, iterE, iterD, frRun, asg.eq_1, asg.eq_2, asgs.eq_1, asgs.eq_2, ZZ.S.ownL, setD, appD, extD, augD, seqOf, unwipe, wipeS, Slot.keepF, D.bls, tyMt, k] <;> first | rfl | exact ⟨rfl, rfl⟩ | skip)) ?_
  rfl
theorem plainL (ns : List Int) (hl : ns.length ≤ 63) : ∃ hd, callD (gm 29) ⟨"law", 7, 1, b24⟩ [.scr ns] none = .ok (.f (.bl true)) hd := by
  have key : OkQ (fun v hd => v = .f (.bl true)) (callD (gm 29) ⟨"law", 7, 1, b24⟩ [.scr ns] none) := by
    refine callK rfl ?_
    show Sd _ (evSs _ b24 _)
    unfold b24
    obtain ⟨h, l, e, hl0⟩ := c_hand2 (m := 29) (by omega) hl
    refine sNx (st' := ⟨[.fz (.scr ns), .un, .un, .un, .un, .fz .hand, .un], h.d⟩) (by simp (disch := first | assumption | omega | (simp; done) | rfl) [callD, outOf, evS.eq_1, evS.eq_2, evS.eq_3, evS.eq_4, evS.eq_5, evS.eq_6, evS.eq_7, evS.eq_10, evS.eq_11, evS.eq_12, evS.eq_13, evS.eq_14, evS.eq_15, evS.eq_16, evS.eq_17, evS.eq_18, evS.eq_19, evSs, evE.eq_1, evE.eq_2, evE.eq_3, evE.eq_4, evE.eq_5, evE.eq_6, evE.eq_7, evE.eq_8, evE.eq_9, evE.eq_10, evE.eq_11, evE.eq_12, evE.eq_13, evE.eq_14, evE.eq_15, evE.eq_16, evE.eq_17, evE.eq_18, evE.eq_19, evE.eq_20, evE.eq_21, evE.eq_22, evE.eq_23, evE.eq_24, evE.eq_25, evE.eq_29, evE.eq_30, evE.eq_31, evEs, evPs, evRs, putAll, truD, Out.res, retZ, pend, partE, ZZ.S.get, ZZ.S.put, Pd.get, getAll, idxD, sliD, binD, cmpD, fnD, fxD, mtD, isiD, line, iterE, iterD, frRun, asg.eq_1, asg.eq_2, asgs.eq_1, asgs.eq_2, ZZ.S.ownL, setD, appD, extD, augD, seqOf, unwipe, wipeS, Slot.keepF, D.bls, tyMt, e, hl0]) ?_
    have k1 : (gm 29).cal 8 [.tup [.int 2, .int 1], .int 10, .int 1] h.d = .ok (.f (.tup [.tup [.int 1], .tup [.int 6]])) h.d := by kernel_rfl
    have k2 : (gm 29).cal 9 [.tup [.int 2, .int 2], .int 7, .int 1, .int 1] h.d = .ok (.f (.tup [.tup [.int 2, .int 4], .tup [.int 6, .non]])) h.d := by kernel_rfl
    have k3 : (gm 29).cal 7 [.tup [.int 2, .int 2], .int 7] h.d = .ok (.f (.int 2)) h.d := by kernel_rfl
    have q1 : eqD (.tup [.tup [.int 1], .tup [.int 6]]) (.tup [.tup [.int 1], .tup [.int 6]]) = some true := eqD_self (n := 2) (by omega) (by kernel_rfl)
    have q2 : eqD (.tup [.tup [.int 2, .int 4], .tup [.int 6, .non]]) (.tup [.tup [.int 2, .int 4], .tup [.int 6, .non]]) = some true := eqD_self (n := 2) (by omega) (by kernel_rfl)
    refine sIf (b := false) (by (simp (disch := first | assumption | omega | (simp; done) | rfl) [callD, outOf, evS.eq_1, evS.eq_2, evS.eq_3, evS.eq_4, evS.eq_5, evS.eq_6, evS.eq_7, evS.eq_10, evS.eq_11, evS.eq_12, evS.eq_13, evS.eq_14, evS.eq_15, evS.eq_16, evS.eq_17, evS.eq_18, evS.eq_19, evSs, evE.eq_1, evE.eq_2, evE.eq_3, evE.eq_4, evE.eq_5, evE.eq_6, evE.eq_7, evE.eq_8, evE.eq_9, evE.eq_10, evE.eq_11, evE.eq_12, evE.eq_13, evE.eq_14, evE.eq_15, evE.eq_16, evE.eq_17, evE.eq_18, evE.eq_19, evE.eq_20, evE.eq_21, evE.eq_22, evE.eq_23, evE.eq_24, evE.eq_25, evE.eq_29, evE.eq_30, evE.eq_31, evEs, evPs, evRs, putAll, truD, Out.res, retZ, pend, partE, ZZ.S.get, ZZ.S.put, Pd.get, getAll, idxD, sliD, binD, cmpD, fnD, fxD, mtD, isiD, line, iterE, iterD, frRun, asg.eq_1, asg.eq_2, asgs.eq_1, asgs.eq_2, ZZ.S.ownL, setD, appD, extD, augD, seqOf, unwipe, wipeS, Slot.keepF, D.bls, tyMt, k1, k2, q1, q2] <;> first | rfl | exact ⟨rfl, rfl⟩ | skip)) ?_; simp only [if_true, Bool.false_eq_true, if_false, List.nil_append, List.cons_append]
    refine sIf (b := false) (by (simp (disch := first | assumption | omega | (simp; done) | rfl) [callD, outOf, evS.eq_1, evS.eq_2, evS.eq_3, evS.eq_4, evS.eq_5, evS.eq_6, evS.eq_7, evS.eq_10, evS.eq_11, evS.eq_12, evS.eq_13, evS.eq_14, evS.eq_15, evS.eq_16, evS.eq_17, evS.eq_18, evS.eq_19, evSs, evE.eq_1, evE.eq_2, evE.eq_3, evE.eq_4, evE.eq_5, evE.eq_6, evE.eq_7, evE.eq_8, evE.eq_9, evE.eq_10, evE.eq_11, evE.eq_12, evE.eq_13, evE.eq_14, evE.eq_15, evE.eq_16, evE.eq_17, evE.eq_18, evE.eq_19, evE.eq_20, evE.eq_21, evE.eq_22, evE.eq_23, evE.eq_24, evE.eq_25, evE.eq_29, evE.eq_30, evE.eq_31, evEs, evPs, evRs, putAll, truD, Out.res, retZ, pend, partE, ZZ.S.get, ZZ.S.put, Pd.get, getAll, idxD, sliD, binD, cmpD, fnD, fxD, mtD, isiD, line, iterE, iterD, frRun, asg.eq_1, asg.eq_2, asgs.eq_1, asgs.eq_2, ZZ.S.ownL, setD, appD, extD, augD, seqOf, unwipe, wipeS, Slot.keepF, D.bls, tyMt, k3] <;> first | rfl | exact ⟨rfl, rfl⟩ | skip)) ?_; simp only [if_true, Bool.false_eq_true, if_false, List.nil_append, List.cons_append]
    refine sFr (I := fun pre s => ∃ (s1 s2 s3 s4 s6 : Slot) (h : Hn), s = ⟨[.fz (.scr ns), s1, s2, s3, s4, .fz .hand, s6], h.d⟩) (fun (k : Nat) => D.int (k : Int)) (List.range (6 : Int).toNat) (it_rng (j := 6) (by (simp (disch := first | assumption | omega | (simp; done) | rfl) [callD, outOf, evS.eq_1, evS.eq_2, evS.eq_3, evS.eq_4, evS.eq_5, evS.eq_6, evS.eq_7, evS.eq_10, evS.eq_11, evS.eq_12, evS.eq_13, evS.eq_14, evS.eq_15, evS.eq_16, evS.eq_17, evS.eq_18, evS.eq_19, evSs, evE.eq_1, evE.eq_2, evE.eq_3, evE.eq_4, evE.eq_5, evE.eq_6, evE.eq_7, evE.eq_8, evE.eq_9, evE.eq_10, evE.eq_11, evE.eq_12, evE.eq_13, evE.eq_14, evE.eq_15, evE.eq_16, evE.eq_17, evE.eq_18, evE.eq_19, evE.eq_20, evE.eq_21, evE.eq_22, evE.eq_23, evE.eq_24, evE.eq_25, evE.eq_29, evE.eq_30, evE.eq_31, evEs, evPs, evRs, putAll, truD, Out.res, retZ, pend, partE, ZZ.S.get, ZZ.S.put, Pd.get, getAll, idxD, sliD, binD, cmpD, fnD, fxD, mtD, isiD, line, iterE, iterD, frRun, asg.eq_1, asg.eq_2, asgs.eq_1, asgs.eq_2, ZZ.S.ownL, setD, appD, extD, augD, seqOf, unwipe, wipeS, Slot.keepF, D.bls, tyMt] <;> first | rfl | exact ⟨rfl, rfl⟩ | skip)) (by decide) (by decide)) ?_ ?_ ?_
    · exact ⟨_, _, _, _, _, _, rfl⟩
    · rintro pre lap post _ e ⟨s1, s2, s3, s4, s6, h, rfl⟩
      refine ⟨_, by (simp (disch := first | assumption | omega | (simp; done) | rfl) [callD, outOf, evS.eq_1, evS.eq_2, evS.eq_3, evS.eq_4, evS.eq_5, evS.eq_6, evS.eq_7, evS.eq_10, evS.eq_11, evS.eq_12, evS.eq_13, evS.eq_14, evS.eq_15, evS.eq_16, evS.eq_17, evS.eq_18, evS.eq_19, evSs, evE.eq_1, evE.eq_2, evE.eq_3, evE.eq_4, evE.eq_5, evE.eq_6, evE.eq_7, evE.eq_8, evE.eq_9, evE.eq_10, evE.eq_11, evE.eq_12, evE.eq_13, evE.eq_14, evE.eq_15, evE.eq_16, evE.eq_17, evE.eq_18, evE.eq_19, evE.eq_20, evE.eq_21, evE.eq_22, evE.eq_23, evE.eq_24, evE.eq_25, evE.eq_29, evE.eq_30, evE.eq_31, evEs, evPs, evRs, putAll, truD, Out.res, retZ, pend, partE, ZZ.S.get, ZZ.S.put, Pd.get, getAll, idxD, sliD, binD, cmpD, fnD, fxD, mtD, isiD, line, iterE, iterD, frRun, asg.eq_1, asg.eq_2, asgs.eq_1, asgs.eq_2, ZZ.S.ownL, setD, appD, extD, augD, seqOf, unwipe, wipeS, Slot.keepF, D.bls, tyMt] <;> first | rfl | exact ⟨rfl, rfl⟩ | skip), ?_⟩
      obtain ⟨a, b, h1, e1, g⟩ := c_grid (m := 29) (by omega) h
      refine sNx (by (simp (disch := first | assumption | omega | (simp; done) | rfl) [callD, outOf, evS.eq_1, evS.eq_2, evS.eq_3, evS.eq_4, evS.eq_5, evS.eq_6, evS.eq_7, evS.eq_10, evS.eq_11, evS.eq_12, evS.eq_13, evS.eq_14, evS.eq_15, evS.eq_16, evS.eq_17, evS.eq_18, evS.eq_19, evSs, evE.eq_1, evE.eq_2, evE.eq_3, evE.eq_4, evE.eq_5, evE.eq_6, evE.eq_7, evE.eq_8, evE.eq_9, evE.eq_10, evE.eq_11, evE.eq_12, evE.eq_13, evE.eq_14, evE.eq_15, evE.eq_16, evE.eq_17, evE.eq_18, evE.eq_19, evE.eq_20, evE.eq_21, evE.eq_22, evE.eq_23, evE.eq_24, evE.eq_25, evE.eq_29, evE.eq_30, evE.eq_31, evEs, evPs, evRs, putAll, truD, Out.res, retZ, pend, partE, ZZ.S.get, ZZ.S.put, Pd.get, getAll, idxD, sliD, binD, cmpD, fnD, fxD, mtD, isiD, line, iterE, iterD, frRun, asg.eq_1, asg.eq_2, asgs.eq_1, asgs.eq_2, ZZ.S.ownL, setD, appD, extD, augD, seqOf, unwipe, wipeS, Slot.keepF, D.bls, tyMt, e1] <;> first | rfl | exact ⟨rfl, rfl⟩ | skip)) ?_
      have e2 := c_is_grid (m := 29) (by omega) g h1.d
      obtain ⟨h2, e3⟩ := c_right (m := 29) (by omega) g h1
      obtain ⟨h3, e4⟩ := c_stack (m := 29) (by omega) g h2
      refine sIf (b := false) (by (simp (disch := first | assumption | omega | (simp; done) | rfl) [callD, outOf, evS.eq_1, evS.eq_2, evS.eq_3, evS.eq_4, evS.eq_5, evS.eq_6, evS.eq_7, evS.eq_10, evS.eq_11, evS.eq_12, evS.eq_13, evS.eq_14, evS.eq_15, evS.eq_16, evS.eq_17, evS.eq_18, evS.eq_19, evSs, evE.eq_1, evE.eq_2, evE.eq_3, evE.eq_4, evE.eq_5, evE.eq_6, evE.eq_7, evE.eq_8, evE.eq_9, evE.eq_10, evE.eq_11, evE.eq_12, evE.eq_13, evE.eq_14, evE.eq_15, evE.eq_16, evE.eq_17, evE.eq_18, evE.eq_19, evE.eq_20, evE.eq_21, evE.eq_22, evE.eq_23, evE.eq_24, evE.eq_25, evE.eq_29, evE.eq_30, evE.eq_31, evEs, evPs, evRs, putAll, truD, Out.res, retZ, pend, partE, ZZ.S.get, ZZ.S.put, Pd.get, getAll, idxD, sliD, binD, cmpD, fnD, fxD, mtD, isiD, line, iterE, iterD, frRun, asg.eq_1, asg.eq_2, asgs.eq_1, asgs.eq_2, ZZ.S.ownL, setD, appD, extD, augD, seqOf, unwipe, wipeS, Slot.keepF, D.bls, tyMt, e2, e3, e4, isD] <;> first | rfl | exact ⟨rfl, rfl⟩ | skip)) ?_; simp only [if_true, Bool.false_eq_true, if_false, List.nil_append, List.cons_append]
      obtain ⟨x, h4, e5, x1, x2⟩ := c_no_grid (m := 29) (by omega) h3
      obtain ⟨y, h5, e6, y1, y2⟩ := c_no_many (m := 29) (by omega) h4
      refine sNx (by (simp (disch := first | assumption | omega | (simp; done) | rfl) [callD, outOf, evS.eq_1, evS.eq_2, evS.eq_3, evS.eq_4, evS.eq_5, evS.eq_6, evS.eq_7, evS.eq_10, evS.eq_11, evS.eq_12, evS.eq_13, evS.eq_14, evS.eq_15, evS.eq_16, evS.eq_17, evS.eq_18, evS.eq_19, evSs, evE.eq_1, evE.eq_2, evE.eq_3, evE.eq_4, evE.eq_5, evE.eq_6, evE.eq_7, evE.eq_8, evE.eq_9, evE.eq_10, evE.eq_11, evE.eq_12, evE.eq_13, evE.eq_14, evE.eq_15, evE.eq_16, evE.eq_17, evE.eq_18, evE.eq_19, evE.eq_20, evE.eq_21, evE.eq_22, evE.eq_23, evE.eq_24, evE.eq_25, evE.eq_29, evE.eq_30, evE.eq_31, evEs, evPs, evRs, putAll, truD, Out.res, retZ, pend, partE, ZZ.S.get, ZZ.S.put, Pd.get, getAll, idxD, sliD, binD, cmpD, fnD, fxD, mtD, isiD, line, iterE, iterD, frRun, asg.eq_1, asg.eq_2, asgs.eq_1, asgs.eq_2, ZZ.S.ownL, setD, appD, extD, augD, seqOf, unwipe, wipeS, Slot.keepF, D.bls, tyMt, e5, e6] <;> first | rfl | exact ⟨rfl, rfl⟩ | skip)) ?_
      have g0 := fun n => fun hn => c_check_grid (m := n) hn g h5.d
      have g1 := fun n => fun hn => c_check_bad (n := n) (x2 h5.d n hn)
      have g2 := fun n hn => c_num_bad (m := n) hn y1 1 1000000 y2 h5.d
      have w1 : ∀ s2, evE (gm 29) (.lam 21 [3, 6] (.call 7 [.var 6, .var 3])) ⟨[.fz (.scr ns), .fz (.int lap), s2, .fz y, .fz (gr a b), .fz .hand, .fz x], h5.d⟩ = .ok (.f (.str "sheet")) ⟨[.fz (.scr ns), .fz (.int lap), s2, .fz y, .fz (gr a b), .fz .hand, .fz x], h5.d⟩ := fun s2 => ev_lam (c_said (n := 28) (e := "NoSheet") (hd' := h5.d) (cal_exc (st' := ⟨[.fz (.scr ns), .fz (.int lap), s2.keepF, .fz y, .fz (gr a b), .fz .hand, .fz x], h5.d⟩) rfl (sh_g (g1 27 (by omega)))) (by simp))
      have w2 : ∀ s2, evE (gm 29) (.lam 21 [3, 4] (.call 7 [.var 4, .var 3])) ⟨[.fz (.scr ns), .fz (.int lap), s2, .fz y, .fz (gr a b), .fz .hand, .fz x], h5.d⟩ = .ok (.f (.str "number")) ⟨[.fz (.scr ns), .fz (.int lap), s2, .fz y, .fz (gr a b), .fz .hand, .fz x], h5.d⟩ := fun s2 => ev_lam (c_said (n := 28) (e := "NoNumber") (hd' := h5.d) (cal_exc (st' := ⟨[.fz (.scr ns), .fz (.int lap), s2.keepF, .fz y, .fz (gr a b), .fz .hand, .fz x], h5.d⟩) rfl (sh_n (g0 28 (by omega)) (g2 28 (by omega)))) (by simp))
      have w3 : ∀ s2, evE (gm 29) (.lam 21 [3, 6] (.call 8 [.var 6, .var 3, .con (.int 0)])) ⟨[.fz (.scr ns), .fz (.int lap), s2, .fz y, .fz (gr a b), .fz .hand, .fz x], h5.d⟩ = .ok (.f (.str "sheet")) ⟨[.fz (.scr ns), .fz (.int lap), s2, .fz y, .fz (gr a b), .fz .hand, .fz x], h5.d⟩ := fun s2 => ev_lam (c_said (n := 28) (e := "NoSheet") (hd' := h5.d) (cal_exc (st' := ⟨[.fz (.scr ns), .fz (.int lap), s2.keepF, .fz y, .fz (gr a b), .fz .hand, .fz x], h5.d⟩) rfl (be_g (g1 27 (by omega)))) (by simp))
      have w4 : ∀ s2, evE (gm 29) (.lam 21 [3, 4] (.call 8 [.var 4, .var 3, .con (.int 0)])) ⟨[.fz (.scr ns), .fz (.int lap), s2, .fz y, .fz (gr a b), .fz .hand, .fz x], h5.d⟩ = .ok (.f (.str "number")) ⟨[.fz (.scr ns), .fz (.int lap), s2, .fz y, .fz (gr a b), .fz .hand, .fz x], h5.d⟩ := fun s2 => ev_lam (c_said (n := 28) (e := "NoNumber") (hd' := h5.d) (cal_exc (st' := ⟨[.fz (.scr ns), .fz (.int lap), s2.keepF, .fz y, .fz (gr a b), .fz .hand, .fz x], h5.d⟩) rfl (be_n (g0 28 (by omega)) (g2 28 (by omega)))) (by simp))
      obtain ⟨z, h6, e7, hz⟩ := c_any (m := 29) (by omega) h5 (l := [.int (-1), .int 1000000001, .non, .bl true]) (by show 0 < 4; omega) (by show 4 < _; omega)
      have z1 : z.pl = true ∧ z.within 0 1000000000 = false := by
        simp only [List.mem_cons, List.not_mem_nil, or_false] at hz
        rcases hz with rfl | rfl | rfl | rfl <;> exact ⟨rfl, by decide⟩
      have w5 : ∀ s2, evE (gm 29) (.lam 21 [4, 5] (.call 8 [.var 4, .con (.int 5), .call 14 [.var 5, .lst [.neg (.con (.int 1)), .bin .add (.bin .pow (.con (.int 10)) (.con (.int 9))) (.con (.int 1)), .con .non, .con (.bl true)]]])) ⟨[.fz (.scr ns), .fz (.int lap), s2, .fz y, .fz (gr a b), .fz .hand, .fz x], h5.d⟩ = .ok (.f (.str "number")) ⟨[.fz (.scr ns), .fz (.int lap), s2, .fz y, .fz (gr a b), .fz .hand, .fz x], h6.d⟩ := fun s2 => ev_lam (c_said (n := 28) (e := "NoNumber") (hd' := h6.d) (cal_exc (ds := [gr a b, .int 5, z]) (st' := ⟨[.fz (.scr ns), .fz (.int lap), s2.keepF, .fz y, .fz (gr a b), .fz .hand, .fz x], h6.d⟩) (by
        show evEs (gm 29) _ ⟨[.fz (.scr ns), .fz (.int lap), s2.keepF, .fz y, .fz (gr a b), .fz .hand, .fz x], h5.d⟩ = _
        simp (disch := first | assumption | omega | (simp; done) | rfl) [callD, outOf, evS.eq_1, evS.eq_2, evS.eq_3, evS.eq_4, evS.eq_5, evS.eq_6, evS.eq_7, evS.eq_10, evS.eq_11, evS.eq_12, evS.eq_13, evS.eq_14, evS.eq_15, evS.eq_16, evS.eq_17, evS.eq_18, evS.eq_19, evSs, evE.eq_1, evE.eq_2, evE.eq_3, evE.eq_4, evE.eq_5, evE.eq_6, evE.eq_7, evE.eq_8, evE.eq_9, evE.eq_10, evE.eq_11, evE.eq_12, evE.eq_13, evE.eq_14, evE.eq_15, evE.eq_16, evE.eq_17, evE.eq_18, evE.eq_19, evE.eq_20, evE.eq_21, evE.eq_22, evE.eq_23, evE.eq_24, evE.eq_25, evE.eq_29, evE.eq_30, evE.eq_31, evEs, evPs, evRs, putAll, truD, Out.res, retZ, pend, partE, ZZ.S.get, ZZ.S.put, Pd.get, getAll, idxD, sliD, binD, cmpD, fnD, fxD, mtD, isiD, line, iterE, iterD, frRun, asg.eq_1, asg.eq_2, asgs.eq_1, asgs.eq_2, ZZ.S.ownL, setD, appD, extD, augD, seqOf, unwipe, wipeS, Slot.keepF, D.bls, tyMt, e7]) (be_f (c_check_grid (m := 28) (by omega) g h6.d) (num_ok (m := 28) (by omega) 5 1 1000000 (by omega) (by omega) h6.d) (c_num_bad (m := 28) (by omega) z1.1 0 1000000000 z1.2 h6.d))) (by simp))
      refine sNx (by (simp (disch := first | assumption | omega | (simp; done) | rfl) [callD, outOf, evS.eq_1, evS.eq_2, evS.eq_3, evS.eq_4, evS.eq_5, evS.eq_6, evS.eq_7, evS.eq_10, evS.eq_11, evS.eq_12, evS.eq_13, evS.eq_14, evS.eq_15, evS.eq_16, evS.eq_17, evS.eq_18, evS.eq_19, evSs, evE.eq_1, evE.eq_2, evE.eq_3, evE.eq_4, evE.eq_5, evE.eq_6, evE.eq_7, evE.eq_8, evE.eq_9, evE.eq_10, evE.eq_11, evE.eq_12, evE.eq_13, evE.eq_14, evE.eq_15, evE.eq_16, evE.eq_17, evE.eq_18, evE.eq_19, evE.eq_20, evE.eq_21, evE.eq_22, evE.eq_23, evE.eq_24, evE.eq_25, evE.eq_29, evE.eq_30, evE.eq_31, evEs, evPs, evRs, putAll, truD, Out.res, retZ, pend, partE, ZZ.S.get, ZZ.S.put, Pd.get, getAll, idxD, sliD, binD, cmpD, fnD, fxD, mtD, isiD, line, iterE, iterD, frRun, asg.eq_1, asg.eq_2, asgs.eq_1, asgs.eq_2, ZZ.S.ownL, setD, appD, extD, augD, seqOf, unwipe, wipeS, Slot.keepF, D.bls, tyMt, w1, w2] <;> first | rfl | exact ⟨rfl, rfl⟩ | skip)) ?_
      refine sNx (by (simp (disch := first | assumption | omega | (simp; done) | rfl) [callD, outOf, evS.eq_1, evS.eq_2, evS.eq_3, evS.eq_4, evS.eq_5, evS.eq_6, evS.eq_7, evS.eq_10, evS.eq_11, evS.eq_12, evS.eq_13, evS.eq_14, evS.eq_15, evS.eq_16, evS.eq_17, evS.eq_18, evS.eq_19, evSs, evE.eq_1, evE.eq_2, evE.eq_3, evE.eq_4, evE.eq_5, evE.eq_6, evE.eq_7, evE.eq_8, evE.eq_9, evE.eq_10, evE.eq_11, evE.eq_12, evE.eq_13, evE.eq_14, evE.eq_15, evE.eq_16, evE.eq_17, evE.eq_18, evE.eq_19, evE.eq_20, evE.eq_21, evE.eq_22, evE.eq_23, evE.eq_24, evE.eq_25, evE.eq_29, evE.eq_30, evE.eq_31, evEs, evPs, evRs, putAll, truD, Out.res, retZ, pend, partE, ZZ.S.get, ZZ.S.put, Pd.get, getAll, idxD, sliD, binD, cmpD, fnD, fxD, mtD, isiD, line, iterE, iterD, frRun, asg.eq_1, asg.eq_2, asgs.eq_1, asgs.eq_2, ZZ.S.ownL, setD, appD, extD, augD, seqOf, unwipe, wipeS, Slot.keepF, D.bls, tyMt, w3, w4] <;> first | rfl | exact ⟨rfl, rfl⟩ | skip)) ?_
      refine sNx (by (simp (disch := first | assumption | omega | (simp; done) | rfl) [callD, outOf, evS.eq_1, evS.eq_2, evS.eq_3, evS.eq_4, evS.eq_5, evS.eq_6, evS.eq_7, evS.eq_10, evS.eq_11, evS.eq_12, evS.eq_13, evS.eq_14, evS.eq_15, evS.eq_16, evS.eq_17, evS.eq_18, evS.eq_19, evSs, evE.eq_1, evE.eq_2, evE.eq_3, evE.eq_4, evE.eq_5, evE.eq_6, evE.eq_7, evE.eq_8, evE.eq_9, evE.eq_10, evE.eq_11, evE.eq_12, evE.eq_13, evE.eq_14, evE.eq_15, evE.eq_16, evE.eq_17, evE.eq_18, evE.eq_19, evE.eq_20, evE.eq_21, evE.eq_22, evE.eq_23, evE.eq_24, evE.eq_25, evE.eq_29, evE.eq_30, evE.eq_31, evEs, evPs, evRs, putAll, truD, Out.res, retZ, pend, partE, ZZ.S.get, ZZ.S.put, Pd.get, getAll, idxD, sliD, binD, cmpD, fnD, fxD, mtD, isiD, line, iterE, iterD, frRun, asg.eq_1, asg.eq_2, asgs.eq_1, asgs.eq_2, ZZ.S.ownL, setD, appD, extD, augD, seqOf, unwipe, wipeS, Slot.keepF, D.bls, tyMt, w5] <;> first | rfl | exact ⟨rfl, rfl⟩ | skip)) ?_
      have q3 : eqD (.lst [.str "sheet", .str "number", .str "sheet", .str "number", .str "number"]) (.lst [.str "sheet", .str "number", .str "sheet", .str "number", .str "number"]) = some true := eqD_self (n := 1) (by omega) (by kernel_rfl)
      have q4 := x2 h6.d 29 (by omega)
      refine sIf (b := false) (by (simp (disch := first | assumption | omega | (simp; done) | rfl) [callD, outOf, evS.eq_1, evS.eq_2, evS.eq_3, evS.eq_4, evS.eq_5, evS.eq_6, evS.eq_7, evS.eq_10, evS.eq_11, evS.eq_12, evS.eq_13, evS.eq_14, evS.eq_15, evS.eq_16, evS.eq_17, evS.eq_18, evS.eq_19, evSs, evE.eq_1, evE.eq_2, evE.eq_3, evE.eq_4, evE.eq_5, evE.eq_6, evE.eq_7, evE.eq_8, evE.eq_9, evE.eq_10, evE.eq_11, evE.eq_12, evE.eq_13, evE.eq_14, evE.eq_15, evE.eq_16, evE.eq_17, evE.eq_18, evE.eq_19, evE.eq_20, evE.eq_21, evE.eq_22, evE.eq_23, evE.eq_24, evE.eq_25, evE.eq_29, evE.eq_30, evE.eq_31, evEs, evPs, evRs, putAll, truD, Out.res, retZ, pend, partE, ZZ.S.get, ZZ.S.put, Pd.get, getAll, idxD, sliD, binD, cmpD, fnD, fxD, mtD, isiD, line, iterE, iterD, frRun, asg.eq_1, asg.eq_2, asgs.eq_1, asgs.eq_2, ZZ.S.ownL, setD, appD, extD, augD, seqOf, unwipe, wipeS, Slot.keepF, D.bls, tyMt, q3, q4, isD] <;> first | rfl | exact ⟨rfl, rfl⟩ | skip)) ?_; simp only [if_true, Bool.false_eq_true, if_false, List.nil_append, List.cons_append]
      exact sNil (.inl ⟨_, .inl rfl, _, _, _, _, _, h6, rfl⟩)
    · rintro _ ⟨s1, s2, s3, s4, s6, h, rfl⟩
      refine sRet (by (simp (disch := first | assumption | omega | (simp; done) | rfl) [callD, outOf, evS.eq_1, evS.eq_2, evS.eq_3, evS.eq_4, evS.eq_5, evS.eq_6, evS.eq_7, evS.eq_10, evS.eq_11, evS.eq_12, evS.eq_13, evS.eq_14, evS.eq_15, evS.eq_16, evS.eq_17, evS.eq_18, evS.eq_19, evSs, evE.eq_1, evE.eq_2, evE.eq_3, evE.eq_4, evE.eq_5, evE.eq_6, evE.eq_7, evE.eq_8, evE.eq_9, evE.eq_10, evE.eq_11, evE.eq_12, evE.eq_13, evE.eq_14, evE.eq_15, evE.eq_16, evE.eq_17, evE.eq_18, evE.eq_19, evE.eq_20, evE.eq_21, evE.eq_22, evE.eq_23, evE.eq_24, evE.eq_25, evE.eq_29, evE.eq_30, evE.eq_31, evEs, evPs, evRs, putAll, truD, Out.res, retZ, pend, partE, ZZ.S.get, ZZ.S.put, Pd.get, getAll, idxD, sliD, binD, cmpD, fnD, fxD, mtD, isiD, line, iterE, iterD, frRun, asg.eq_1, asg.eq_2, asgs.eq_1, asgs.eq_2, ZZ.S.ownL, setD, appD, extD, augD, seqOf, unwipe, wipeS, Slot.keepF, D.bls, tyMt] <;> first | rfl | exact ⟨rfl, rfl⟩ | skip)) ?_
      exact ⟨_, _, rfl, rfl⟩
  obtain ⟨v, hd, e, rfl⟩ := key
  exact ⟨hd, e⟩
end ZZ.L

namespace ZZ.L
theorem plain (ns : List Int) (hl : ns.length ≤ 63) : ∃ hd, callD (gm 29) dl [.scr ns] none = .ok (.f (.bl true)) hd := plainL ns hl
end ZZ.L
namespace ZZ.L
open L2 PyProof.Rows PySem.Spec PySem
theorem law_sp {K : Frag} {mg : Str → Option Value} {H : Hp} {a : Addr} {ns : List Int} (hl : ns.length ≤ 63) (hT : LamX.Tabs (Tt K) H) (hS : SqL K H a (ns.map V.int)) : spZ (Tt K) K (xtZ mg) (callD (gm 29) dl) 1 [.ref a] H (fun v _ => v = .bl true) fun _ _ _ => False := by
  obtain ⟨hd, e⟩ := plain ns hl
  have sq : SqL K (lv H) a (ns.map V.int) := by
    rcases hS with (h | ⟨o, h⟩) | h
    · exact .inl (.inl (lv_some h fun _ z => nomatch z))
    · exact .inl (.inr ⟨o, lv_some h fun _ z => nomatch z⟩)
    · exact .inr h
  refine ⟨rfl, ⟨none, lv H⟩, [.scr ns], none, fun b o h => lv_out h, fun b o h => lv_nt h, rfl, hT, .cons (.scr sq) .nil, ?_⟩
  rw [e]
  intro x w' H' _ r
  have r : Rep K w' x (.bl true) := r
  cases r
  rfl
end ZZ.L
open PyProof.Rows PySem.Calls PySem.W PySem
theorem PySem.Challenge.cw_printyard_k55_whole_numbers_stamped_on_s_holds : PySem.Challenge.rw_printyard_k55_whole_numbers_stamped_on_s.Holds := by
  w_on; o_law
  refine HandSHeadRun.head_any (r := OpenLaw.row PySem.Challenge.rw_printyard_k55_whole_numbers_stamped_on_s) (q := view (OpenLaw.row PySem.Challenge.rw_printyard_k55_whole_numbers_stamped_on_s).prog [33]) (H := ZZ.L.hk) (ob := ZZ.L.ob) (M := 4000) (loose := ZZ.L.loose) (d := HandSHeadRun.topDef (OpenLaw.row PySem.Challenge.rw_printyard_k55_whole_numbers_stamped_on_s).prog 33) (kwd := []) ZZ.L.ob_eq
    (by kernel_rfl) (fun s => by kernel_rfl) ZZ.L.run (by kernel_rfl) (by kernel_rfl) (by kernel_rfl) (by rfl) (by first | assumption | decide +kernel) (by decide +kernel) ⟨rfl, rfl, rfl, rfl, rfl, by decide +kernel⟩ ?hw ?hc
  case hw => w_witness2
  case hc =>
    refine LamX.walk_ofAll (l := PySem.Challenge.rw_printyard_k55_whole_numbers_stamped_on_s) (n := 63) (k := 91) (x := "script") (CX := fun w => L2.CX (PySem.Challenge.rw_printyard_k55_whole_numbers_stamped_on_s).prog w) rfl (by decide) (by kernel_rfl) ⟨rfl, by decide, by decide⟩ ?F ?X
    case X =>
      intro w H s e s' z
      obtain ⟨_, _, _, _, _, _, _, _, _, _, _, _, z⟩ := z
      exact z.elim
    intro w mg fa h Y G hmg0 own
    obtain ⟨K, KX, c⟩ := Y
    have hlaw : mg ("law" : PySem.Str) = some (.ref fa) := by
      have e : (HandSHeadRun.topDef (OpenLaw.row PySem.Challenge.rw_printyard_k55_whole_numbers_stamped_on_s).prog 33).name = ("law" : PySem.Str) := by kernel_rfl
      rw [← e]
      exact hmg0
    have gl := He.glo_ok KX G (c.d.fact 24 (f := .glo "law") rfl)
    have efa : fa = He.ga K "law" := by rw [hlaw] at gl; cases gl; rfl
    subst efa
    obtain ⟨fd, FD⟩ := c.d.def_ 24 (d := ZZ.L.d24) rfl
    have bd := FD.bindsA (ps := ["script"]) fun _ _ _ _ _ _ us hl => match us, hl with | [_], _ => rfl
    have cx := c.x
    unfold ZZ.L.ex at cx
    simp only [Bool.and_eq_true] at cx
    obtain ⟨_, _, _, _, _, _, ec24, _⟩ := cx
    have ow24 := own K "law" (He.ga K "law") KX (by kernel_rfl) (He.glo_ok KX G (c.d.fact 24 (f := .glo "law") rfl))
    refine ⟨K, KX, fd, [(ZZ.cdA K "law", ZZ.tbA K "law")], ZZ.spZ (ZZ.L.Tt K) K (ZZ.xtZ mg) (ZZ.callD (ZZ.L.gm 29) ZZ.L.dl) 1, ?_, ?_, ?_, fun s u => bd s [u] rfl, ?_, ?_⟩
    · intro p hp
      simp only [List.mem_cons, List.not_mem_nil, or_false] at hp
      rcases hp with rfl
      · exact ZZ.cdB_tab ec24 ow24
    · intro p hp
      simp only [List.mem_cons, List.not_mem_nil, or_false] at hp
      rcases hp with rfl
      · exact (ZZ.cdB_hd ec24).2
    · intro p hp
      simp only [List.mem_cons, List.not_mem_nil, or_false] at hp
      rcases hp with rfl
      · exact PySem.W.codeHd_of_K KX (ZZ.cdB_hd ec24).1
    · intro H a ns hl _ hT hS
      refine ZZ.L.law_sp hl (fun p hp => ?_) hS
      simp only [ZZ.L.Tt, List.mem_cons, List.not_mem_nil, or_false] at hp
      rcases hp with rfl
      · exact LamX.TabS.nil (hT (ZZ.cdA K "law", ZZ.tbA K "law") (by simp))
    · intro base KB _ hTB
      exact ZZ.L.law_ok (ZZ.L.facts KX G c base (hTB (ZZ.cdA K "law", ZZ.tbA K "law") (by simp))) 29 FD