import PyProof.Rows.All
import Wide.All
import OpenK.AllK
import Wide.FinOn
import KE.KStateDown
import Lean
import HandS.ForExc
import HandS.ForMost
import HandS.Defaults
import HandS.Star
import HandS.FStr
import HandS.Flow
import HandS.IsInst
import HandS.TryMany
import HandS.Conv
import HandS.CallSlots
import HandS.AnyAll
import HandS.Zip
import HandS.Small
import HandS.ExcInit
import HandS.ExcOwn
import KE.KSuper
import KE.KExcSuper
import HandS.ExcField
import HandS.TryOnly
import HandS.Head0
import HandS.Head1
import HandS.Head2
import HandS.HeadEnd
import HandS.HeadHook1
import HandS.HeadHook2
import PySem.Challenge.RW_equalkin_k14_texts_that_tell_no_term
set_option Elab.async false
set_option linter.all false
set_option maxRecDepth 100000
set_option maxHeartbeats 4000000
/-! A layer of pure data over the hand layer: values are trees, a heap is kept only for what is changed in place. -/
namespace DL
open PySem PySem.Spec PyProof.Rows L2

abbrev Cd := List Nat
abbrev DK := Sum Int Cd
def mkS (l : Cd) : Str := ⟨l.toArray⟩
theorem tl_mkS (l : Cd) : (mkS l).cps.toList = l := rfl
theorem mkS_tl (x : Str) : mkS x.cps.toList = x := by cases x; rfl
theorem mkS_inj {a b : Cd} (h : mkS a = mkS b) : a = b := by
  have := congrArg (fun x : Str => x.cps.toList) h
  exact this
theorem mkS_len (l : Cd) : (mkS l).length = l.length := by simp [mkS, Str.length]
theorem mkS_app (a b : Cd) : mkS a ++ mkS b = mkS (a ++ b) := by
  show (⟨a.toArray ++ b.toArray⟩ : Str) = ⟨(a ++ b).toArray⟩
  simp
def toK : DK → Key
  | .inl i => .inl i
  | .inr s => .inr (mkS s)
theorem toK_inj {a b : DK} (h : toK a = toK b) : a = b := by
  cases a <;> cases b <;> simp [toK] at h ⊢
  · exact h
  · exact mkS_inj h

/-- an int list that stands in the written part -/
def KL (K : PySem.W.Frag) (a : Addr) (ns : List Int) : Prop := ∃ (o : Obj) (its : Array Value) (n : Nat), K.lookup a = some o ∧ o.cls = .type "list" ∧ o.dict = none ∧ o.data = .seq its n ∧ its.size ≤ sizeLine ∧ Vals (ns.map V.int) its.toList
inductive D where
  | non | bl (b : Bool) | int (i : Int) | str (s : Cd) | ty (n : String) | ref (a : Addr) | scr (ns : List Int)
  | lst (xs : List D) | tup (xs : List D) | dic (kvs : List (DK × D)) | dit (kvs : List (List DK × D)) | obj (C : Addr) (fs : List (Str × D))

mutual
inductive Rp (K : PySem.W.Frag) (F : Hp) : V → D → Prop
  | non : Rp K F .non .non
  | bl (b : Bool) : Rp K F (.bl b) (.bl b)
  | int (i : Int) : Rp K F (.int i) (.int i)
  | str (s : Cd) : Rp K F (.str (mkS s)) (.str s)
  | ty (n : String) : Rp K F (.ty n) (.ty n)
  | ref (a : Addr) : Rp K F (.ref a) (.ref a)
  | scr {a : Addr} {ns : List Int} : ((∃ o, F a = some (.frz o (.lst (ns.map V.int)))) ∨ KL K a ns) → Rp K F (.ref a) (.scr ns)
  | lst {a : Addr} {xs : List V} {ds : List D} : F a = some (.lst xs) → RpL K F xs ds → Rp K F (.ref a) (.lst ds)
  | tup {a : Addr} {xs : List V} {ds : List D} : F a = some (.tup xs) → RpL K F xs ds → Rp K F (.ref a) (.tup ds)
  | dic {a : Addr} {xs : List (Key × V)} {ds : List (DK × D)} : F a = some (.dK xs) → RpK K F xs ds → Rp K F (.ref a) (.dic ds)
  | dit {a : Addr} {xs : List (List Key × V)} {ds : List (List DK × D)} : F a = some (.dT xs) → RpT K F xs ds → Rp K F (.ref a) (.dit ds)
  | obj {a C dx : Addr} {xs : List (Str × V)} {ds : List (Str × D)} : F a = some (.ins C dx xs) → RpF K F xs ds → Rp K F (.ref a) (.obj C ds)
inductive RpL (K : PySem.W.Frag) (F : Hp) : List V → List D → Prop
  | nil : RpL K F [] []
  | cons {v : V} {d : D} {vs : List V} {ds : List D} : Rp K F v d → RpL K F vs ds → RpL K F (v :: vs) (d :: ds)
inductive RpK (K : PySem.W.Frag) (F : Hp) : List (Key × V) → List (DK × D) → Prop
  | nil : RpK K F [] []
  | cons {k : DK} {v : V} {d : D} {vs : List (Key × V)} {ds : List (DK × D)} : Rp K F v d → RpK K F vs ds → RpK K F ((toK k, v) :: vs) ((k, d) :: ds)
inductive RpT (K : PySem.W.Frag) (F : Hp) : List (List Key × V) → List (List DK × D) → Prop
  | nil : RpT K F [] []
  | cons {k : List DK} {v : V} {d : D} {vs : List (List Key × V)} {ds : List (List DK × D)} : Rp K F v d → RpT K F vs ds → RpT K F ((k.map toK, v) :: vs) ((k, d) :: ds)
inductive RpF (K : PySem.W.Frag) (F : Hp) : List (Str × V) → List (Str × D) → Prop
  | nil : RpF K F [] []
  | cons {k : Str} {v : V} {d : D} {vs : List (Str × V)} {ds : List (Str × D)} : Rp K F v d → RpF K F vs ds → RpF K F ((k, v) :: vs) ((k, d) :: ds)
end

abbrev Fle (F F' : Hp) : Prop := ∀ a o, F a = some o → F' a = some o
mutual
theorem Rp.mono {K : PySem.W.Frag} {F F' : Hp} (h : Fle F F') : ∀ {v : V} {d : D}, Rp K F v d → Rp K F' v d
  | _, _, .non => .non
  | _, _, .bl b => .bl b
  | _, _, .int i => .int i
  | _, _, .str s => .str s
  | _, _, .ty n => .ty n
  | _, _, .ref a => .ref a
  | _, _, .scr e => .scr (e.imp (fun ⟨o, e⟩ => ⟨o, h _ _ e⟩) id)
  | _, _, .lst e r => .lst (h _ _ e) (RpL.mono h r)
  | _, _, .tup e r => .tup (h _ _ e) (RpL.mono h r)
  | _, _, .dic e r => .dic (h _ _ e) (RpK.mono h r)
  | _, _, .dit e r => .dit (h _ _ e) (RpT.mono h r)
  | _, _, .obj e r => .obj (h _ _ e) (RpF.mono h r)
theorem RpL.mono {K : PySem.W.Frag} {F F' : Hp} (h : Fle F F') : ∀ {v : List V} {d : List D}, RpL K F v d → RpL K F' v d
  | _, _, .nil => .nil
  | _, _, .cons a b => .cons (Rp.mono h a) (RpL.mono h b)
theorem RpK.mono {K : PySem.W.Frag} {F F' : Hp} (h : Fle F F') : ∀ {v : List (Key × V)} {d : List (DK × D)}, RpK K F v d → RpK K F' v d
  | _, _, .nil => .nil
  | _, _, .cons a b => .cons (Rp.mono h a) (RpK.mono h b)
theorem RpT.mono {K : PySem.W.Frag} {F F' : Hp} (h : Fle F F') : ∀ {v : List (List Key × V)} {d : List (List DK × D)}, RpT K F v d → RpT K F' v d
  | _, _, .nil => .nil
  | _, _, .cons a b => .cons (Rp.mono h a) (RpT.mono h b)
theorem RpF.mono {K : PySem.W.Frag} {F F' : Hp} (h : Fle F F') : ∀ {v : List (Str × V)} {d : List (Str × D)}, RpF K F v d → RpF K F' v d
  | _, _, .nil => .nil
  | _, _, .cons a b => .cons (Rp.mono h a) (RpF.mono h b)
end

/-! ### what is changed in place -/
inductive MO where
  | lst (xs : List D) | dic (kvs : List (DK × D)) | dit (kvs : List (List DK × D)) | ins (C : Addr) (fs : List (Str × D)) | src (c : Addr) | hid
abbrev Mp := Addr → Option MO
def mset (M : Mp) (a : Addr) (o : MO) : Mp := fun b => if b = a then some o else M b
def mdel (M : Mp) (a : Addr) : Mp := fun b => if b = a then none else M b
theorem mset_same {M : Mp} {a : Addr} {o : MO} : mset M a o a = some o := if_pos rfl
theorem mset_ne {M : Mp} {a b : Addr} {o : MO} (h : b ≠ a) : mset M a o b = M b := if_neg h
theorem mdel_same {M : Mp} {a : Addr} : mdel M a a = none := if_pos rfl
theorem mdel_ne {M : Mp} {a b : Addr} (h : b ≠ a) : mdel M a b = M b := if_neg h
theorem mset_mset {M : Mp} {a : Addr} {o u : MO} : mset (mset M a o) a u = mset M a u := by
  funext b; unfold mset; split <;> rfl
theorem mset_self {M : Mp} {a : Addr} {o : MO} (h : M a = some o) : mset M a o = M := by
  funext b; unfold mset; split
  · rename_i e; rw [e, h]
  · rfl
theorem mdel_mset {M : Mp} {a : Addr} {o : MO} (h : M a = none) : mdel (mset M a o) a = M := by
  funext b; unfold mdel mset; split
  · rename_i e; rw [e, h]
  · rfl

def isDic : HO → Prop
  | .dK _ => True
  | .dT _ => True
  | _ => False
def Le (F H : Hp) : Prop := ∀ a o, F a = some o → H a = some o ∨ (isDic o ∧ ∃ ob, H a = some (.frz ob o))
theorem Le.at {F H : Hp} (h : Le F H) {a : Addr} {o : HO} (e : F a = some o) (n : ¬ isDic o) : H a = some o := by
  rcases h a o e with q | ⟨q, _⟩
  · exact q
  · exact absurd q n
theorem Le.rd {F H : Hp} (h : Le F H) {a : Addr} {o : HO} (e : F a = some o) : Rd H a o := by
  rcases h a o e with q | ⟨_, ob, q⟩
  · exact .inl q
  · exact .inr ⟨ob, q⟩
def srcD (c : Addr) (l m t : Int) : HO := .dK [(.inr "cells", .ref c), (.inr "left", .int l), (.inr "mixed", .int m), (.inr "turn", .int t)]
def MOk (K : PySem.W.Frag) (F H : Hp) (M : Mp) (p : Addr) : MO → Prop
  | .lst ds => ∃ xs, H p = some (.lst xs) ∧ RpL K F xs ds
  | .dic ds => ∃ xs, H p = some (.dK xs) ∧ RpK K F xs ds
  | .dit ds => ∃ xs, H p = some (.dT xs) ∧ RpT K F xs ds
  | .ins C ds => ∃ dx xs, H p = some (.ins C dx xs) ∧ RpF K F xs ds
  | .src c => M c = some .hid ∧ ∃ (l m t : Int) (ns : List Int), H p = some (srcD c l m t) ∧ H c = some (.lst (ns.map V.int))
  | .hid => ∃ xs, H p = some (.lst xs)
structure HM (K : PySem.W.Frag) (F : Hp) (M : Mp) (H : Hp) : Prop where
  le : Le F H
  mo : ∀ p o, M p = some o → F p = none ∧ MOk K F H M p o
theorem MOk.there {K : PySem.W.Frag} {F H : Hp} {M : Mp} {p : Addr} {o : MO} (h : MOk K F H M p o) : ∃ u, H p = some u := by
  cases o with
  | lst _ => obtain ⟨_, e, _⟩ := h; exact ⟨_, e⟩
  | dic _ => obtain ⟨_, e, _⟩ := h; exact ⟨_, e⟩
  | dit _ => obtain ⟨_, e, _⟩ := h; exact ⟨_, e⟩
  | ins _ _ => obtain ⟨_, _, e, _⟩ := h; exact ⟨_, e⟩
  | src _ => obtain ⟨_, _, _, _, _, e, _⟩ := h; exact ⟨_, e⟩
  | hid => obtain ⟨_, e⟩ := h; exact ⟨_, e⟩
theorem HM.there {K : PySem.W.Frag} {F H : Hp} {M : Mp} (h : HM K F M H) {p : Addr} {o : MO} (e : M p = some o) : ∃ u, H p = some u := (h.mo p o e).2.there
theorem HM.none {K : PySem.W.Frag} {F H : Hp} {M : Mp} (h : HM K F M H) {p : Addr} (e : H p = none) : M p = none ∧ F p = none := by
  constructor
  · cases q : M p with
    | none => rfl
    | some o => obtain ⟨u, z⟩ := h.there q; rw [e] at z; cases z
  · cases q : F p with
    | none => rfl
    | some o => rcases h.le p o q with z | ⟨_, _, z⟩ <;> rw [e] at z <;> cases z

structure Step (K : PySem.W.Frag) (F : Hp) (M : Mp) (H : Hp) (F' : Hp) (M' : Mp) (H' : Hp) : Prop where
  fle : Fle F F'
  hm : HM K F' M' H'
  frm : ∀ a o, H a = some o → M a = none → H' a = some o
  dom : ∀ a o, M' a = some o → M a ≠ none ∨ H a = none
  fnew : ∀ a o, F' a = some o → F a = some o ∨ H a = none ∨ M a ≠ none ∨ ∃ ys, H a = some (.tup ys)
section
variable {K : PySem.W.Frag} {F F1 F2 : Hp} {M M1 M2 : Mp} {H H1 H2 : Hp}
theorem Step.refl (h : HM K F M H) : Step K F M H F M H := ⟨fun _ _ e => e, h, fun _ _ e _ => e, fun a o e => .inl (by rw [e]; exact fun z => nomatch z), fun _ _ e => .inl e⟩
theorem Step.trans (a : Step K F M H F1 M1 H1) (b : Step K F1 M1 H1 F2 M2 H2) : Step K F M H F2 M2 H2 := by
  have mm : ∀ x u, M1 x = some u → M x ≠ none ∨ H x = none := a.dom
  have hh : ∀ x u, H x = some u → M x = none → H1 x = some u := a.frm
  refine ⟨fun x o e => b.fle x o (a.fle x o e), b.hm, fun x o e n => ?_, fun x o e => ?_, fun x o e => ?_⟩
  · have e1 := a.frm x o e n
    refine b.frm x o e1 ?_
    cases q : M1 x with
    | none => rfl
    | some u =>
      rcases a.dom x u q with z | z
      · exact absurd n z
      · rw [e] at z; cases z
  · rcases b.dom x o e with z | z
    · cases q : M1 x with
      | none => exact absurd q z
      | some u => exact a.dom x u q
    · cases q : H x with
      | none => exact .inr rfl
      | some u =>
        refine .inl fun n => ?_
        rw [a.frm x u q n] at z; cases z
  · rcases b.fnew x o e with z | z | z | ⟨ys, z⟩
    · rcases a.fnew x o z with y | y | y | y
      · exact .inl y
      · exact .inr (.inl y)
      · exact .inr (.inr (.inl y))
      · exact .inr (.inr (.inr y))
    · cases q : H x with
      | none => exact .inr (.inl rfl)
      | some u =>
        refine .inr (.inr (.inl fun n => ?_))
        rw [hh x u q n] at z; cases z
    · cases q : M1 x with
      | none => exact absurd q z
      | some u =>
        rcases mm x u q with y | y
        · exact .inr (.inr (.inl y))
        · exact .inr (.inl y)
    · cases q : H x with
      | none => exact .inr (.inl rfl)
      | some u =>
        cases n : M x with
        | none =>
          rw [hh x u q n] at z
          exact .inr (.inr (.inr ⟨ys, by rw [← Option.some.inj z]⟩))
        | some w => exact .inr (.inr (.inl (fun y => nomatch y)))
theorem MOk.mono (hf : Fle F F1) {p : Addr} {o : MO} (h : MOk K F H M p o) (hp : ∀ u, H p = some u → H1 p = some u) (hc : ∀ c, o = .src c → M1 c = M c ∧ ∀ u, H c = some u → H1 c = some u) : MOk K F1 H1 M1 p o := by
  cases o with
  | lst _ => obtain ⟨xs, e, r⟩ := h; exact ⟨xs, hp _ e, r.mono hf⟩
  | dic _ => obtain ⟨xs, e, r⟩ := h; exact ⟨xs, hp _ e, r.mono hf⟩
  | dit _ => obtain ⟨xs, e, r⟩ := h; exact ⟨xs, hp _ e, r.mono hf⟩
  | ins _ _ => obtain ⟨dx, xs, e, r⟩ := h; exact ⟨dx, xs, hp _ e, r.mono hf⟩
  | src c => obtain ⟨m, l, mi, t, ns, e, q⟩ := h; obtain ⟨c1, c2⟩ := hc c rfl; exact ⟨c1.trans m, l, mi, t, ns, hp _ e, c2 _ q⟩
  | hid => obtain ⟨u, e⟩ := h; exact ⟨u, hp _ e⟩
theorem upd_none {p a : Addr} {o : HO} (hp : H p = none) {u : HO} (e : H a = some u) : upd H p o a = some u := by rw [upd_ne (ne_of_none e hp)]; exact e
/-- a new object that is never changed -/
theorem Step.newF (h : HM K F M H) {p : Addr} (hp : H p = none) (o : HO) : Step K F M H (upd F p o) M (upd H p o) := by
  obtain ⟨nM, nF⟩ := h.none hp
  have hf : Fle F (upd F p o) := fun a u e => by rw [upd_ne (ne_of_none e nF)]; exact e
  refine ⟨hf, ⟨fun a u e => ?_, fun q u e => ?_⟩, fun a u e _ => upd_none hp e, fun a u e => .inl (by rw [e]; exact fun z => nomatch z), fun a u e => ?_⟩
  rotate_right
  · by_cases ha : a = p
    · exact .inr (.inl (by rw [ha]; exact hp))
    · rw [upd_ne ha] at e; exact .inl e
  · by_cases ha : a = p
    · subst ha; rw [upd_same] at e; cases e; exact .inl upd_same
    · rw [upd_ne ha] at e
      rcases h.le a u e with z | ⟨z1, ob, z⟩
      · exact .inl (upd_none hp z)
      · exact .inr ⟨z1, ob, upd_none hp z⟩
  · obtain ⟨a1, a2⟩ := h.mo q u e
    have qp : q ≠ p := fun z => by rw [z, nM] at e; cases e
    refine ⟨by rw [upd_ne qp]; exact a1, a2.mono hf (fun w z => upd_none hp z) fun c _ => ⟨rfl, fun w z => upd_none hp z⟩⟩
/-- a new object that will be changed -/
theorem Step.newM (h : HM K F M H) {p : Addr} (hp : H p = none) {o : HO} {mo : MO} (hk : MOk K F (upd H p o) (mset M p mo) p mo) : Step K F M H F (mset M p mo) (upd H p o) := by
  obtain ⟨nM, nF⟩ := h.none hp
  refine ⟨fun _ _ e => e, ⟨fun a u e => ?_, fun q u e => ?_⟩, fun a u e _ => upd_none hp e, fun a u e => ?_, fun _ _ e => .inl e⟩
  · rcases h.le a u e with z | ⟨z1, ob, z⟩
    · exact .inl (upd_none hp z)
    · exact .inr ⟨z1, ob, upd_none hp z⟩
  · by_cases hq : q = p
    · subst hq; rw [mset_same] at e; cases e; exact ⟨nF, hk⟩
    · rw [mset_ne hq] at e
      obtain ⟨a1, a2⟩ := h.mo q u e
      refine ⟨a1, a2.mono (fun _ _ e => e) (fun w z => upd_none hp z) fun c ec => ⟨?_, fun w z => upd_none hp z⟩⟩
      subst ec
      refine mset_ne fun z => ?_
      have := a2.1
      rw [z, nM] at this; cases this
  · by_cases ha : a = p
    · exact .inr (by rw [ha]; exact hp)
    · rw [mset_ne ha] at e; exact .inl (by rw [e]; exact fun z => nomatch z)
/-- an object is changed -/
theorem Step.wr (h : HM K F M H) {p : Addr} {old mo : MO} {o : HO} (e : M p = some old) (n : old ≠ .hid) (hk : MOk K F (upd H p o) (mset M p mo) p mo) : Step K F M H F (mset M p mo) (upd H p o) := by
  have nF := (h.mo p old e).1
  refine ⟨fun _ _ e => e, ⟨fun a u q => ?_, fun q u eq => ?_⟩, fun a u q na => ?_, fun a u q => ?_, fun _ _ e => .inl e⟩
  · have ap : a ≠ p := ne_of_none q nF
    rw [upd_ne ap]; exact h.le a u q
  · by_cases hq : q = p
    · subst hq; rw [mset_same] at eq; cases eq; exact ⟨nF, hk⟩
    · rw [mset_ne hq] at eq
      obtain ⟨a1, a2⟩ := h.mo q u eq
      refine ⟨a1, a2.mono (fun _ _ e => e) (fun w z => by rw [upd_ne hq]; exact z) fun c ec => ?_⟩
      subst ec
      have cp : c ≠ p := fun z => by
        have := a2.1
        rw [z, e] at this
        exact n (Option.some.inj this)
      exact ⟨mset_ne cp, fun w z => by rw [upd_ne cp]; exact z⟩
  · have ap : a ≠ p := fun z => by rw [z, e] at na; cases na
    rw [upd_ne ap]; exact q
  · by_cases ha : a = p
    · exact .inl (by rw [ha, e]; exact fun z => nomatch z)
    · rw [mset_ne ha] at q; exact .inl (by rw [q]; exact fun z => nomatch z)
/-- what was changed is never changed again -/
theorem Step.frz (h : HM K F M H) {p : Addr} {old : MO} {o : HO} (e : M p = some old) (n : old ≠ .hid) (ho : H p = some o) : Step K F M H (upd F p o) (mdel M p) H := by
  have nF := (h.mo p old e).1
  have hf : Fle F (upd F p o) := fun a u e => by rw [upd_ne (ne_of_none e nF)]; exact e
  refine ⟨hf, ⟨fun a u q => ?_, fun q u eq => ?_⟩, fun a u q _ => q, fun a u q => ?_, fun a u q => ?_⟩
  rotate_right
  · by_cases ha : a = p
    · exact .inr (.inr (.inl (by rw [ha, e]; exact fun z => nomatch z)))
    · rw [upd_ne ha] at q; exact .inl q
  · by_cases ha : a = p
    · subst ha; rw [upd_same] at q; cases q; exact .inl ho
    · rw [upd_ne ha] at q; exact h.le a u q
  · have hq : q ≠ p := fun z => by rw [z, mdel_same] at eq; cases eq
    rw [mdel_ne hq] at eq
    obtain ⟨a1, a2⟩ := h.mo q u eq
    refine ⟨by rw [upd_ne hq]; exact a1, a2.mono hf (fun _ z => z) fun c ec => ?_⟩
    subst ec
    have cp : c ≠ p := fun z => by
      have := a2.1
      rw [z, e] at this
      exact n (Option.some.inj this)
    exact ⟨mdel_ne cp, fun _ z => z⟩
  · have ha : a ≠ p := fun z => by rw [z, mdel_same] at q; cases q
    rw [mdel_ne ha] at q; exact .inl (by rw [q]; exact fun z => nomatch z)
/-- some are forgotten -/
structure Sub (M' M : Mp) : Prop where
  le : ∀ a o, M' a = some o → M a = some o
  cl : ∀ a c, M' a = some (.src c) → M' c = some .hid
theorem Sub.to (s : Sub M1 M) (h : HM K F M H) : HM K F M1 H := ⟨h.le, fun p o e => by
  obtain ⟨a1, a2⟩ := h.mo p o (s.le p o e)
  refine ⟨a1, ?_⟩
  cases o with
  | src c => obtain ⟨m, r⟩ := a2; exact ⟨s.cl p c e, r⟩
  | _ => exact a2⟩
theorem Step.drop (s : Sub M2 M1) (h : Step K F M H F1 M1 H1) : Step K F M H F1 M2 H1 := ⟨h.fle, s.to h.hm, h.frm, fun a o e => h.dom a o (s.le a o e), h.fnew⟩
/-- an object that nothing else knows of -/
theorem Step.hset (h : Step K F M H F1 M1 H1) {p : Addr} (hp : H p = none) (nF : F1 p = none) (nM : M1 p = none) (o : HO) : Step K F M H F1 M1 (upd H1 p o) := by
  refine ⟨h.fle, ⟨fun a u e => ?_, fun q u e => ?_⟩, fun a u e n => ?_, h.dom, h.fnew⟩
  · rw [upd_ne (ne_of_none e nF)]; exact h.hm.le a u e
  · obtain ⟨a1, a2⟩ := h.hm.mo q u e
    have qp : q ≠ p := fun z => by rw [z, nM] at e; cases e
    refine ⟨a1, a2.mono (fun _ _ e => e) (fun w z => by rw [upd_ne qp]; exact z) fun c ec => ⟨rfl, fun w z => ?_⟩⟩
    subst ec
    have cp : c ≠ p := fun z => by
      have := a2.1
      rw [z, nM] at this; cases this
    rw [upd_ne cp]; exact z
  · rw [upd_ne (ne_of_none e hp)]; exact h.frm a u e n
theorem Step.hfrz (h : Step K F M H F1 M1 H1) {p : Addr} {o : HO} (hp : H p = none) (nF : F1 p = none) (nM : M1 p = none) (e : H1 p = some o) : Step K F M H (upd F1 p o) M1 H1 := by
  have hf : Fle F1 (upd F1 p o) := fun a u e => by rw [upd_ne (ne_of_none e nF)]; exact e
  refine ⟨fun a u e => hf a u (h.fle a u e), ⟨fun a u q => ?_, fun q u eq => ?_⟩, h.frm, h.dom, fun a u q => ?_⟩
  · by_cases ha : a = p
    · subst ha; rw [upd_same] at q; cases q; exact .inl e
    · rw [upd_ne ha] at q; exact h.hm.le a u q
  · obtain ⟨a1, a2⟩ := h.hm.mo q u eq
    have qp : q ≠ p := fun z => by rw [z, nM] at eq; cases eq
    exact ⟨by rw [upd_ne qp]; exact a1, a2.mono hf (fun _ z => z) fun c _ => ⟨rfl, fun _ z => z⟩⟩
  · by_cases ha : a = p
    · exact .inr (.inl (by rw [ha]; exact hp))
    · rw [upd_ne ha] at q; exact h.fnew a u q
theorem Step.hmut (h : Step K F M H F1 M1 H1) {p : Addr} {mo : MO} (hp : H p = none) (nF : F1 p = none) (nM : M1 p = none) (hk : MOk K F1 H1 (mset M1 p mo) p mo) : Step K F M H F1 (mset M1 p mo) H1 := by
  refine ⟨h.fle, ⟨h.hm.le, fun q u eq => ?_⟩, h.frm, fun a u q => ?_, h.fnew⟩
  · by_cases hq : q = p
    · subst hq; rw [mset_same] at eq; cases eq; exact ⟨nF, hk⟩
    · rw [mset_ne hq] at eq
      obtain ⟨a1, a2⟩ := h.hm.mo q u eq
      refine ⟨a1, a2.mono (fun _ _ e => e) (fun _ z => z) fun c ec => ⟨?_, fun _ z => z⟩⟩
      subst ec
      refine mset_ne fun z => ?_
      have := a2.1
      rw [z, nM] at this; cases this
  · by_cases ha : a = p
    · exact .inr (by rw [ha]; exact hp)
    · rw [mset_ne ha] at q; exact h.dom a u q
/-- such an object stays as it is -/
theorem Step.hid (h : Step K F M H F1 M1 H1) {p : Addr} {xs : List V} (e : H p = some (.lst xs)) (nF : F p = none) (nM : M p = none) : H1 p = some (.lst xs) ∧ F1 p = none ∧ M1 p = none := by
  refine ⟨h.frm p _ e nM, ?_, ?_⟩
  · cases q : F1 p with
    | none => rfl
    | some o =>
      rcases h.fnew p o q with z | z | z | ⟨ys, z⟩
      · rw [nF] at z; cases z
      · rw [e] at z; cases z
      · exact absurd nM z
      · rw [e] at z; cases z
  · cases q : M1 p with
    | none => rfl
    | some o =>
      rcases h.dom p o q with z | z
      · exact absurd nM z
      · rw [e] at z; cases z
theorem HM.closed (h : HM K F M H) : Sub M M := ⟨fun _ _ e => e, fun a c e => (h.mo a _ e).2.1⟩
theorem Sub.new (s : Sub M1 M) {p : Addr} {o : MO} (n : M1 p = none) : Sub M1 (mset M p o) := ⟨fun a u e => by
  rw [mset_ne (fun z => by rw [z, n] at e; cases e)]; exact s.le a u e, s.cl⟩
theorem Sub.set (s : Sub M1 M) {p : Addr} {o : MO} (h1 : M1 p ≠ some .hid) (h2 : ∀ c, o ≠ .src c) : Sub (mset M1 p o) (mset M p o) := ⟨fun a u e => by
  by_cases ha : a = p
  · rw [ha, mset_same] at e; rw [ha, mset_same]; exact e
  · rw [mset_ne ha] at e; rw [mset_ne ha]; exact s.le a u e, fun a c e => by
  by_cases ha : a = p
  · rw [ha, mset_same] at e; exact absurd (Option.some.inj e) (h2 c)
  · rw [mset_ne ha] at e
    have := s.cl a c e
    rw [mset_ne (fun z => h1 (by rw [← z]; exact this))]; exact this⟩
theorem Sub.del (s : Sub M1 M) {p : Addr} (n : M1 p = none) : Sub M1 (mdel M p) := ⟨fun a u e => by
  rw [mdel_ne (fun z => by rw [z, n] at e; cases e)]; exact s.le a u e, s.cl⟩
end
end DL


set_option Elab.async false
set_option linter.all false
set_option maxRecDepth 100000
set_option maxHeartbeats 4000000
namespace DL
open PySem PySem.Spec PyProof.Rows L2

abbrev DEnv := List (Option D)
def rget : DEnv → Nat → Option D
  | [], _ => none
  | x :: _, 0 => x
  | _ :: r, n + 1 => rget r n
def rset : DEnv → Nat → Option D → DEnv
  | [], _, _ => []
  | _ :: r, 0, d => d :: r
  | x :: r, n + 1, d => x :: rset r n d
theorem rset_length : ∀ (ρ : DEnv) (i : Nat) (d : Option D), (rset ρ i d).length = ρ.length
  | [], _, _ => rfl
  | _ :: _, 0, _ => rfl
  | _ :: r, n + 1, d => by simp [rset, rset_length r n d]
theorem rget_rset_ne : ∀ (ρ : DEnv) {i j : Nat} (d : Option D), j ≠ i → rget (rset ρ i d) j = rget ρ j
  | [], _, _, _, _ => rfl
  | _ :: _, 0, 0, _, h => absurd rfl h
  | _ :: _, 0, j + 1, _, _ => rfl
  | _ :: _, i + 1, 0, _, _ => rfl
  | _ :: r, i + 1, j + 1, d, h => rget_rset_ne r d (fun e => h (by rw [e]))
theorem rget_rset : ∀ (ρ : DEnv) {i : Nat} {d e : Option D} {x : D}, rget (rset ρ i d) i = some x → d = some x ∧ i < ρ.length
  | [], _, _, _, _, h => nomatch h
  | _ :: _, 0, _, _, _, h => ⟨h, by simp⟩
  | _ :: r, i + 1, d, e, x, h => by
    obtain ⟨a, b⟩ := rget_rset r (e := e) h
    exact ⟨a, by simpa using b⟩
structure RpE (K : PySem.W.Frag) (F : Hp) (σ : L2.St) (ρ : DEnv) : Prop where
  len : σ.length = ρ.length
  get : ∀ i d, rget ρ i = some d → ∃ v, σ[i]? = some (some v) ∧ Rp K F v d
theorem RpE.mono {K : PySem.W.Frag} {F F' : Hp} (h : Fle F F') {σ : L2.St} {ρ : DEnv} (e : RpE K F σ ρ) : RpE K F' σ ρ :=
  ⟨e.len, fun i d q => let ⟨v, a, b⟩ := e.get i d q; ⟨v, a, b.mono h⟩⟩
theorem RpE.set {K : PySem.W.Frag} {F : Hp} {σ : L2.St} {ρ : DEnv} (e : RpE K F σ ρ) (i : Nat) {v : V} {d : D} (r : Rp K F v d) : RpE K F (σ.set i (some v)) (rset ρ i (some d)) := by
  refine ⟨by rw [List.length_set, rset_length]; exact e.len, fun j x q => ?_⟩
  by_cases h : j = i
  · subst h
    obtain ⟨a, b⟩ := rget_rset ρ (e := none) q
    cases a
    exact ⟨v, by rw [List.getElem?_set_self (by rw [e.len]; exact b)], r⟩
  · rw [rget_rset_ne ρ _ h] at q
    obtain ⟨u, a, b⟩ := e.get j x q
    exact ⟨u, by rw [List.getElem?_set_ne (Ne.symm h)]; exact a, b⟩
theorem RpE.unset {K : PySem.W.Frag} {F : Hp} {σ : L2.St} {ρ : DEnv} (e : RpE K F σ ρ) (i : Nat) : RpE K F (σ.set i none) (rset ρ i none) := by
  refine ⟨by rw [List.length_set, rset_length]; exact e.len, fun j x q => ?_⟩
  by_cases h : j = i
  · subst h
    obtain ⟨a, b⟩ := rget_rset ρ (e := none) q
    cases a
  · rw [rget_rset_ne ρ _ h] at q
    obtain ⟨u, a, b⟩ := e.get j x q
    exact ⟨u, by rw [List.getElem?_set_ne (Ne.symm h)]; exact a, b⟩
def dwipe (ρ : DEnv) : List Nat → DEnv
  | [] => ρ
  | i :: r => rset (dwipe ρ r) i none
theorem RpE.wipe {K : PySem.W.Frag} {F : Hp} {σ : L2.St} {ρ : DEnv} (e : RpE K F σ ρ) : ∀ vs, RpE K F (L2.wipe σ vs) (dwipe ρ vs)
  | [] => e
  | _ :: vs => (RpE.wipe e vs).unset _
theorem wipe_set (σ : L2.St) (i : Nat) (x : Option V) : ∀ {ws : List Nat}, i ∈ ws → L2.wipe (σ.set i x) ws = L2.wipe σ ws
  | [], h => by cases h
  | w :: ws, h => by
    show (L2.wipe (σ.set i x) ws).set w none = (L2.wipe σ ws).set w none
    by_cases e : i ∈ ws
    · rw [wipe_set σ i x e]
    · have hw : i = w := by
        rcases List.mem_cons.mp h with z | z
        · exact z
        · exact absurd z e
      subst hw
      have comm : ∀ (vs : List Nat) (τ : L2.St), i ∉ vs → L2.wipe (τ.set i x) vs = (L2.wipe τ vs).set i x := by
        intro vs
        induction vs with
        | nil => intro τ _; rfl
        | cons v vs ih =>
          intro τ hn
          simp only [List.mem_cons, not_or] at hn
          show (L2.wipe (τ.set i x) vs).set v none = ((L2.wipe τ vs).set v none).set i x
          rw [ih τ hn.2, List.set_comm _ _ hn.1]
      rw [comm ws σ e, List.set_set]

abbrev DXK := Addr → List (Str × D) → Mp → Prop
abbrev TDE := DEnv → Mp → (D → Mp → Prop) → Prop
abbrev TDT := DEnv → Mp → (Bool → Mp → Prop) → Prop
abbrev TDA := DEnv → Mp → (List D → Mp → Prop) → Prop
def XAt (H : Hp) : Option Addr → List (Str × V) → Prop
  | none, fs => fs = []
  | some a, fs => H a = some (.xd fs)
def XC (K : PySem.W.Frag) (E0 : L2.St → XK) (Ee : DEnv → DXK) (F : Hp) (M : Mp) (H : Hp) : Prop :=
  ∀ F' M' H' σ ρ C d xs ds, Step K F M H F' M' H' → RpE K F' σ ρ → XAt H' d xs → RpF K F' xs ds → Ee ρ C ds M' → E0 σ (.ref C) d H'
structure SS (K : PySem.W.Frag) (E0 : L2.St → XK) (Ee : DEnv → DXK) (σ : L2.St) (H F : Hp) (M : Mp) (ρ : DEnv) : Prop where
  hm : HM K F M H
  env : RpE K F σ ρ
  xc : XC K E0 Ee F M H
section
variable {K : PySem.W.Frag} {E0 : L2.St → XK} {Ee : DEnv → DXK} {σ σ' : L2.St} {H F H' F' : Hp} {M M' : Mp} {ρ ρ' : DEnv}
theorem XC.step (x : XC K E0 Ee F M H) (s : Step K F M H F' M' H') : XC K E0 Ee F' M' H' := fun F1 M1 H1 σ ρ C d xs ds s1 => x F1 M1 H1 σ ρ C d xs ds (s.trans s1)
theorem SS.step (x : SS K E0 Ee σ H F M ρ) (s : Step K F M H F' M' H') : SS K E0 Ee σ H' F' M' ρ := ⟨s.hm, x.env.mono s.fle, x.xc.step s⟩
theorem SS.to (x : SS K E0 Ee σ H F M ρ) (s : Step K F M H F' M' H') (e : RpE K F' σ' ρ') : SS K E0 Ee σ' H' F' M' ρ' := ⟨s.hm, e, x.xc.step s⟩
end
/-- what follows -/
def Kont {α β : Type} (K : PySem.W.Frag) (R : Hp → α → β → Prop) (F : Hp) (M : Mp) (H : Hp) (Q : β → Mp → Prop) (Q0 : α → Hp → Prop) : Prop :=
  ∀ v H' F' d M', Step K F M H F' M' H' → R F' v d → Q d M' → Q0 v H'
section
variable {α β : Type} {K : PySem.W.Frag} {R : Hp → α → β → Prop} {F F' : Hp} {M M' : Mp} {H H' : Hp} {Q : β → Mp → Prop} {Q0 : α → Hp → Prop}
theorem Kont.step (k : Kont K R F M H Q Q0) (s : Step K F M H F' M' H') : Kont K R F' M' H' Q Q0 := fun v H1 F1 d M1 s1 => k v H1 F1 d M1 (s.trans s1)
theorem Kont.end (k : Kont K R F M H Q Q0) (h : HM K F M H) {v : α} {d : β} (r : R F v d) (q : Q d M) : Q0 v H := k v H F d M (.refl h) r q
end
abbrev KE (K : PySem.W.Frag) := Kont K (fun F (v : V) (d : D) => Rp K F v d)
abbrev KB (K : PySem.W.Frag) := Kont K (fun _ (v : Bool) (d : Bool) => v = d)
abbrev KA (K : PySem.W.Frag) := Kont K (fun F (v : List V) (d : List D) => RpL K F v d)
def lowE (K : PySem.W.Frag) (E0 : L2.St → XK) (Ee : DEnv → DXK) (t : TDE) : TE := fun σ H Q0 => ∃ F M ρ Q, SS K E0 Ee σ H F M ρ ∧ t ρ M Q ∧ KE K F M H Q Q0
def lowT (K : PySem.W.Frag) (E0 : L2.St → XK) (Ee : DEnv → DXK) (t : TDT) : TT := fun σ H Q0 => ∃ F M ρ Q, SS K E0 Ee σ H F M ρ ∧ t ρ M Q ∧ KB K F M H Q Q0
def lowA (K : PySem.W.Frag) (E0 : L2.St → XK) (Ee : DEnv → DXK) (t : TDA) : TA := fun σ H Q0 => ∃ F M ρ Q, SS K E0 Ee σ H F M ρ ∧ t ρ M Q ∧ KA K F M H Q Q0
def DE (X : Cx) (E0 : L2.St → XK) (Ee : DEnv → DXK) (e : Expr) (t : TDE) : Prop := PE X e (lowE X.K E0 Ee t)
def DT (X : Cx) (E0 : L2.St → XK) (Ee : DEnv → DXK) (e : Expr) (t : TDT) : Prop := PT X e (lowT X.K E0 Ee t)
def DW (X : Cx) (E0 : L2.St → XK) (Ee : DEnv → DXK) (e : Expr) (t : TDT) : Prop := PW X e (lowT X.K E0 Ee t)
def DA (X : Cx) (E0 : L2.St → XK) (Ee : DEnv → DXK) (es : List Expr) (t : TDA) : Prop := PA X es (lowA X.K E0 Ee t)
theorem PEimp {X : Cx} {e : Expr} {t u : TE} (h : PE X e t) (i : ∀ σ H Q, u σ H Q → t σ H Q) : PE X e u := ⟨fun pins s σ H Q I q => h.run pins s σ H Q I (i _ _ _ q)⟩
theorem PTimp {X : Cx} {e : Expr} {t u : TT} (h : PT X e t) (i : ∀ σ H Q, u σ H Q → t σ H Q) : PT X e u := ⟨fun pins s σ H Q I q => h.run pins s σ H Q I (i _ _ _ q)⟩
theorem PWimp {X : Cx} {e : Expr} {t u : TT} (h : PW X e t) (i : ∀ σ H Q, u σ H Q → t σ H Q) : PW X e u := ⟨fun wh pins s σ H Q I q => h.run wh pins s σ H Q I (i _ _ _ q)⟩
theorem PAimp {X : Cx} {e : List Expr} {t u : TA} (h : PA X e t) (i : ∀ σ H Q, u σ H Q → t σ H Q) : PA X e u := ⟨fun pos pins s σ H Q I q => h.run pos pins s σ H Q I (i _ _ _ q)⟩
theorem PSimp {X : Cx} {e : Stmt} {t u : TS} (h : PS X e t) (i : ∀ D σ H, u D σ H → t D σ H) : PS X e u := ⟨fun pins s σ H D I q => h.run pins s σ H D I (i _ _ _ q)⟩
theorem PSsimp {X : Cx} {e : List Stmt} {t u : TS} (h : PSs X e t) (i : ∀ D σ H, u D σ H → t D σ H) : PSs X e u := ⟨fun pins s σ H D I q => h.run pins s σ H D I (i _ _ _ q)⟩

/-! ### what a datum is at the heap -/
def vw (M : Mp) : D → D
  | .ref p => match M p with
    | some (.lst ds) => .lst ds
    | some (.dic ds) => .dic ds
    | some (.dit ds) => .dit ds
    | some (.ins C fs) => .obj C fs
    | _ => .ref p
  | d => d
def Ct (K : PySem.W.Frag) (F H : Hp) (v : V) : D → Prop
  | .lst ds => ∃ a xs, v = .ref a ∧ H a = some (.lst xs) ∧ RpL K F xs ds
  | .tup ds => ∃ a xs, v = .ref a ∧ H a = some (.tup xs) ∧ RpL K F xs ds
  | .dic ds => ∃ a xs, v = .ref a ∧ Rd H a (.dK xs) ∧ RpK K F xs ds
  | .dit ds => ∃ a xs, v = .ref a ∧ Rd H a (.dT xs) ∧ RpT K F xs ds
  | .obj C ds => ∃ a dx xs, v = .ref a ∧ H a = some (.ins C dx xs) ∧ RpF K F xs ds
  | .scr ns => ∃ a, v = .ref a ∧ SqL K H a (ns.map V.int) ∧ TyX K H (.ref a) (.type "list")
  | .non => v = .non
  | .bl b => v = .bl b
  | .int i => v = .int i
  | .str s => v = .str (mkS s)
  | .ty n => v = .ty n
  | .ref a => v = .ref a
theorem Ct.of {K : PySem.W.Frag} {F H : Hp} {v : V} {d : D} (le : Le F H) (r : Rp K F v d) : Ct K F H v d := by
  cases r with
  | non => rfl
  | bl => rfl
  | int => rfl
  | str => rfl
  | ty => rfl
  | ref => rfl
  | scr e =>
    rcases e with ⟨o, e⟩ | e
    · exact ⟨_, rfl, .inl (.inr ⟨o, le.at e (fun z => z)⟩), .base (.frz (le.at e (fun z => z)))⟩
    · exact ⟨_, rfl, .inr e, let ⟨o, _, _, h1, h2, _⟩ := e; .kList h1 h2⟩
  | lst e q => exact ⟨_, _, rfl, le.at e (fun z => z), q⟩
  | tup e q => exact ⟨_, _, rfl, le.at e (fun z => z), q⟩
  | dic e q => exact ⟨_, _, rfl, le.rd e, q⟩
  | dit e q => exact ⟨_, _, rfl, le.rd e, q⟩
  | obj e q => exact ⟨_, _, _, rfl, le.at e (fun z => z), q⟩
theorem Ct.vw {K : PySem.W.Frag} {F H : Hp} {M : Mp} {v : V} {d : D} (h : HM K F M H) (r : Rp K F v d) : Ct K F H v (vw M d) := by
  have c := Ct.of h.le r
  cases d with
  | ref p =>
    have e : v = .ref p := c
    subst e
    cases q : M p with
    | none =>
      have z : DL.vw M (.ref p) = .ref p := by simp only [DL.vw, q]
      rw [z]; rfl
    | some o =>
      have z := (h.mo p o q).2
      cases o with
      | lst ds =>
        obtain ⟨xs, e, r⟩ := z
        have z : DL.vw M (.ref p) = .lst ds := by simp only [DL.vw, q]
        rw [z]; exact ⟨p, xs, rfl, e, r⟩
      | dic ds =>
        obtain ⟨xs, e, r⟩ := z
        have z : DL.vw M (.ref p) = .dic ds := by simp only [DL.vw, q]
        rw [z]; exact ⟨p, xs, rfl, .inl e, r⟩
      | dit ds =>
        obtain ⟨xs, e, r⟩ := z
        have z : DL.vw M (.ref p) = .dit ds := by simp only [DL.vw, q]
        rw [z]; exact ⟨p, xs, rfl, .inl e, r⟩
      | ins C ds =>
        obtain ⟨dx, xs, e, r⟩ := z
        have z : DL.vw M (.ref p) = .obj C ds := by simp only [DL.vw, q]
        rw [z]; exact ⟨p, dx, xs, rfl, e, r⟩
      | src c =>
        have z : DL.vw M (.ref p) = .ref p := by simp only [DL.vw, q]
        rw [z]; rfl
      | hid =>
        have z : DL.vw M (.ref p) = .ref p := by simp only [DL.vw, q]
        rw [z]; rfl
  | _ => exact c
section
variable {K : PySem.W.Frag} {F H : Hp}
theorem RpL.length : ∀ {xs : List V} {ds : List D}, RpL K F xs ds → xs.length = ds.length
  | _, _, .nil => rfl
  | _, _, .cons _ b => by simp [RpL.length b]
theorem RpL.app : ∀ {xs ys : List V} {ds es : List D}, RpL K F xs ds → RpL K F ys es → RpL K F (xs ++ ys) (ds ++ es)
  | _, _, _, _, .nil, b => b
  | _, _, _, _, .cons a t, b => .cons a (RpL.app t b)
theorem RpL.at : ∀ {xs : List V} {ds : List D} {i : Nat} {d : D}, RpL K F xs ds → ds[i]? = some d → ∃ v, xs[i]? = some v ∧ Rp K F v d
  | _, _, _, _, .nil, e => nomatch (show (none : Option D) = _ from e)
  | _, _, 0, _, .cons a t, e => ⟨_, rfl, by cases (show some _ = some _ from e); exact a⟩
  | _, _, i + 1, _, .cons a t, e => RpL.at (i := i) t e
theorem RpL.at' : ∀ {xs : List V} {ds : List D} {i : Nat} {v : V}, RpL K F xs ds → xs[i]? = some v → ∃ d, ds[i]? = some d ∧ Rp K F v d
  | _, _, _, _, .nil, e => nomatch (show (none : Option V) = _ from e)
  | _, _, 0, _, .cons a t, e => ⟨_, rfl, by cases (show some _ = some _ from e); exact a⟩
  | _, _, i + 1, _, .cons a t, e => RpL.at' (i := i) t e
theorem RpL.take : ∀ {xs : List V} {ds : List D} (n : Nat), RpL K F xs ds → RpL K F (xs.take n) (ds.take n)
  | _, _, 0, _ => .nil
  | _, _, _ + 1, .nil => .nil
  | _, _, n + 1, .cons a t => .cons a (RpL.take n t)
theorem RpL.drop : ∀ {xs : List V} {ds : List D} (n : Nat), RpL K F xs ds → RpL K F (xs.drop n) (ds.drop n)
  | _, _, 0, r => r
  | _, _, _ + 1, .nil => .nil
  | _, _, n + 1, .cons _ t => RpL.drop n t
theorem RpL.set : ∀ {xs : List V} {ds : List D} (i : Nat) {v : V} {d : D}, RpL K F xs ds → Rp K F v d → RpL K F (xs.set i v) (ds.set i d)
  | _, _, _, _, _, .nil, _ => .nil
  | _, _, 0, _, _, .cons _ t, r => .cons r t
  | _, _, i + 1, _, _, .cons a t, r => .cons a (RpL.set i t r)
theorem RpL.rev {xs : List V} {ds : List D} (r : RpL K F xs ds) : RpL K F xs.reverse ds.reverse := by
  induction xs generalizing ds with
  | nil => cases r; exact .nil
  | cons x xs ih =>
    cases r with
    | cons a t => rw [List.reverse_cons, List.reverse_cons]; exact RpL.app (ih t) (.cons a .nil)
theorem RpL.rep {xs : List V} {ds : List D} (r : RpL K F xs ds) : ∀ n : Nat, RpL K F (List.replicate n xs).flatten (List.replicate n ds).flatten
  | 0 => .nil
  | n + 1 => by rw [List.replicate_succ, List.replicate_succ, List.flatten_cons, List.flatten_cons]; exact RpL.app r (RpL.rep r n)
theorem RpL.ints : ∀ (ns : List Int), RpL K F (ns.map V.int) (ns.map D.int)
  | [] => .nil
  | n :: r => .cons (.int n) (RpL.ints r)
theorem RpL.of_ints : ∀ {ns : List Int} {xs : List V}, RpL K F xs (ns.map D.int) → xs = ns.map V.int
  | [], _, .nil => rfl
  | n :: r, _, .cons a t => by cases a; rw [RpL.of_ints t]; rfl
theorem RpL.of_strs : ∀ {ns : List Cd} {xs : List V}, RpL K F xs (ns.map D.str) → xs = (ns.map mkS).map V.str
  | [], _, .nil => rfl
  | n :: r, _, .cons a t => by cases a; rw [RpL.of_strs t]; rfl
theorem RpL.strs : ∀ (ns : List Cd), RpL K F ((ns.map mkS).map V.str) (ns.map D.str)
  | [] => .nil
  | n :: r => .cons (.str n) (RpL.strs r)
theorem RpL.of_bls : ∀ {ns : List Bool} {xs : List V}, RpL K F xs (ns.map D.bl) → xs = ns.map V.bl
  | [], _, .nil => rfl
  | n :: r, _, .cons a t => by cases a; rw [RpL.of_bls t]; rfl
/-- a new frozen list, tuple -/
theorem newLst {H : Hp} {F : Hp} {M : Mp} {ds : List D} {xs : List V} {Q : D → Mp → Prop} {Q0 : VK} (h : HM K F M H) (r : RpL K F xs ds) (q : Q (.lst ds) M) (k : KE K F M H Q Q0) : ∀ p, H p = none → Q0 (.ref p) (upd H p (.lst xs)) := fun p hp => by
  have s := Step.newF h hp (.lst xs)
  exact k _ _ _ _ _ s (.lst upd_same (r.mono s.fle)) q
theorem newTup {H : Hp} {F : Hp} {M : Mp} {ds : List D} {xs : List V} {Q : D → Mp → Prop} {Q0 : VK} (h : HM K F M H) (r : RpL K F xs ds) (q : Q (.tup ds) M) (k : KE K F M H Q Q0) : ∀ p, H p = none → Q0 (.ref p) (upd H p (.tup xs)) := fun p hp => by
  have s := Step.newF h hp (.tup xs)
  exact k _ _ _ _ _ s (.tup upd_same (r.mono s.fle)) q
theorem newMut {H : Hp} {F : Hp} {M : Mp} {ds : List D} {xs : List V} {Q : D → Mp → Prop} {Q0 : VK} (h : HM K F M H) (r : RpL K F xs ds) (q : ∀ p, M p = none → Q (.ref p) (mset M p (.lst ds))) (k : KE K F M H Q Q0) : ∀ p, H p = none → Q0 (.ref p) (upd H p (.lst xs)) := fun p hp => by
  have s := Step.newM h hp (o := .lst xs) (mo := .lst ds) ⟨xs, upd_same, r⟩
  exact k _ _ _ _ _ s (.ref p) (q p (h.none hp).1)
end

section
variable {X : Cx} {E0 : L2.St → XK} {Ee : DEnv → DXK} {a b c e : Expr} {es : List Expr} {ta tb tc te : TDE} {pos : Pos}
/-! ### names and constants -/
def dVar (i : Nat) : TDE := fun ρ M Q => match rget ρ i with
  | some d => Q d M
  | none => False
def dC (d : D) : TDE := fun _ M Q => Q d M
theorem de_pv {i : Nat} {e : Expr} (h : PE X e (tVar i)) : DE X E0 Ee e (dVar i) := PEimp h fun σ H Q0 ⟨F, M, ρ, Q, ss, q, k⟩ => by
  unfold dVar at q
  cases z : rget ρ i with
  | none => rw [z] at q; exact q.elim
  | some d =>
    rw [z] at q
    obtain ⟨v, e1, r⟩ := ss.env.get i d z
    exact ⟨v, e1, k.end ss.hm r q⟩
theorem de_c {v : V} {d : D} (h : PE X e (tC v)) (r : ∀ F, Rp X.K F v d) : DE X E0 Ee e (dC d) := PEimp h fun σ H Q0 ⟨F, M, ρ, Q, ss, q, k⟩ => k.end ss.hm (r F) q
theorem de_int {i : Int} {j} : DE X E0 Ee (.Constant (.int i) j pos) (dC (.int i)) := de_c pe_int fun _ => .int i
theorem de_bl {b : Bool} {j} : DE X E0 Ee (.Constant (.bool b) j pos) (dC (.bl b)) := de_c pe_bl fun _ => .bl b
theorem de_non {j} : DE X E0 Ee (.Constant .none j pos) (dC .non) := de_c pe_non fun _ => .non
theorem de_str {x : Str} {j} (l : Cd) (h : mkS l = x) : DE X E0 Ee (.Constant (.str x) j pos) (dC (.str l)) := de_c pe_str fun _ => by rw [← h]; exact .str l
/-- a module's name -/
theorem de_glob {x : Str} {v : V} {d : D} {u : Value} (hg : Gl X x) (hm : X.mg x = some u) (r : RelV v u) (rd : ∀ F, Rp X.K F v d) (hd : (x == ("__debug__" : Str)) = false := by decide) : DE X E0 Ee (.Name x pos) (dC d) := de_c (pe_glob hg hm r hd) rd

/-! ### operations on two values -/
def OpD (K : PySem.W.Frag) (r : R2) (f : D → D → Mp → (D → Mp → Prop) → Prop) : Prop :=
  ∀ x y dx dy F M H Q Q0, HM K F M H → Ct K F H x dx → Ct K F H y dy → f dx dy M Q → KE K F M H Q Q0 → r x y H Q0
def dOp (f : D → D → Mp → (D → Mp → Prop) → Prop) (ta tb : TDE) : TDE := fun ρ M Q => ta ρ M fun x M1 => tb ρ M1 fun y M2 => f (vw M2 x) (vw M2 y) M2 Q
theorem low_op {K : PySem.W.Frag} {r : R2} {f} (hd : OpD K r f) {σ : L2.St} {H : Hp} {Q0 : VK} (h : lowE K E0 Ee (dOp f ta tb) σ H Q0) : tOp r (lowE K E0 Ee ta) (lowE K E0 Ee tb) σ H Q0 := by
  obtain ⟨F, M, ρ, Q, ss, q, k⟩ := h
  refine ⟨F, M, ρ, _, ss, q, fun x H1 F1 dx M1 s1 rx q1 => ⟨F1, M1, ρ, _, ss.step s1, q1, fun y H2 F2 dy M2 s2 ry q2 => ?_⟩⟩
  exact hd x y _ _ F2 M2 H2 Q Q0 s2.hm (Ct.vw s2.hm (rx.mono s2.fle)) (Ct.vw s2.hm ry) q2 (k.step (s1.trans s2))
theorem de_op {op : Operator} {r : R2} {f} (ho : OpR X (binaryOp op) r) (hd : OpD X.K r f) (ha : DE X E0 Ee a ta) (hb : DE X E0 Ee b tb) : DE X E0 Ee (.BinOp a op b pos) (dOp f ta tb) := PEimp (pe_op ho ha hb) fun σ H Q0 h => low_op hd h
theorem de_cmp {op : CmpOp} {r : R2} {f} (ho : OpR X (compareOp op) r) (hd : OpD X.K r f) (ha : DE X E0 Ee a ta) (hb : DE X E0 Ee b tb) (hm : behindInMarks op b = false) : DE X E0 Ee (.Compare a [op] [b] pos) (dOp f ta tb) := PEimp (pe_cmpR ho ha hb hm) fun σ H Q0 h => low_op hd h
def dTest (t : TDE) : TDT := fun ρ M Q => t ρ M fun d M1 => match d with
  | .bl b => Q b M1
  | _ => False
theorem low_test {K : PySem.W.Frag} {t : TDE} {t0 : TE} (i : ∀ σ H Q0, lowE K E0 Ee t σ H Q0 → t0 σ H Q0) {σ : L2.St} {H : Hp} {Q0} (h : lowT K E0 Ee (dTest t) σ H Q0) : t0 σ H fun x H' => ∃ k, x = .bl k ∧ Q0 k H' := by
  obtain ⟨F, M, ρ, Q, ss, q, k⟩ := h
  refine i _ _ _ ⟨F, M, ρ, _, ss, q, fun v H1 F1 d M1 s1 r q1 => ?_⟩
  cases r with
  | bl b => exact ⟨b, rfl, k b H1 F1 b M1 s1 rfl q1⟩
  | _ => exact False.elim q1
theorem dt_cmp {op : CmpOp} {r : R2} {f} (ho : OpR X (compareOp op) r) (hd : OpD X.K r f) (ha : DE X E0 Ee a ta) (hb : DE X E0 Ee b tb) (hm : behindInMarks op b = false) : DT X E0 Ee (.Compare a [op] [b] pos) (dTest (dOp f ta tb)) :=
  PTimp (pt_cmpR ho ha hb hm) fun σ H Q0 h => low_test (t0 := tOp r (lowE X.K E0 Ee ta) (lowE X.K E0 Ee tb)) (fun _ _ _ h => low_op hd h) h
/-- an expression whose value is a bool -/
theorem dt_val (h : DE X E0 Ee e te) (he : ∀ whole, isTrue e X.env whole = (do let v ← whole; standAt e.pos; holding [v] (truthy v)) := by intro _; rfl) : DT X E0 Ee e (dTest te) := PTimp (pt_val h he) fun σ H Q0 h => low_test (t0 := lowE X.K E0 Ee te) (fun _ _ _ h => h) h
/-- by truth -/
def dTru (t : TDE) : TDT := fun ρ M Q => t ρ M fun d M1 => match vw M1 d with
  | .non => Q false M1
  | .bl b => Q b M1
  | .int i => Q (i != 0) M1
  | .str s => s.length ≤ sizeLine ∧ Q (!s.isEmpty) M1
  | .lst s => Q (!s.isEmpty) M1
  | .tup s => Q (!s.isEmpty) M1
  | _ => False
theorem RpL.empty {K : PySem.W.Frag} {F : Hp} {xs : List V} {ds : List D} (r : RpL K F xs ds) : xs.isEmpty = ds.isEmpty := by cases r <;> rfl
theorem dt_tru (h : DE X E0 Ee e te) (he : ∀ whole, isTrue e X.env whole = (do let v ← whole; standAt e.pos; holding [v] (truthy v)) := by intro _; rfl) : DT X E0 Ee e (dTru te) := PTimp (pt_truth h he) fun σ H Q0 ⟨F, M, ρ, Q, ss, q, k⟩ => by
  refine ⟨F, M, ρ, _, ss, q, fun v H1 F1 d M1 s1 r q1 => ?_⟩
  have c := Ct.vw s1.hm r
  have fin : ∀ b, Q b M1 → Q0 b H1 := fun b z => k b H1 F1 b M1 s1 rfl z
  generalize vw M1 d = d' at c q1
  cases d' with
  | non => cases c; exact ⟨false, rfl, fin _ q1⟩
  | bl b => cases c; exact ⟨b, rfl, fin _ q1⟩
  | int i => cases c; exact ⟨_, rfl, fin _ q1⟩
  | str s =>
    cases c
    refine ⟨!s.isEmpty, ⟨by rw [mkS_len]; exact q1.1, ?_⟩, fin _ q1.2⟩
    rw [mkS_len]
    cases s with
    | nil => rfl
    | cons x t => simp; omega
  | lst s => obtain ⟨p, xs, rfl, e, rl⟩ := c; exact ⟨_, .inl ⟨xs, SqL.of e, by rw [rl.empty]⟩, fin _ q1⟩
  | tup s => obtain ⟨p, xs, rfl, e, rl⟩ := c; exact ⟨_, .inr (.inl ⟨xs, SqT.of e, by rw [rl.empty]⟩), fin _ q1⟩
  | _ => exact False.elim q1
/-! ### and, or, not, if -/
def dAnd (t u : TDT) : TDT := fun ρ M Q => t ρ M fun c M1 => if c = true then u ρ M1 Q else Q false M1
def dOr (t u : TDT) : TDT := fun ρ M Q => t ρ M fun c M1 => if c = true then Q true M1 else u ρ M1 Q
def dNot (t : TDT) : TDT := fun ρ M Q => t ρ M fun c M1 => Q (!c) M1
variable {t u : TDT} {rest : List Expr}
theorem DW.dt (h : DW X E0 Ee e t) : DT X E0 Ee e t := PW.pt h
theorem dw_and1 (h : DT X E0 Ee a t) : DW X E0 Ee (.BoolOp .And [a] pos) t := pw_and1 h
theorem dw_or1 (h : DT X E0 Ee a t) : DW X E0 Ee (.BoolOp .Or [a] pos) t := pw_or1 h
theorem dw_and (ha : DT X E0 Ee a t) (hb : DW X E0 Ee (.BoolOp .And (b :: rest) pos) u) : DW X E0 Ee (.BoolOp .And (a :: b :: rest) pos) (dAnd t u) := PWimp (pw_and ha hb) fun σ H Q0 ⟨F, M, ρ, Q, ss, q, k⟩ => by
  refine ⟨F, M, ρ, _, ss, q, fun c H1 F1 d M1 s1 r q1 => ?_⟩
  have r' : c = d := r
  subst r'
  cases c with
  | true => exact iteT ⟨F1, M1, ρ, Q, ss.step s1, by simpa using q1, k.step s1⟩
  | false => exact iteF (k _ _ _ _ _ s1 rfl (by simpa using q1))
theorem dw_or (ha : DT X E0 Ee a t) (hb : DW X E0 Ee (.BoolOp .Or (b :: rest) pos) u) : DW X E0 Ee (.BoolOp .Or (a :: b :: rest) pos) (dOr t u) := PWimp (pw_or ha hb) fun σ H Q0 ⟨F, M, ρ, Q, ss, q, k⟩ => by
  refine ⟨F, M, ρ, _, ss, q, fun c H1 F1 d M1 s1 r q1 => ?_⟩
  have r' : c = d := r
  subst r'
  cases c with
  | true => exact iteT (k _ _ _ _ _ s1 rfl (by simpa using q1))
  | false => exact iteF ⟨F1, M1, ρ, Q, ss.step s1, by simpa using q1, k.step s1⟩
theorem dt_not (ha : DT X E0 Ee a t) : DT X E0 Ee (.UnaryOp .Not a pos) (dNot t) := PTimp (pt_not ha) fun σ H Q0 ⟨F, M, ρ, Q, ss, q, k⟩ =>
  ⟨F, M, ρ, _, ss, q, fun c H1 F1 d M1 s1 r q1 => k _ H1 F1 (!d) M1 s1 (by have r' : c = d := r; subst r'; rfl) q1⟩
def dAndV (ta tb : TDE) : TDE := fun ρ M Q => ta ρ M fun d M1 => match d with
  | .bl c => if c = true then tb ρ M1 Q else Q (.bl false) M1
  | _ => False
def dOrV (ta tb : TDE) : TDE := fun ρ M Q => ta ρ M fun d M1 => match d with
  | .bl c => if c = true then Q (.bl true) M1 else tb ρ M1 Q
  | _ => False
def dNotV (ta : TDE) : TDE := fun ρ M Q => ta ρ M fun d M1 => match d with
  | .bl c => Q (.bl (!c)) M1
  | _ => False
theorem de_one {op} (h : DE X E0 Ee a ta) : DE X E0 Ee (.BoolOp op [a] pos) ta := pe_one h
theorem de_and (ha : DE X E0 Ee a ta) (hb : DE X E0 Ee (.BoolOp .And (b :: rest) pos) tb) : DE X E0 Ee (.BoolOp .And (a :: b :: rest) pos) (dAndV ta tb) := PEimp (pe_and ha hb) fun σ H Q0 ⟨F, M, ρ, Q, ss, q, k⟩ => by
  refine ⟨F, M, ρ, _, ss, q, fun v H1 F1 d M1 s1 r q1 => ?_⟩
  cases r with
  | bl c =>
    refine ⟨c, rfl, ?_⟩
    cases c with
    | true => exact iteT ⟨F1, M1, ρ, Q, ss.step s1, by simpa using q1, k.step s1⟩
    | false => exact iteF (k _ _ _ _ _ s1 (.bl false) (by simpa using q1))
  | _ => exact False.elim q1
theorem de_or (ha : DE X E0 Ee a ta) (hb : DE X E0 Ee (.BoolOp .Or (b :: rest) pos) tb) : DE X E0 Ee (.BoolOp .Or (a :: b :: rest) pos) (dOrV ta tb) := PEimp (pe_or ha hb) fun σ H Q0 ⟨F, M, ρ, Q, ss, q, k⟩ => by
  refine ⟨F, M, ρ, _, ss, q, fun v H1 F1 d M1 s1 r q1 => ?_⟩
  cases r with
  | bl c =>
    refine ⟨c, rfl, ?_⟩
    cases c with
    | true => exact iteT (k _ _ _ _ _ s1 (.bl true) (by simpa using q1))
    | false => exact iteF ⟨F1, M1, ρ, Q, ss.step s1, by simpa using q1, k.step s1⟩
  | _ => exact False.elim q1
theorem de_not (ha : DE X E0 Ee a ta) : DE X E0 Ee (.UnaryOp .Not a pos) (dNotV ta) := PEimp (pe_not ha) fun σ H Q0 ⟨F, M, ρ, Q, ss, q, k⟩ => by
  refine ⟨F, M, ρ, _, ss, q, fun v H1 F1 d M1 s1 r q1 => ?_⟩
  cases r with
  | bl c => exact ⟨c, rfl, k _ _ _ _ _ s1 (.bl _) q1⟩
  | _ => exact False.elim q1
def dIfE (t : TDT) (ta tb : TDE) : TDE := fun ρ M Q => t ρ M fun c M1 => if c = true then ta ρ M1 Q else tb ρ M1 Q
theorem de_if (hc : DT X E0 Ee c t) (ha : DE X E0 Ee a ta) (hb : DE X E0 Ee b tb) : DE X E0 Ee (.IfExp c a b pos) (dIfE t ta tb) := PEimp (pe_ifExp hc ha hb) fun σ H Q0 ⟨F, M, ρ, Q, ss, q, k⟩ => by
  refine ⟨F, M, ρ, _, ss, q, fun c H1 F1 d M1 s1 r q1 => ?_⟩
  have r' : c = d := r
  subst r'
  cases c with
  | true => exact iteT ⟨F1, M1, ρ, Q, ss.step s1, by simpa using q1, k.step s1⟩
  | false => exact iteF ⟨F1, M1, ρ, Q, ss.step s1, by simpa using q1, k.step s1⟩
/-! ### arguments, displays -/
def dNil : TDA := fun _ M Q => Q [] M
def dCons (ta : TDE) (tr : TDA) : TDA := fun ρ M Q => ta ρ M fun x M1 => tr ρ M1 fun xs M2 => Q (x :: xs) M2
variable {tr : TDA}
theorem da_nil : DA X E0 Ee [] dNil := PAimp pa_nil fun σ H Q0 ⟨F, M, ρ, Q, ss, q, k⟩ => k.end ss.hm .nil q
theorem da_cons (ha : DE X E0 Ee e te) (hr : DA X E0 Ee es tr) (hs : starEach (e :: es) X.env = (false, eval e X.env) :: starEach es X.env := by rfl) : DA X E0 Ee (e :: es) (dCons te tr) := PAimp (pa_cons ha hr hs) fun σ H Q0 ⟨F, M, ρ, Q, ss, q, k⟩ =>
  ⟨F, M, ρ, _, ss, q, fun x H1 F1 dx M1 s1 rx q1 => ⟨F1, M1, ρ, _, ss.step s1, q1, fun xs H2 F2 ds M2 s2 rs q2 => k _ _ _ _ _ (s1.trans s2) (.cons (rx.mono s2.fle) rs) q2⟩⟩
def dStar (te : TDE) (tr : TDA) : TDA := fun ρ M Q => te ρ M fun x M1 => match vw M1 x with
  | .lst xs => tr ρ M1 fun ys M2 => Q (xs ++ ys) M2
  | .tup xs => tr ρ M1 fun ys M2 => Q (xs ++ ys) M2
  | _ => False
theorem da_star {p : Pos} (he : DE X E0 Ee e te) (hr : DA X E0 Ee es tr) (hs : starEach (.Starred e p :: es) X.env = (true, eval e X.env) :: starEach es X.env := by rfl) : DA X E0 Ee (.Starred e p :: es) (dStar te tr) := PAimp (StX.pa_star he hr hs) fun σ H Q0 ⟨F, M, ρ, Q, ss, q, k⟩ => by
  refine ⟨F, M, ρ, _, ss, q, fun v H1 F1 d M1 s1 r q1 => ?_⟩
  have c := Ct.vw s1.hm r
  generalize vw M1 d = d' at c q1
  cases d' with
  | lst s => obtain ⟨p, xs, rfl, e, rl⟩ := c; exact ⟨p, xs, rfl, .inr (SqL.of e), F1, M1, ρ, _, ss.step s1, q1, fun ys H2 F2 ds M2 s2 rs q2 => k _ _ _ _ _ (s1.trans s2) ((rl.mono s2.fle).app rs) q2⟩
  | tup s => obtain ⟨p, xs, rfl, e, rl⟩ := c; exact ⟨p, xs, rfl, .inl (SqT.of e), F1, M1, ρ, _, ss.step s1, q1, fun ys H2 F2 ds M2 s2 rs q2 => k _ _ _ _ _ (s1.trans s2) ((rl.mono s2.fle).app rs) q2⟩
  | _ => exact False.elim q1
def dTup (tr : TDA) : TDE := fun ρ M Q => tr ρ M fun xs M1 => xs.length ≤ sizeLine ∧ Q (.tup xs) M1
def dLst (tr : TDA) : TDE := fun ρ M Q => tr ρ M fun xs M1 => xs.length ≤ sizeLine ∧ Q (.lst xs) M1
/-- a list that will be changed in place -/
def dLstM (tr : TDA) : TDE := fun ρ M Q => tr ρ M fun xs M1 => xs.length ≤ sizeLine ∧ ∀ p, M1 p = none → Q (.ref p) (mset M1 p (.lst xs))
theorem de_tup {j} (h : DA X E0 Ee es tr) : DE X E0 Ee (.Tuple es j pos) (dTup tr) := PEimp (pe_tup h) fun σ H Q0 ⟨F, M, ρ, Q, ss, q, k⟩ =>
  ⟨F, M, ρ, _, ss, q, fun xs H1 F1 ds M1 s1 rs q1 => ⟨by rw [rs.length]; exact q1.1, newTup s1.hm rs q1.2 (k.step s1)⟩⟩
theorem de_lst (h : DA X E0 Ee es tr) : DE X E0 Ee (.List es pos) (dLst tr) := PEimp (pe_lst h) fun σ H Q0 ⟨F, M, ρ, Q, ss, q, k⟩ =>
  ⟨F, M, ρ, _, ss, q, fun xs H1 F1 ds M1 s1 rs q1 => ⟨by rw [rs.length]; exact q1.1, newLst s1.hm rs q1.2 (k.step s1)⟩⟩
theorem de_lstM (h : DA X E0 Ee es tr) : DE X E0 Ee (.List es pos) (dLstM tr) := PEimp (pe_lst h) fun σ H Q0 ⟨F, M, ρ, Q, ss, q, k⟩ =>
  ⟨F, M, ρ, _, ss, q, fun xs H1 F1 ds M1 s1 rs q1 => ⟨by rw [rs.length]; exact q1.1, newMut s1.hm rs q1.2 (k.step s1)⟩⟩
/-- ghost steps: a list that was changed in place is data from now on -/
def dFrz (te : TDE) : TDE := fun ρ M Q => te ρ M fun d M1 => match d with
  | .ref p => match M1 p with
    | some (.lst ds) => Q (.lst ds) (mdel M1 p)
    | some (.dic ds) => Q (.dic ds) (mdel M1 p)
    | some (.dit ds) => Q (.dit ds) (mdel M1 p)
    | some (.ins C ds) => Q (.obj C ds) (mdel M1 p)
    | _ => False
  | _ => False
theorem de_frz (h : DE X E0 Ee e te) : DE X E0 Ee e (dFrz te) := PEimp h fun σ H Q0 ⟨F, M, ρ, Q, ss, q, k⟩ => by
  refine ⟨F, M, ρ, _, ss, q, fun v H1 F1 d M1 s1 r q1 => ?_⟩
  cases r with
  | ref p =>
    dsimp only at q1
    cases z : M1 p with
    | none => rw [z] at q1; exact q1.elim
    | some o =>
      rw [z] at q1
      have y := (s1.hm.mo p o z).2
      cases o with
      | lst ds =>
        obtain ⟨xs, e, rl⟩ := y
        have s2 := Step.frz s1.hm z (by intro z; cases z) e
        exact k _ _ _ _ _ (s1.trans s2) (.lst upd_same (rl.mono s2.fle)) q1
      | dic ds =>
        obtain ⟨xs, e, rl⟩ := y
        have s2 := Step.frz s1.hm z (by intro z; cases z) e
        exact k _ _ _ _ _ (s1.trans s2) (.dic upd_same (rl.mono s2.fle)) q1
      | dit ds =>
        obtain ⟨xs, e, rl⟩ := y
        have s2 := Step.frz s1.hm z (by intro z; cases z) e
        exact k _ _ _ _ _ (s1.trans s2) (.dit upd_same (rl.mono s2.fle)) q1
      | ins C ds =>
        obtain ⟨dx, xs, e, rl⟩ := y
        have s2 := Step.frz s1.hm z (by intro z; cases z) e
        exact k _ _ _ _ _ (s1.trans s2) (.obj upd_same (rl.mono s2.fle)) q1
      | src c => exact q1.elim
      | hid => exact q1.elim
  | _ => exact False.elim q1
end
end DL


set_option Elab.async false
set_option linter.all false
set_option maxRecDepth 100000
set_option maxHeartbeats 4000000
namespace DL
open PySem PySem.Spec PyProof.Rows L2

/-! ### arithmetic -/
abbrev TOp := D → D → Mp → (D → Mp → Prop) → Prop
def oAdd : TOp
  | .int i, .int j, M, Q => Q (.int (i + j)) M
  | .str a, .str b, M, Q => a.length + b.length ≤ sizeLine ∧ Q (.str (a ++ b)) M
  | .lst a, .lst b, M, Q => a.length + b.length ≤ sizeLine ∧ Q (.lst (a ++ b)) M
  | .tup a, .tup b, M, Q => a ≠ [] ∧ b ≠ [] ∧ a.length + b.length ≤ sizeLine ∧ Q (.tup (a ++ b)) M
  | _, _, _, _ => False
def oSub : TOp
  | .int i, .int j, M, Q => Q (.int (i - j)) M
  | _, _, _, _ => False
def strMul (a : Cd) (n : Int) : Cd := (List.replicate n.toNat a).flatten
def oMul : TOp
  | .int i, .int j, M, Q => CMul i j ∧ Q (.int (i * j)) M
  | .lst a, .int k, M, Q => -(2 ^ 63) ≤ k ∧ k < 2 ^ 63 ∧ a.length * k.toNat ≤ sizeLine ∧ Q (.lst (List.replicate k.toNat a).flatten) M
  | .str a, .int k, M, Q => (-(2 ^ 63) ≤ k ∧ k ≤ 16777216 ∧ a.length * k.toNat ≤ 16777216) ∧ Q (.str (strMul a k)) M
  | _, _, _, _ => False
def oFdiv : TOp
  | .int i, .int j, M, Q => CDiv i j ∧ Q (.int (i / j)) M
  | _, _, _, _ => False
def oMod : TOp
  | .int i, .int j, M, Q => 0 < j ∧ Q (.int (i % j)) M
  | _, _, _, _ => False
def oPow : TOp
  | .int i, .int j, M, Q => CPow i j ∧ Q (.int (i ^ j.toNat)) M
  | _, _, _, _ => False

theorem mulStr_eq (a : Cd) (n : Int) : Txt.mul (mkS a) n = mkS (strMul a n) := by
  have key : ∀ (k : Nat) (acc : Array Nat), ((List.replicate k a.toArray).foldl (· ++ ·) acc).toList = acc.toList ++ (List.replicate k a).flatten := by
    intro k
    induction k with
    | zero => intro acc; simp
    | succ k ih => intro acc; rw [List.replicate_succ, List.foldl_cons, ih, List.replicate_succ, List.flatten_cons]; simp
  have fin : ∀ x : Str, x.cps.toList = strMul a n → x = mkS (strMul a n) := fun x h => by rw [← h, mkS_tl]
  apply fin
  unfold Txt.mul strMul
  by_cases h1 : n < 1
  · rw [if_pos h1]
    have e : n.toNat = 0 := by omega
    rw [e]; rfl
  · rw [if_neg h1]
    by_cases h2 : n = 1
    · subst h2
      show a = (List.replicate 1 a).flatten
      simp
    · by_cases h3 : a = []
      · subst h3
        have e : (n == 1 || (mkS []).length == 0) = true := by rw [mkS_len]; simp
        rw [e, if_pos rfl]
        show ([] : Cd) = _
        induction n.toNat with
        | zero => rfl
        | succ k ih => rw [List.replicate_succ, List.flatten_cons, ← ih]; rfl
      · have e : (n == 1 || (mkS a).length == 0) = false := by
          have a1 : (n == 1) = false := by simpa using h2
          rw [a1, mkS_len]
          cases a with
          | nil => exact absurd rfl h3
          | cons x t => rfl
        rw [e, if_neg Bool.false_ne_true]
        show ((List.replicate n.toNat a.toArray).foldl (· ++ ·) #[]).toList = _
        rw [key]; simp
theorem op_mulS {X : Cx} : OpR X (binaryOp .Mult) (fun x y H Q => ∃ (a : Cd) (k : Int), x = .str (mkS a) ∧ y = .int k ∧ (-(2 ^ 63) ≤ k ∧ k ≤ 16777216 ∧ a.length * k.toNat ≤ 16777216) ∧ Q (.str (mkS (strMul a k))) H) := by
  intro pins s σ H x y v u Q I rx ry h
  obtain ⟨a, k, rfl, rfl, hz, q⟩ := h
  obtain ⟨t, rfl⟩ := rx
  obtain ⟨t', rfl⟩ := ry
  refine PySem.SB.mul (PyProof.Rows.mulOk_of a.length k.toNat (by rw [mkS_len]; exact Nat.le_refl _) (by omega) (by omega) (by omega) hz.2.2) fun t' tk => ?_
  rw [mulStr_eq]
  exact ⟨.str _, H, I.tok _, ⟨_, rfl⟩, q⟩
section
variable {X : Cx} {K : PySem.W.Frag} {E0 : L2.St → XK} {Ee : DEnv → DXK} {a b c e : Expr} {es : List Expr} {ta tb tc te : TDE} {pos : Pos}

abbrev rAdd4 (K : PySem.W.Frag) : R2 := fun x y H Q => rI0 (fun i j => .int (i + j)) x y H Q ∨ ((∃ i j, x = .str i ∧ y = .str j ∧ i.length + j.length ≤ sizeLine ∧ Q (.str (i ++ j)) H) ∨ (rCat x y H Q ∨ rCatT K x y H Q))
theorem op_add4 : OpR X (binaryOp .Add) (rAdd4 X.K) := op_add.or (op_add_str.or (op_cat.or op_catT))
theorem od_add : OpD K (rAdd4 K) oAdd := by
  intro x y dx dy F M H Q Q0 hm cx cy q k
  cases dx with
  | int i =>
    cases dy with
    | int j => cases cx; cases cy; exact .inl ⟨i, j, rfl, rfl, k.end hm (.int _) q⟩
    | _ => exact False.elim q
  | str a =>
    cases dy with
    | str b =>
      cases cx; cases cy
      refine .inr (.inl ⟨_, _, rfl, rfl, by rw [mkS_len, mkS_len]; exact q.1, ?_⟩)
      rw [mkS_app]
      exact k.end hm (.str _) q.2
    | _ => exact False.elim q
  | lst a =>
    cases dy with
    | lst b =>
      obtain ⟨p, xs, rfl, e1, r1⟩ := cx
      obtain ⟨p', ys, rfl, e2, r2⟩ := cy
      exact .inr (.inr (.inl ⟨p, p', xs, ys, rfl, rfl, e1, e2, by rw [r1.length, r2.length]; exact q.1, newLst hm (r1.app r2) q.2 k⟩))
    | _ => exact False.elim q
  | tup a =>
    cases dy with
    | tup b =>
      obtain ⟨p, xs, rfl, e1, r1⟩ := cx
      obtain ⟨p', ys, rfl, e2, r2⟩ := cy
      obtain ⟨q1, q2, q3, q4⟩ := q
      have h1 : xs ≠ [] := fun z => q1 (List.length_eq_zero_iff.mp (by rw [← r1.length, z]; rfl))
      have h2 : ys ≠ [] := fun z => q2 (List.length_eq_zero_iff.mp (by rw [← r2.length, z]; rfl))
      exact .inr (.inr (.inr ⟨p, p', xs, ys, rfl, rfl, SqT.of e1, SqT.of e2, h1, by rw [r1.length, r2.length]; exact q3, fun z => absurd z h2, fun _ => newTup hm (r1.app r2) q4 k⟩))
    | _ => exact False.elim q
  | _ => exact False.elim q
theorem od_sub : OpD K (rI0 fun i j => .int (i - j)) oSub := by
  intro x y dx dy F M H Q Q0 hm cx cy q k
  cases dx with
  | int i =>
    cases dy with
    | int j => cases cx; cases cy; exact ⟨i, j, rfl, rfl, k.end hm (.int _) q⟩
    | _ => exact False.elim q
  | _ => exact False.elim q
abbrev rMul3 : R2 := fun x y H Q => rI CMul (fun i j => .int (i * j)) x y H Q ∨ (rRep x y H Q ∨ (∃ (a : Cd) (k : Int), x = .str (mkS a) ∧ y = .int k ∧ (-(2 ^ 63) ≤ k ∧ k ≤ 16777216 ∧ a.length * k.toNat ≤ 16777216) ∧ Q (.str (mkS (strMul a k))) H))
theorem op_mul3 : OpR X (binaryOp .Mult) rMul3 := op_mul.or (op_rep.or op_mulS)
theorem od_mul : OpD K rMul3 oMul := by
  intro x y dx dy F M H Q Q0 hm cx cy q k
  cases dx with
  | int i =>
    cases dy with
    | int j => cases cx; cases cy; exact .inl ⟨i, j, rfl, rfl, q.1, k.end hm (.int _) q.2⟩
    | _ => exact False.elim q
  | lst a =>
    cases dy with
    | int j =>
      obtain ⟨p, xs, rfl, e1, r1⟩ := cx
      cases cy
      obtain ⟨q1, q2, q3, q4⟩ := q
      exact .inr (.inl ⟨p, j, xs, rfl, rfl, e1, q1, q2, by rw [r1.length]; exact q3, newLst hm (r1.rep _) q4 k⟩)
    | _ => exact False.elim q
  | str a =>
    cases dy with
    | int j => cases cx; cases cy; exact .inr (.inr ⟨a, j, rfl, rfl, q.1, k.end hm (.str _) q.2⟩)
    | _ => exact False.elim q
  | _ => exact False.elim q
theorem od_ii {C : Int → Int → Prop} {g : Int → Int → Int} {f : TOp} (hf : ∀ i j M Q, f (.int i) (.int j) M Q → C i j ∧ Q (.int (g i j)) M) (hn : ∀ x y M Q, f x y M Q → ∃ i j, x = .int i ∧ y = .int j) : OpD K (rI C fun i j => .int (g i j)) f := by
  intro x y dx dy F M H Q Q0 hm cx cy q k
  obtain ⟨i, j, rfl, rfl⟩ := hn _ _ _ _ q
  obtain ⟨q1, q2⟩ := hf _ _ _ _ q
  cases cx; cases cy
  exact ⟨i, j, rfl, rfl, q1, k.end hm (.int _) q2⟩
theorem od_fdiv : OpD K (rI CDiv fun i j => .int (i / j)) oFdiv := od_ii (fun _ _ _ _ h => h) fun x y M Q h => by
  cases x with
  | int i =>
    cases y with
    | int j => exact ⟨i, j, rfl, rfl⟩
    | _ => exact h.elim
  | _ => exact h.elim
theorem od_mod : OpD K (rI (fun _ j => 0 < j) fun i j => .int (i % j)) oMod := od_ii (fun _ _ _ _ h => h) fun x y M Q h => by
  cases x with
  | int i =>
    cases y with
    | int j => exact ⟨i, j, rfl, rfl⟩
    | _ => exact h.elim
  | _ => exact h.elim
theorem od_pow : OpD K (rI CPow fun i j => .int (i ^ j.toNat)) oPow := od_ii (fun _ _ _ _ h => h) fun x y M Q h => by
  cases x with
  | int i =>
    cases y with
    | int j => exact ⟨i, j, rfl, rfl⟩
    | _ => exact h.elim
  | _ => exact h.elim
theorem de_add (ha : DE X E0 Ee a ta) (hb : DE X E0 Ee b tb) : DE X E0 Ee (.BinOp a .Add b pos) (dOp oAdd ta tb) := de_op op_add4 od_add ha hb
theorem de_sub (ha : DE X E0 Ee a ta) (hb : DE X E0 Ee b tb) : DE X E0 Ee (.BinOp a .Sub b pos) (dOp oSub ta tb) := de_op op_sub od_sub ha hb
theorem de_mul (ha : DE X E0 Ee a ta) (hb : DE X E0 Ee b tb) : DE X E0 Ee (.BinOp a .Mult b pos) (dOp oMul ta tb) := de_op op_mul3 od_mul ha hb
theorem de_fdiv (ha : DE X E0 Ee a ta) (hb : DE X E0 Ee b tb) : DE X E0 Ee (.BinOp a .FloorDiv b pos) (dOp oFdiv ta tb) := de_op op_fdiv od_fdiv ha hb
theorem de_mod (ha : DE X E0 Ee a ta) (hb : DE X E0 Ee b tb) : DE X E0 Ee (.BinOp a .Mod b pos) (dOp oMod ta tb) := de_op op_mod od_mod ha hb
theorem de_pow (ha : DE X E0 Ee a ta) (hb : DE X E0 Ee b tb) : DE X E0 Ee (.BinOp a .Pow b pos) (dOp oPow ta tb) := de_op op_pow od_pow ha hb
def dNeg (ta : TDE) : TDE := fun ρ M Q => ta ρ M fun d M1 => match d with
  | .int i => Q (.int (-i)) M1
  | _ => False
theorem de_neg (ha : DE X E0 Ee a ta) : DE X E0 Ee (.UnaryOp .USub a pos) (dNeg ta) := PEimp (pe_un un_neg ha) fun σ H Q0 ⟨F, M, ρ, Q, ss, q, k⟩ => by
  refine ⟨F, M, ρ, _, ss, q, fun v H1 F1 d M1 s1 r q1 => ?_⟩
  cases r with
  | int i => exact ⟨i, rfl, k _ _ _ _ _ s1 (.int _) q1⟩
  | _ => exact False.elim q1

/-! ### comparisons -/
def oCmp (p : Int → Int → Bool) : TOp
  | .int i, .int j, M, Q => Q (.bl (p i j)) M
  | _, _, _, _ => False
theorem od_cmp {p : Int → Int → Bool} : OpD K (rI0 fun i j => .bl (p i j)) (oCmp p) := by
  intro x y dx dy F M H Q Q0 hm cx cy q k
  cases dx with
  | int i =>
    cases dy with
    | int j => cases cx; cases cy; exact ⟨i, j, rfl, rfl, k.end hm (.bl _) q⟩
    | _ => exact False.elim q
  | _ => exact False.elim q
abbrev oLt : TOp := oCmp fun i j => decide (i < j)
abbrev oLe : TOp := oCmp fun i j => decide (i ≤ j)
abbrev oGt : TOp := oCmp fun i j => decide (j < i)
abbrev oGe : TOp := oCmp fun i j => decide (j ≤ i)
theorem dt_lt (ha : DE X E0 Ee a ta) (hb : DE X E0 Ee b tb) : DT X E0 Ee (.Compare a [.Lt] [b] pos) (dTest (dOp oLt ta tb)) := dt_cmp op_lt od_cmp ha hb (nomark _)
theorem dt_le (ha : DE X E0 Ee a ta) (hb : DE X E0 Ee b tb) : DT X E0 Ee (.Compare a [.LtE] [b] pos) (dTest (dOp oLe ta tb)) := dt_cmp op_le od_cmp ha hb (nomark _)
theorem dt_gt (ha : DE X E0 Ee a ta) (hb : DE X E0 Ee b tb) : DT X E0 Ee (.Compare a [.Gt] [b] pos) (dTest (dOp oGt ta tb)) := dt_cmp op_gt od_cmp ha hb (nomark _)
theorem dt_ge (ha : DE X E0 Ee a ta) (hb : DE X E0 Ee b tb) : DT X E0 Ee (.Compare a [.GtE] [b] pos) (dTest (dOp oGe ta tb)) := dt_cmp op_ge od_cmp ha hb (nomark _)
theorem de_lt (ha : DE X E0 Ee a ta) (hb : DE X E0 Ee b tb) : DE X E0 Ee (.Compare a [.Lt] [b] pos) (dOp oLt ta tb) := de_cmp op_lt od_cmp ha hb (nomark _)
theorem de_le (ha : DE X E0 Ee a ta) (hb : DE X E0 Ee b tb) : DE X E0 Ee (.Compare a [.LtE] [b] pos) (dOp oLe ta tb) := de_cmp op_le od_cmp ha hb (nomark _)
theorem de_gt (ha : DE X E0 Ee a ta) (hb : DE X E0 Ee b tb) : DE X E0 Ee (.Compare a [.Gt] [b] pos) (dOp oGt ta tb) := de_cmp op_gt od_cmp ha hb (nomark _)
theorem de_ge (ha : DE X E0 Ee a ta) (hb : DE X E0 Ee b tb) : DE X E0 Ee (.Compare a [.GtE] [b] pos) (dOp oGe ta tb) := de_cmp op_ge od_cmp ha hb (nomark _)

/-! ### == of data -/
mutual
def D.py : D → Option PyData
  | .non => some .none
  | .bl b => some (.bool b)
  | .int i => some (.int i)
  | .str s => some (.str (mkS s))
  | .lst xs => (pyL xs).map .list
  | .tup xs => (pyL xs).map .tuple
  | .ty _ | .ref _ | .scr _ | .dic _ | .dit _ | .obj _ _ => none
def pyL : List D → Option (List PyData)
  | [] => some []
  | x :: xs => match x.py, pyL xs with
    | some p, some ps => some (p :: ps)
    | _, _ => none
end
mutual
/-- == as Python has it -/
def deq : D → D → Bool
  | .non, .non => true
  | .bl a, .bl b => a == b
  | .bl a, .int j => (if a then 1 else 0) == j
  | .int i, .bl b => i == (if b then 1 else 0)
  | .int i, .int j => i == j
  | .str x, .str y => x == y
  | .lst xs, .lst ys => deqL xs ys
  | .tup xs, .tup ys => deqL xs ys
  | _, _ => false
def deqL : List D → List D → Bool
  | [], [] => true
  | x :: xs, y :: ys => deq x y && deqL xs ys
  | _, _ => false
end
/-- what may be compared: none, bools, numbers, texts, lists, tuples, at most 64 deep -/
def cmpOk (d : D) : Bool := match d.py with
  | some p => SeqAt.shaped p
  | none => false
mutual
theorem deq_py : ∀ (x y : D) {p q : PyData}, x.py = some p → y.py = some q → PyData.eqv p q = deq x y
  | .non, y, p, q, h1, h2 => by
    cases h1
    cases y with
    | lst ys => simp only [D.py, Option.map_eq_some_iff] at h2; obtain ⟨_, _, rfl⟩ := h2; rfl
    | tup ys => simp only [D.py, Option.map_eq_some_iff] at h2; obtain ⟨_, _, rfl⟩ := h2; rfl
    | _ => first | (cases h2; done) | (cases h2; rfl)
  | .bl a, y, p, q, h1, h2 => by
    cases h1
    cases y with
    | lst ys => simp only [D.py, Option.map_eq_some_iff] at h2; obtain ⟨_, _, rfl⟩ := h2; rfl
    | tup ys => simp only [D.py, Option.map_eq_some_iff] at h2; obtain ⟨_, _, rfl⟩ := h2; rfl
    | _ => first | (cases h2; done) | (cases h2; rfl)
  | .int a, y, p, q, h1, h2 => by
    cases h1
    cases y with
    | lst ys => simp only [D.py, Option.map_eq_some_iff] at h2; obtain ⟨_, _, rfl⟩ := h2; rfl
    | tup ys => simp only [D.py, Option.map_eq_some_iff] at h2; obtain ⟨_, _, rfl⟩ := h2; rfl
    | _ => first | (cases h2; done) | (cases h2; rfl)
  | .str a, y, p, q, h1, h2 => by
    cases h1
    cases y with
    | str b =>
      cases h2
      simp only [deq, PyData.eqv]
      rw [Bool.eq_iff_iff]
      simp only [beq_iff_eq]
      exact ⟨fun h => mkS_inj h, fun h => by rw [h]⟩
    | lst ys => simp only [D.py, Option.map_eq_some_iff] at h2; obtain ⟨_, _, rfl⟩ := h2; rfl
    | tup ys => simp only [D.py, Option.map_eq_some_iff] at h2; obtain ⟨_, _, rfl⟩ := h2; rfl
    | _ => first | (cases h2; done) | (cases h2; rfl)
  | .lst xs, y, p, q, h1, h2 => by
    simp only [D.py, Option.map_eq_some_iff] at h1
    obtain ⟨ps, e1, rfl⟩ := h1
    cases y with
    | lst ys =>
      simp only [D.py, Option.map_eq_some_iff] at h2; obtain ⟨qs, e2, rfl⟩ := h2
      simp only [PyData.eqv, deq]
      exact deqL_py xs ys e1 e2
    | tup ys => simp only [D.py, Option.map_eq_some_iff] at h2; obtain ⟨_, _, rfl⟩ := h2; rfl
    | _ => first | (cases h2; done) | (cases h2; rfl)
  | .tup xs, y, p, q, h1, h2 => by
    simp only [D.py, Option.map_eq_some_iff] at h1
    obtain ⟨ps, e1, rfl⟩ := h1
    cases y with
    | tup ys =>
      simp only [D.py, Option.map_eq_some_iff] at h2; obtain ⟨qs, e2, rfl⟩ := h2
      simp only [PyData.eqv, deq]
      exact deqL_py xs ys e1 e2
    | lst ys => simp only [D.py, Option.map_eq_some_iff] at h2; obtain ⟨_, _, rfl⟩ := h2; rfl
    | _ => first | (cases h2; done) | (cases h2; rfl)
  | .ty _, _, _, _, h1, _ => by simp [D.py] at h1
  | .ref _, _, _, _, h1, _ => by simp [D.py] at h1
  | .scr _, _, _, _, h1, _ => by simp [D.py] at h1
  | .dic _, _, _, _, h1, _ => by simp [D.py] at h1
  | .dit _, _, _, _, h1, _ => by simp [D.py] at h1
  | .obj _ _, _, _, _, h1, _ => by simp [D.py] at h1
theorem deqL_py : ∀ (xs ys : List D) {ps qs : List PyData}, pyL xs = some ps → pyL ys = some qs → PyData.eqvAll ps qs = deqL xs ys
  | [], ys, ps, qs, h1, h2 => by
    cases h1
    cases ys with
    | nil => cases h2; simp [PyData.eqvAll, deqL]
    | cons y ys =>
      simp only [pyL] at h2
      split at h2
      · cases h2; simp [PyData.eqvAll, deqL]
      · cases h2
  | x :: xs, ys, ps, qs, h1, h2 => by
    simp only [pyL] at h1
    split at h1
    · rename_i p ps' e1 e2
      cases h1
      cases ys with
      | nil => cases h2; simp [PyData.eqvAll, deqL]
      | cons y ys =>
        simp only [pyL] at h2
        split at h2
        · rename_i q qs' e3 e4
          cases h2
          simp only [PyData.eqvAll, deqL]
          rw [deq_py x y e1 e3, deqL_py xs ys e2 e4]
        · cases h2
    · cases h1
end
mutual
theorem dp_of {K : PySem.W.Frag} {F H : Hp} (le : Le F H) : ∀ {v : V} {d : D} {p : PyData}, Rp K F v d → d.py = some p → Dp K H v p
  | _, _, _, .non, h => by cases h; exact .non
  | _, _, _, .bl b, h => by cases h; exact .bl b
  | _, _, _, .int b, h => by cases h; exact .int b
  | _, _, _, .str b, h => by cases h; exact .str _
  | _, _, _, .lst e r, h => by
    simp only [D.py, Option.map_eq_some_iff] at h; obtain ⟨ps, e1, rfl⟩ := h
    exact .lst (SqL.of (le.at e (fun z => z))) (dpL_of le r e1)
  | _, _, _, .tup e r, h => by
    simp only [D.py, Option.map_eq_some_iff] at h; obtain ⟨ps, e1, rfl⟩ := h
    exact .tup (SqT.of (le.at e (fun z => z))) (dpL_of le r e1)
  | _, _, _, .ty _, h => by simp [D.py] at h
  | _, _, _, .ref _, h => by simp [D.py] at h
  | _, _, _, .scr _, h => by simp [D.py] at h
  | _, _, _, .dic _ _, h => by simp [D.py] at h
  | _, _, _, .dit _ _, h => by simp [D.py] at h
  | _, _, _, .obj _ _, h => by simp [D.py] at h
theorem dpL_of {K : PySem.W.Frag} {F H : Hp} (le : Le F H) : ∀ {v : List V} {d : List D} {p : List PyData}, RpL K F v d → pyL d = some p → DpAll K H v p
  | _, _, _, .nil, h => by cases h; exact .nil
  | _, _, _, .cons a r, h => by
    simp only [pyL] at h
    split at h
    · rename_i p ps e1 e2
      cases h
      exact .cons (dp_of le a e1) (dpL_of le r e2)
    · cases h
end
theorem dp_ct {K : PySem.W.Frag} {F H : Hp} (le : Le F H) {v : V} {d : D} {p : PyData} (c : Ct K F H v d) (h : d.py = some p) : Dp K H v p := by
  cases d with
  | non => cases c; cases h; exact .non
  | bl b => cases c; cases h; exact .bl b
  | int b => cases c; cases h; exact .int b
  | str b => cases c; cases h; exact .str _
  | lst xs =>
    simp only [D.py, Option.map_eq_some_iff] at h; obtain ⟨ps, e1, rfl⟩ := h
    obtain ⟨a, xs, rfl, e, r⟩ := c
    exact .lst (SqL.of e) (dpL_of le r e1)
  | tup xs =>
    simp only [D.py, Option.map_eq_some_iff] at h; obtain ⟨ps, e1, rfl⟩ := h
    obtain ⟨a, xs, rfl, e, r⟩ := c
    exact .tup (SqT.of e) (dpL_of le r e1)
  | _ => simp [D.py] at h
def flatD : D → Bool
  | .non => true | .bl _ => true | .int _ => true | .str _ => true
  | _ => false
def oEq : TOp := fun x y M Q => (flatD x = true ∧ flatD y = true ∨ cmpOk x = true ∧ cmpOk y = true) ∧ Q (.bl (deq x y)) M
def oNe : TOp := fun x y M Q => (flatD x = true ∧ flatD y = true ∨ cmpOk x = true ∧ cmpOk y = true) ∧ Q (.bl (!deq x y)) M
theorem eqV_flat {K : PySem.W.Frag} {F H : Hp} {x y : V} {dx dy : D} (cx : Ct K F H x dx) (cy : Ct K F H y dy) (hx : flatD dx = true) (hy : flatD dy = true) : flatV x = true ∧ flatV y = true ∧ eqV x y = deq dx dy := by
  cases dx with
  | non => cases cx; cases dy <;> first | (cases hy; done) | (cases cy; exact ⟨rfl, rfl, by simp [eqV, deq]⟩)
  | bl => cases cx; cases dy <;> first | (cases hy; done) | (cases cy; exact ⟨rfl, rfl, by simp [eqV, deq]⟩)
  | int => cases cx; cases dy <;> first | (cases hy; done) | (cases cy; exact ⟨rfl, rfl, by simp [eqV, deq]⟩)
  | str a =>
    cases cx
    cases dy with
    | str b =>
      cases cy
      refine ⟨rfl, rfl, ?_⟩
      simp only [deq, eqV]
      rw [Bool.eq_iff_iff]
      simp only [beq_iff_eq]
      exact ⟨fun h => mkS_inj h, fun h => by rw [h]⟩
    | _ => first | (cases hy; done) | (cases cy; exact ⟨rfl, rfl, by simp [eqV, deq]⟩)
  | _ => cases hx
end
end DL


set_option Elab.async false
set_option linter.all false
set_option maxRecDepth 100000
set_option maxHeartbeats 4000000
namespace DL
open PySem PySem.Spec PyProof.Rows L2

section
variable {X : Cx} {K : PySem.W.Frag} {E0 : L2.St → XK} {Ee : DEnv → DXK} {a b c e : Expr} {es : List Expr} {ta tb tc te : TDE} {tr : TDA} {pos : Pos}

theorem cmpOk_py {d : D} (h : cmpOk d = true) : ∃ p, d.py = some p ∧ SeqAt.shaped p = true := by
  unfold cmpOk at h
  cases e : d.py with
  | none => rw [e] at h; cases h
  | some p => rw [e] at h; exact ⟨p, rfl, h⟩
theorem scal_flat {F H : Hp} {x y : V} {dx dy : D} (cx : Ct K F H x dx) (cy : Ct K F H y dy) (hx : flatD dx = true) (hy : flatD dy = true) : (scal x y = true ∧ decide (x = y) = deq dx dy) ∨ (cmpOk dx = true ∧ cmpOk dy = true) := by
  cases dx with
  | non => cases cx; cases dy <;> first | (cases hy; done) | (cases cy; exact .inl ⟨rfl, by simp [deq]⟩)
  | bl p => cases cx; cases dy <;> first | (cases hy; done) | (cases cy; exact .inl ⟨rfl, by rw [Bool.eq_iff_iff]; simp [deq]; done⟩) | (cases cy; exact .inl ⟨rfl, by simp [deq]; done⟩) | (cases cy; exact .inr ⟨rfl, rfl⟩)
  | int p => cases cx; cases dy <;> first | (cases hy; done) | (cases cy; exact .inl ⟨rfl, by rw [Bool.eq_iff_iff]; simp [deq]; done⟩) | (cases cy; exact .inl ⟨rfl, by simp [deq]; done⟩) | (cases cy; exact .inr ⟨rfl, rfl⟩)
  | str p =>
    cases cx
    cases dy with
    | str q =>
      cases cy
      refine .inl ⟨rfl, ?_⟩
      rw [Bool.eq_iff_iff]
      simp only [deq, decide_eq_true_eq, beq_iff_eq]
      exact ⟨fun h => mkS_inj (V.str.inj h), fun h => by rw [h]⟩
    | _ => first | (cases hy; done) | (cases cy; exact .inl ⟨rfl, by simp [deq]⟩)
  | _ => cases hx
abbrev rEq2 (K : PySem.W.Frag) : R2 := fun x y H Q => rEq x y H Q ∨ rEqD K x y H Q
abbrev rNe2 (K : PySem.W.Frag) : R2 := fun x y H Q => rNe x y H Q ∨ rNeD K x y H Q
theorem od_eq : OpD K (rEq2 K) oEq := by
  intro x y dx dy F M H Q Q0 hm cx cy q k
  obtain ⟨o, q⟩ := q
  have gen : cmpOk dx = true → cmpOk dy = true → rEq2 K x y H Q0 := fun h1 h2 => by
    obtain ⟨p, e1, s1⟩ := cmpOk_py h1
    obtain ⟨p', e2, s2⟩ := cmpOk_py h2
    refine .inr ⟨p, p', dp_ct hm.le cx e1, dp_ct hm.le cy e2, s1, s2, ?_⟩
    rw [deq_py _ _ e1 e2]
    exact k.end hm (.bl _) q
  rcases o with ⟨h1, h2⟩ | ⟨h1, h2⟩
  · rcases scal_flat cx cy h1 h2 with ⟨z1, z2⟩ | ⟨z1, z2⟩
    · exact .inl ⟨z1, by rw [z2]; exact k.end hm (.bl _) q⟩
    · exact gen z1 z2
  · exact gen h1 h2
theorem od_ne : OpD K (rNe2 K) oNe := by
  intro x y dx dy F M H Q Q0 hm cx cy q k
  obtain ⟨o, q⟩ := q
  have gen : cmpOk dx = true → cmpOk dy = true → rNe2 K x y H Q0 := fun h1 h2 => by
    obtain ⟨p, e1, s1⟩ := cmpOk_py h1
    obtain ⟨p', e2, s2⟩ := cmpOk_py h2
    refine .inr ⟨p, p', dp_ct hm.le cx e1, dp_ct hm.le cy e2, s1, s2, ?_⟩
    rw [deq_py _ _ e1 e2]
    exact k.end hm (.bl _) q
  rcases o with ⟨h1, h2⟩ | ⟨h1, h2⟩
  · rcases scal_flat cx cy h1 h2 with ⟨z1, z2⟩ | ⟨z1, z2⟩
    · exact .inl ⟨z1, by rw [z2]; exact k.end hm (.bl _) q⟩
    · exact gen z1 z2
  · exact gen h1 h2
theorem dt_eq (hu : X.A.units + 64 < cLine) (ha : DE X E0 Ee a ta) (hb : DE X E0 Ee b tb) : DT X E0 Ee (.Compare a [.Eq] [b] pos) (dTest (dOp oEq ta tb)) := dt_cmp (op_eq.or (op_eqD hu)) od_eq ha hb (nomark _)
theorem dt_ne (hu : X.A.units + 64 < cLine) (ha : DE X E0 Ee a ta) (hb : DE X E0 Ee b tb) : DT X E0 Ee (.Compare a [.NotEq] [b] pos) (dTest (dOp oNe ta tb)) := dt_cmp (op_ne.or (op_neD hu)) od_ne ha hb (nomark _)
theorem de_eq (hu : X.A.units + 64 < cLine) (ha : DE X E0 Ee a ta) (hb : DE X E0 Ee b tb) : DE X E0 Ee (.Compare a [.Eq] [b] pos) (dOp oEq ta tb) := de_cmp (op_eq.or (op_eqD hu)) od_eq ha hb (nomark _)
theorem de_ne (hu : X.A.units + 64 < cLine) (ha : DE X E0 Ee a ta) (hb : DE X E0 Ee b tb) : DE X E0 Ee (.Compare a [.NotEq] [b] pos) (dOp oNe ta tb) := de_cmp (op_ne.or (op_neD hu)) od_ne ha hb (nomark _)
/-! ### is None -/
def isNonD : D → Bool
  | .non => true
  | _ => false
def oIsN (neg : Bool) : TOp := fun x y M Q => match y with
  | .non => Q (.bl (neg != isNonD x)) M
  | _ => False
theorem isNon_ct {F H : Hp} {x : V} {d : D} (cx : Ct K F H x d) : decide (x = .non) = isNonD d := by
  cases d with
  | non => cases cx; rfl
  | bl => cases cx; rfl
  | int => cases cx; rfl
  | str => cases cx; rfl
  | ty => cases cx; rfl
  | ref => cases cx; rfl
  | scr => obtain ⟨a, rfl, _⟩ := cx; rfl
  | lst => obtain ⟨a, o, rfl, _⟩ := cx; rfl
  | tup => obtain ⟨a, o, rfl, _⟩ := cx; rfl
  | dic => obtain ⟨a, o, rfl, _⟩ := cx; rfl
  | dit => obtain ⟨a, o, rfl, _⟩ := cx; rfl
  | obj => obtain ⟨a, o, p, rfl, _⟩ := cx; rfl
theorem od_isN : OpD K (fun x y H Q => y = .non ∧ Q (.bl (decide (x = .non))) H) (oIsN false) := by
  intro x y dx dy F M H Q Q0 hm cx cy q k
  cases dy with
  | non => cases cy; exact ⟨rfl, by rw [isNon_ct cx]; exact k.end hm (.bl _) (by simpa [oIsN] using q)⟩
  | _ => exact False.elim q
theorem od_notN : OpD K (fun x y H Q => y = .non ∧ Q (.bl (!decide (x = .non))) H) (oIsN true) := by
  intro x y dx dy F M H Q Q0 hm cx cy q k
  cases dy with
  | non => cases cy; exact ⟨rfl, by rw [isNon_ct cx]; exact k.end hm (.bl _) (by simpa [oIsN] using q)⟩
  | _ => exact False.elim q
theorem dt_isN (ha : DE X E0 Ee a ta) (hb : DE X E0 Ee b tb) : DT X E0 Ee (.Compare a [.Is] [b] pos) (dTest (dOp (oIsN false) ta tb)) := dt_cmp op_isN od_isN ha hb (nomark _)
theorem dt_notN (ha : DE X E0 Ee a ta) (hb : DE X E0 Ee b tb) : DT X E0 Ee (.Compare a [.IsNot] [b] pos) (dTest (dOp (oIsN true) ta tb)) := dt_cmp op_notN od_notN ha hb (nomark _)
theorem de_isN (ha : DE X E0 Ee a ta) (hb : DE X E0 Ee b tb) : DE X E0 Ee (.Compare a [.Is] [b] pos) (dOp (oIsN false) ta tb) := de_cmp op_isN od_isN ha hb (nomark _)
theorem de_notN (ha : DE X E0 Ee a ta) (hb : DE X E0 Ee b tb) : DE X E0 Ee (.Compare a [.IsNot] [b] pos) (dOp (oIsN true) ta tb) := de_cmp op_notN od_notN ha hb (nomark _)

/-! ### dicts as lists of pairs -/
section
variable {κ : Type} [DecidableEq κ]
def dlk (kvs : List (κ × D)) (k : κ) : Option D := match kvs with
  | [] => none
  | (j, d) :: r => if j = k then some d else dlk r k
def dput (kvs : List (κ × D)) (k : κ) (d : D) : List (κ × D) := match kvs with
  | [] => [(k, d)]
  | (j, x) :: r => if j = k then (j, d) :: r else (j, x) :: dput r k d
end
theorem RpK.val {F : Hp} : ∀ {xs : List (Key × V)} {ds : List (DK × D)} (k : DK), RpK K F xs ds → (∀ d, dlk ds k = some d → ∃ v, valV xs (toK k) = some v ∧ Rp K F v d) ∧ (dlk ds k = none → valV xs (toK k) = none)
  | _, _, k, .nil => ⟨fun d h => (nomatch h), fun _ => rfl⟩
  | _, _, k, .cons (k := j) (v := v) (d := d) (vs := xs) (ds := ds) r t => by
    obtain ⟨h1, h2⟩ := RpK.val k t
    by_cases e : j = k
    · subst e
      rw [valV_pos (p := (toK j, v)) rfl]
      have e : dlk ((j, d) :: ds) j = some d := by unfold dlk; rw [if_pos rfl]
      rw [e]
      exact ⟨fun d' z => ⟨v, rfl, by cases z; exact r⟩, fun z => nomatch z⟩
    · rw [valV_neg (p := (toK j, v)) (fun z => e (toK_inj z))]
      simp only [dlk, if_neg e]
      exact ⟨h1, h2⟩
theorem toKs_inj : ∀ {a b : List DK}, a.map toK = b.map toK → a = b
  | [], [], _ => rfl
  | [], _ :: _, e => by simp at e
  | _ :: _, [], e => by simp at e
  | x :: xs, y :: ys, e => by
    simp only [List.map_cons, List.cons.injEq] at e
    rw [toK_inj e.1, toKs_inj e.2]
theorem RpT.val {F : Hp} : ∀ {xs : List (List Key × V)} {ds : List (List DK × D)} (k : List DK), RpT K F xs ds → (∀ d, dlk ds k = some d → ∃ v, valV xs (k.map toK) = some v ∧ Rp K F v d) ∧ (dlk ds k = none → valV xs (k.map toK) = none)
  | _, _, k, .nil => ⟨fun d h => (nomatch h), fun _ => rfl⟩
  | _, _, k, .cons (k := j) (v := v) (d := d) (vs := xs) (ds := ds) r t => by
    obtain ⟨h1, h2⟩ := RpT.val k t
    by_cases e : j = k
    · subst e
      rw [valV_pos (p := (j.map toK, v)) rfl]
      have e : dlk ((j, d) :: ds) j = some d := by unfold dlk; rw [if_pos rfl]
      rw [e]
      exact ⟨fun d' z => ⟨v, rfl, by cases z; exact r⟩, fun z => nomatch z⟩
    · rw [valV_neg (p := (j.map toK, v)) (fun z => e (toKs_inj z))]
      simp only [dlk, if_neg e]
      exact ⟨h1, h2⟩
theorem putK_cons {κ : Type} [DecidableEq κ] {j k : κ} {x v : V} {r : List (κ × V)} (e : ¬ j = k) : putK ((j, x) :: r) k v = (j, x) :: putK r k v := by
  unfold putK
  simp only [List.any_cons, e, decide_false, Bool.false_or]
  split <;> simp [e]
theorem RpK.keys {F : Hp} : ∀ {xs : List (Key × V)} {ds : List (DK × D)}, RpK K F xs ds → xs.map (·.1) = ds.map fun d => toK d.1
  | _, _, .nil => rfl
  | _, _, .cons _ t => by simp [RpK.keys t]
theorem RpT.keys {F : Hp} : ∀ {xs : List (List Key × V)} {ds : List (List DK × D)}, RpT K F xs ds → xs.map (·.1) = ds.map fun d => d.1.map toK
  | _, _, .nil => rfl
  | _, _, .cons _ t => by simp [RpT.keys t]
theorem RpK.length {F : Hp} {xs : List (Key × V)} {ds : List (DK × D)} (r : RpK K F xs ds) : xs.length = ds.length := by
  have := congrArg List.length r.keys
  simpa using this
theorem RpT.length {F : Hp} {xs : List (List Key × V)} {ds : List (List DK × D)} (r : RpT K F xs ds) : xs.length = ds.length := by
  have := congrArg List.length r.keys
  simpa using this
/-- a value as a key -/
def dkey : D → Option DK
  | .int i => some (.inl i)
  | .str s => some (.inr s)
  | _ => none
def dkeys : List D → Option (List DK)
  | [] => some []
  | d :: r => match dkey d, dkeys r with
    | some k, some ks => some (k :: ks)
    | _, _ => none
theorem dkey_ct {F H : Hp} {v : V} {d : D} {k : DK} (c : Ct K F H v d) (h : dkey d = some k) : v = kV (toK k) := by
  cases d <;> first | (cases h; done) | (cases h; cases c; rfl)
theorem dkey_rp {F : Hp} {v : V} {d : D} {k : DK} (c : Rp K F v d) (h : dkey d = some k) : v = kV (toK k) := by
  cases c <;> first | (cases h; done) | (cases h; rfl)
theorem dkeys_rp {F : Hp} : ∀ {xs : List V} {ds : List D} {ks : List DK}, RpL K F xs ds → dkeys ds = some ks → xs = (ks.map toK).map kV
  | _, _, _, .nil, h => by cases h; rfl
  | _, _, _, .cons (v := v) (d := d) a t, h => by
    simp only [dkeys] at h
    split at h
    · rename_i k ks e1 e2
      cases h
      rw [dkey_rp a e1, dkeys_rp t e2]
      rfl
    · cases h
/-- what the dict holds at a key: its reading for the hand layer -/
def dfind : D → D → Option (Option D)
  | .dic kvs, k => match dkey k with
    | some kk => some (dlk kvs kk)
    | none => none
  | .dit kvs, .tup ks => match dkeys ks with
    | some kk => some (dlk kvs kk)
    | none => none
  | _, _ => none
theorem dfind_get {F H : Hp} {x y : V} {dx dy : D} {r : Option D} (cx : Ct K F H x dx) (cy : Ct K F H y dy) (h : dfind dx dy = some r) : ∃ a, x = .ref a ∧ ∃ o, DGet H a y o ∧ (∀ d, r = some d → ∃ v, o = some v ∧ Rp K F v d) ∧ (r = none → o = none) := by
  cases dx with
  | dic kvs =>
    obtain ⟨a, xs, rfl, e, rk⟩ := cx
    simp only [dfind] at h
    split at h
    · rename_i kk ek
      cases h
      obtain ⟨h1, h2⟩ := rk.val kk
      exact ⟨a, rfl, valV xs (toK kk), .inl ⟨xs, toK kk, e, dkey_ct cy ek, rfl⟩, h1, h2⟩
    · cases h
  | dit kvs =>
    obtain ⟨a, xs, rfl, e, rk⟩ := cx
    cases dy with
    | tup ks =>
      obtain ⟨b, ys, rfl, e2, r2⟩ := cy
      simp only [dfind] at h
      split at h
      · rename_i kk ek
        cases h
        obtain ⟨h1, h2⟩ := rk.val kk
        refine ⟨a, rfl, valV xs (kk.map toK), .inr ⟨xs, kk.map toK, b, e, rfl, ?_, rfl⟩, h1, h2⟩
        rw [e2, dkeys_rp r2 ek]
      · cases h
    | _ => cases h
  | _ => cases h
/-! ### subscripts -/
theorem atI_rp {F : Hp} {xs : List V} {ds : List D} {i : Int} {d : D} (r : RpL K F xs ds) (h : atI ds i = some d) : ∃ v, atI xs i = some v ∧ Rp K F v d := by
  unfold atI at h ⊢
  rw [r.length]
  cases e : ixN ds.length i with
  | none => rw [e] at h; cases h
  | some j => rw [e] at h; exact r.at h
def oIx : TOp
  | .lst xs, .int i, M, Q => ∃ d, atI xs i = some d ∧ Q d M
  | .tup xs, .int i, M, Q => ∃ d, atI xs i = some d ∧ Q d M
  | .scr xs, .int i, M, Q => ∃ d, atI xs i = some d ∧ Q (.int d) M
  | .str s, .int i, M, Q => s.length ≤ sizeLine ∧ ∃ c, atI s i = some c ∧ Q (.str [c]) M
  | .dic kvs, k, M, Q => ∃ d, dfind (.dic kvs) k = some (some d) ∧ Q d M
  | .dit kvs, k, M, Q => ∃ d, dfind (.dit kvs) k = some (some d) ∧ Q d M
  | _, _, _, _ => False
abbrev rIxD : R2 := fun x y H Q => ∃ a v, x = .ref a ∧ DGet H a y (some v) ∧ Q v H
theorem ix_dict (hu : X.A.units + 1 < cLine) : IxR X rIxD := by
  intro value slice pins s σ H x y v u Q I rx ry h hs
  obtain ⟨p, w, rfl, g, q⟩ := h
  obtain rfl : v = Value.ref p := rx
  exact tail_any (dict_typeIs I g) PySem.F.slot_dict_getitem.lookup (d_getItem hu I g ry fun w' s' I' r' => ⟨w, H, I', r', q⟩) hs
abbrev rIx4 (K : PySem.W.Frag) : R2 := fun x y H Q => rIx K x y H Q ∨ rIxD x y H Q
theorem atI_map {α β : Type} (f : α → β) {xs : List α} {i : Int} {d : α} (h : atI xs i = some d) : atI (xs.map f) i = some (f d) := by
  unfold atI at h ⊢
  rw [List.length_map]
  cases e : ixN xs.length i with
  | none => rw [e] at h; cases h
  | some j => rw [e] at h; show (xs.map f)[j]? = _; rw [List.getElem?_map, show xs[j]? = some d from h]; rfl
theorem od_ix : OpD K (rIx4 K) oIx := by
  intro x y dx dy F M H Q Q0 hm cx cy q k
  cases dx with
  | lst xs =>
    cases dy with
    | int i =>
      obtain ⟨d, e, q⟩ := q
      obtain ⟨p, vs, rfl, e1, r1⟩ := cx
      cases cy
      obtain ⟨v, e2, r2⟩ := atI_rp r1 e
      exact .inl (.inl ⟨p, vs, i, v, rfl, rfl, SqL.of e1, e2, k.end hm r2 q⟩)
    | _ => exact False.elim q
  | tup xs =>
    cases dy with
    | int i =>
      obtain ⟨d, e, q⟩ := q
      obtain ⟨p, vs, rfl, e1, r1⟩ := cx
      cases cy
      obtain ⟨v, e2, r2⟩ := atI_rp r1 e
      exact .inl (.inr (.inl ⟨p, vs, i, v, rfl, rfl, SqT.of e1, e2, k.end hm r2 q⟩))
    | _ => exact False.elim q
  | scr xs =>
    cases dy with
    | int i =>
      obtain ⟨d, e, q⟩ := q
      obtain ⟨p, rfl, e1, _⟩ := cx
      cases cy
      exact .inl (.inl ⟨p, _, i, .int d, rfl, rfl, e1, atI_map V.int e, k.end hm (.int _) q⟩)
    | _ => exact False.elim q
  | str xs =>
    cases dy with
    | int i =>
      obtain ⟨z, c, e, q⟩ := q
      cases cx; cases cy
      exact .inl (.inr (.inr ⟨_, i, c, rfl, rfl, by rw [mkS_len]; exact z, e, k.end hm (.str [c]) q⟩))
    | _ => exact False.elim q
  | dic kvs =>
    obtain ⟨d, e, q⟩ := q
    obtain ⟨p, rfl, o, g, h1, _⟩ := dfind_get cx cy e
    obtain ⟨v, rfl, r⟩ := h1 d rfl
    exact .inr ⟨p, v, rfl, g, k.end hm r q⟩
  | dit kvs =>
    obtain ⟨d, e, q⟩ := q
    obtain ⟨p, rfl, o, g, h1, _⟩ := dfind_get cx cy e
    obtain ⟨v, rfl, r⟩ := h1 d rfl
    exact .inr ⟨p, v, rfl, g, k.end hm r q⟩
  | _ => exact False.elim q
theorem de_ix (hu : X.A.units + 1 < cLine) (ha : DE X E0 Ee a ta) (hb : DE X E0 Ee b tb) (hs : PlainIx b := by exact fun _ _ => rfl) : DE X E0 Ee (.Subscript a b pos) (dOp oIx ta tb) := PEimp (pe_ix (ix_seq.or (ix_dict hu)) ha hb hs) fun σ H Q0 h => low_op od_ix h

/-! ### in -/
def oIn (neg : Bool) : TOp
  | x, .lst ys, M, Q => (flatD x = true ∧ ys.all flatD = true ∨ cmpOk x = true ∧ cmpOk (.lst ys) = true) ∧ Q (.bl (neg != ys.any fun y => deq y x)) M
  | x, .tup ys, M, Q => (flatD x = true ∧ ys.all flatD = true ∨ cmpOk x = true ∧ cmpOk (.tup ys) = true) ∧ Q (.bl (neg != ys.any fun y => deq y x)) M
  | .str [c], .str z, M, Q => Q (.bl (neg != decide (c ∈ z))) M
  | x, .dic kvs, M, Q => ∃ o, dfind (.dic kvs) x = some o ∧ Q (.bl (neg != o.isSome)) M
  | x, .dit kvs, M, Q => ∃ o, dfind (.dit kvs) x = some o ∧ Q (.bl (neg != o.isSome)) M
  | _, _, _, _ => False
abbrev rInData (K : PySem.W.Frag) (neg : Bool) : R2 := fun x y H Q => ∃ (d : PyData) (ds : List PyData), Dp K H x d ∧ (Dp K H y (.list ds) ∨ Dp K H y (.tuple ds)) ∧ SeqAt.shaped d = true ∧ PyData.canLayAll0 ds = true ∧ Q (.bl (neg != ds.any fun y => PyData.eqv y d)) H
theorem op_inData (hu : X.A.units + 65 < cLine) : OpR X (compareOp .In) (rInData X.K false) := by
  intro pins s σ H x y v u Q I rx ry h
  obtain ⟨d, ds, hd, he, sd, se, q⟩ := h
  obtain ⟨as, r1⟩ := Dp.reads I d x v hd rx
  have room : X.A.units + 1 + min (PyData.depthAll ds) d.depth < cLine := by
    have h1 := SeqAt.depth_of_shaped sd
    have h2 : min (PyData.depthAll ds) d.depth ≤ d.depth := Nat.min_le_right _ _
    omega
  have q' : Q (.bl (ds.any fun y => PyData.eqv y d)) H := by simpa using q
  rcases he with he | he
  · obtain ⟨bs, r2⟩ := Dp.reads I _ y u he ry
    exact SeqAt.in_list_reads r2 r1 se (SeqAt.canLay_of_shaped sd) room ⟨.bl _, H, I, rfl, q'⟩
  · obtain ⟨bs, r2⟩ := Dp.reads I _ y u he ry
    exact SeqAt.in_tuple_reads r2 r1 se (SeqAt.canLay_of_shaped sd) room ⟨.bl _, H, I, rfl, q'⟩
theorem op_notInData (hu : X.A.units + 65 < cLine) : OpR X (compareOp .NotIn) (rInData X.K true) := by
  intro pins s σ H x y v u Q I rx ry h
  obtain ⟨d, ds, hd, he, sd, se, q⟩ := h
  obtain ⟨as, r1⟩ := Dp.reads I d x v hd rx
  have room : X.A.units + 1 + min (PyData.depthAll ds) d.depth < cLine := by
    have h1 := SeqAt.depth_of_shaped sd
    have h2 : min (PyData.depthAll ds) d.depth ≤ d.depth := Nat.min_le_right _ _
    omega
  have q' : Q (.bl (!ds.any fun y => PyData.eqv y d)) H := by simpa using q
  rcases he with he | he
  · obtain ⟨bs, r2⟩ := Dp.reads I _ y u he ry
    exact SeqAt.notIn_list_reads r2 r1 se (SeqAt.canLay_of_shaped sd) room ⟨.bl _, H, I, rfl, q'⟩
  · obtain ⟨bs, r2⟩ := Dp.reads I _ y u he ry
    exact SeqAt.notIn_tuple_reads r2 r1 se (SeqAt.canLay_of_shaped sd) room ⟨.bl _, H, I, rfl, q'⟩
abbrev rInDic (neg : Bool) : R2 := fun x y H Q => ∃ a o, y = .ref a ∧ DGet H a x o ∧ Q (.bl (neg != o.isSome)) H
theorem op_inDic (hu : X.A.units + 1 < cLine) : OpR X (compareOp .In) (rInDic false) := by
  intro pins s σ H x y v u Q I rx ry h
  obtain ⟨a, o, rfl, g, q⟩ := h
  obtain rfl : u = Value.ref a := ry
  exact d_in hu I g rx fun s' I' => ⟨.bl _, H, I', rfl, by simpa using q⟩
theorem op_notInDic (hu : X.A.units + 1 < cLine) : OpR X (compareOp .NotIn) (rInDic true) := by
  intro pins s σ H x y v u Q I rx ry h
  obtain ⟨a, o, rfl, g, q⟩ := h
  obtain rfl : u = Value.ref a := ry
  exact d_notIn hu I g rx fun s' I' => ⟨.bl _, H, I', rfl, by simpa using q⟩
abbrev rInS (neg : Bool) : R2 := fun x y H Q => ∃ (c : Nat) (z : Str), x = .str ⟨#[c]⟩ ∧ y = .str z ∧ Q (.bl (neg != decide (c ∈ z.cps.toList))) H
theorem op_inS : OpR X (compareOp .In) (rInS false) := by
  intro pins s σ H x y v u Q I rx ry h
  obtain ⟨c, z, e1, e2, q⟩ := h
  exact op_in_sign pins s σ H x y v u Q I rx ry ⟨c, z, e1, e2, by simpa using q⟩
theorem op_notInS : OpR X (compareOp .NotIn) (rInS true) := by
  intro pins s σ H x y v u Q I rx ry h
  obtain ⟨c, z, e1, e2, q⟩ := h
  exact op_notIn_sign pins s σ H x y v u Q I rx ry ⟨c, z, e1, e2, by simpa using q⟩
abbrev rIn4 (K : PySem.W.Frag) (neg : Bool) : R2 := fun x y H Q => rIn K neg x y H Q ∨ (rInData K neg x y H Q ∨ (rInS neg x y H Q ∨ rInDic neg x y H Q))
theorem any_flat {F H : Hp} {x : V} {dx : D} (cx : Ct K F H x dx) (hx : flatD dx = true) : ∀ {xs : List V} {ds : List D}, Le F H → RpL K F xs ds → ds.all flatD = true → xs.all flatV = true ∧ inV x xs = ds.any fun y => deq y dx
  | _, _, _, .nil, _ => ⟨rfl, rfl⟩
  | _, _, le, .cons (v := v) (d := d) a t, h => by
    rw [List.all_cons, Bool.and_eq_true] at h
    obtain ⟨h1, h2⟩ := any_flat cx hx le t h.2
    obtain ⟨f1, f2, f3⟩ := eqV_flat (Ct.of le a) cx h.1 hx
    refine ⟨by rw [List.all_cons, f1, h1]; rfl, ?_⟩
    show List.any (v :: _) _ = _
    rw [List.any_cons, List.any_cons, f3, ← h2]
    rfl
theorem any_py : ∀ {ds : List D} {ps : List PyData} {x : D} {p : PyData}, pyL ds = some ps → x.py = some p → (ps.any fun y => PyData.eqv y p) = ds.any fun y => deq y x
  | [], ps, x, p, h, _ => by cases h; rfl
  | d :: r, ps, x, p, h, hx => by
    simp only [pyL] at h
    split at h
    · rename_i q qs e1 e2
      cases h
      rw [List.any_cons, List.any_cons, deq_py d x e1 hx, any_py e2 hx]
    · cases h
theorem od_in {neg : Bool} : OpD K (rIn4 K neg) (oIn neg) := by
  intro x y dx dy F M H Q Q0 hm cx cy q k
  cases dy with
  | lst ys =>
    have q : (flatD dx = true ∧ ys.all flatD = true ∨ cmpOk dx = true ∧ cmpOk (.lst ys) = true) ∧ Q (.bl (neg != ys.any fun y => deq y dx)) M := by cases dx <;> exact q
    obtain ⟨o, q⟩ := q
    rcases o with ⟨h1, h2⟩ | ⟨h1, h2⟩
    · obtain ⟨p, vs, rfl, e1, r1⟩ := cy
      obtain ⟨g1, g2⟩ := any_flat cx h1 hm.le r1 h2
      have f0 : flatV x = true := by cases dx <;> first | (cases h1; done) | (cases cx; rfl)
      refine .inl ⟨p, vs, rfl, .inl (SqL.of e1), f0, g1, ?_⟩
      have : (if neg = true then !inV x vs else inV x vs) = (neg != ys.any fun y => deq y dx) := by rw [g2]; cases neg <;> simp
      rw [this]
      exact k.end hm (.bl _) q
    · obtain ⟨p, e1, s1⟩ := cmpOk_py h1
      obtain ⟨p', e2, s2⟩ := cmpOk_py h2
      have e2' := e2
      simp only [D.py, Option.map_eq_some_iff] at e2'
      obtain ⟨ps, e3, rfl⟩ := e2'
      refine .inr (.inl ⟨p, ps, dp_ct hm.le cx e1, .inl (dp_ct hm.le cy e2), s1, ?_, ?_⟩)
      · have := SeqAt.canLay_of_shaped s2; simpa [PyData.canLay0] using this
      · rw [any_py e3 e1]; exact k.end hm (.bl _) q
  | tup ys =>
    have q : (flatD dx = true ∧ ys.all flatD = true ∨ cmpOk dx = true ∧ cmpOk (.tup ys) = true) ∧ Q (.bl (neg != ys.any fun y => deq y dx)) M := by cases dx <;> exact q
    obtain ⟨o, q⟩ := q
    rcases o with ⟨h1, h2⟩ | ⟨h1, h2⟩
    · obtain ⟨p, vs, rfl, e1, r1⟩ := cy
      obtain ⟨g1, g2⟩ := any_flat cx h1 hm.le r1 h2
      have f0 : flatV x = true := by cases dx <;> first | (cases h1; done) | (cases cx; rfl)
      refine .inl ⟨p, vs, rfl, .inr (SqT.of e1), f0, g1, ?_⟩
      have : (if neg = true then !inV x vs else inV x vs) = (neg != ys.any fun y => deq y dx) := by rw [g2]; cases neg <;> simp
      rw [this]
      exact k.end hm (.bl _) q
    · obtain ⟨p, e1, s1⟩ := cmpOk_py h1
      obtain ⟨p', e2, s2⟩ := cmpOk_py h2
      have e2' := e2
      simp only [D.py, Option.map_eq_some_iff] at e2'
      obtain ⟨ps, e3, rfl⟩ := e2'
      refine .inr (.inl ⟨p, ps, dp_ct hm.le cx e1, .inr (dp_ct hm.le cy e2), s1, ?_, ?_⟩)
      · have := SeqAt.canLay_of_shaped s2; simpa [PyData.canLay0] using this
      · rw [any_py e3 e1]; exact k.end hm (.bl _) q
  | str z =>
    cases dx with
    | str s =>
      match s, q, cx with
      | [c], q, cx => cases cx; cases cy; exact .inr (.inr (.inl ⟨c, mkS z, rfl, rfl, k.end hm (.bl _) q⟩))
      | [], q, cx => exact False.elim q
      | _ :: _ :: _, q, cx => exact False.elim q
    | _ => exact False.elim q
  | dic kvs =>
    have q : ∃ o, dfind (.dic kvs) dx = some o ∧ Q (.bl (neg != o.isSome)) M := by
      cases dx with
      | str s => match s, q with
        | [], q => exact q
        | [_], q => exact q
        | _ :: _ :: _, q => exact q
      | _ => exact q
    obtain ⟨o, e, q⟩ := q
    obtain ⟨p, rfl, o', g, h1, h2⟩ := dfind_get cy cx e
    refine .inr (.inr (.inr ⟨p, o', rfl, g, ?_⟩))
    have : o'.isSome = o.isSome := by
      cases o with
      | none => rw [h2 rfl]; rfl
      | some d => obtain ⟨v, e, _⟩ := h1 d rfl; rw [e]; rfl
    rw [this]
    exact k.end hm (.bl _) q
  | dit kvs =>
    have q : ∃ o, dfind (.dit kvs) dx = some o ∧ Q (.bl (neg != o.isSome)) M := by
      cases dx with
      | str s => match s, q with
        | [], q => exact q
        | [_], q => exact q
        | _ :: _ :: _, q => exact q
      | _ => exact q
    obtain ⟨o, e, q⟩ := q
    obtain ⟨p, rfl, o', g, h1, h2⟩ := dfind_get cy cx e
    refine .inr (.inr (.inr ⟨p, o', rfl, g, ?_⟩))
    have : o'.isSome = o.isSome := by
      cases o with
      | none => rw [h2 rfl]; rfl
      | some d => obtain ⟨v, e, _⟩ := h1 d rfl; rw [e]; rfl
    rw [this]
    exact k.end hm (.bl _) q
  | _ => cases dx with
    | str s => match s, q with
      | [], q => exact False.elim q
      | [_], q => exact False.elim q
      | _ :: _ :: _, q => exact False.elim q
    | _ => exact False.elim q
theorem dt_in (hu : X.A.units + 65 < cLine) (ha : DE X E0 Ee a ta) (hb : DE X E0 Ee b tb) (hm : behindInMarks .In b = false := by rfl) : DT X E0 Ee (.Compare a [.In] [b] pos) (dTest (dOp (oIn false) ta tb)) := dt_cmp (op_in_seq.or ((op_inData hu).or (op_inS.or (op_inDic (by omega))))) od_in ha hb hm
theorem dt_notIn (hu : X.A.units + 65 < cLine) (ha : DE X E0 Ee a ta) (hb : DE X E0 Ee b tb) (hm : behindInMarks .NotIn b = false := by rfl) : DT X E0 Ee (.Compare a [.NotIn] [b] pos) (dTest (dOp (oIn true) ta tb)) := dt_cmp (op_notIn_seq.or ((op_notInData hu).or (op_notInS.or (op_notInDic (by omega))))) od_in ha hb hm
theorem de_in (hu : X.A.units + 65 < cLine) (ha : DE X E0 Ee a ta) (hb : DE X E0 Ee b tb) (hm : behindInMarks .In b = false := by rfl) : DE X E0 Ee (.Compare a [.In] [b] pos) (dOp (oIn false) ta tb) := de_cmp (op_in_seq.or ((op_inData hu).or (op_inS.or (op_inDic (by omega))))) od_in ha hb hm
theorem de_notIn (hu : X.A.units + 65 < cLine) (ha : DE X E0 Ee a ta) (hb : DE X E0 Ee b tb) (hm : behindInMarks .NotIn b = false := by rfl) : DE X E0 Ee (.Compare a [.NotIn] [b] pos) (dOp (oIn true) ta tb) := de_cmp (op_notIn_seq.or ((op_notInData hu).or (op_notInS.or (op_notInDic (by omega))))) od_in ha hb hm

/-! ### slices -/
abbrev TDO := DEnv → Mp → (Option Int → Mp → Prop) → Prop
abbrev KO (K : PySem.W.Frag) := Kont K (fun _ (v : Option Int) (d : Option Int) => v = d)
def lowO (K : PySem.W.Frag) (E0 : L2.St → XK) (Ee : DEnv → DXK) (t : TDO) : TO := fun σ H Q0 => ∃ F M ρ Q, SS K E0 Ee σ H F M ρ ∧ t ρ M Q ∧ KO K F M H Q Q0
def DO (X : Cx) (E0 : L2.St → XK) (Ee : DEnv → DXK) (e : Option Expr) (t : TDO) : Prop := PO X e (lowO X.K E0 Ee t)
theorem POimp {e : Option Expr} {t u : TO} (h : PO X e t) (i : ∀ σ H Q, u σ H Q → t σ H Q) : PO X e u := ⟨fun pins s σ H Q I q => h.run pins s σ H Q I (i _ _ _ q)⟩
def dNoO : TDO := fun _ M Q => Q none M
def dSoO (t : TDE) : TDO := fun ρ M Q => t ρ M fun d M1 => match d with
  | .int i => Q (some i) M1
  | _ => False
theorem do_none : DO X E0 Ee none dNoO := POimp po_none fun σ H Q0 ⟨F, M, ρ, Q, ss, q, k⟩ => k.end ss.hm rfl q
theorem do_some (h : DE X E0 Ee e te) : DO X E0 Ee (some e) (dSoO te) := POimp (po_some h) fun σ H Q0 ⟨F, M, ρ, Q, ss, q, k⟩ => by
  refine ⟨F, M, ρ, _, ss, q, fun v H1 F1 d M1 s1 r q1 => ?_⟩
  cases r with
  | int i => exact ⟨i, rfl, k _ _ _ _ _ s1 rfl q1⟩
  | _ => exact False.elim q1
def dcut {α : Type} (xs : List α) (lo hi : Option Int) : List α := (xs.drop (HT.sIx xs.length 0 lo)).take (HT.sIx xs.length xs.length hi - HT.sIx xs.length 0 lo)
def oSl : D → Option Int → Option Int → Mp → (D → Mp → Prop) → Prop
  | .lst xs, lo, hi, M, Q => Q (.lst (dcut xs lo hi)) M
  | .tup xs, lo, hi, M, Q => ¬ (HT.sIx xs.length 0 lo = 0 ∧ HT.sIx xs.length xs.length hi = xs.length) ∧ Q (.tup (dcut xs lo hi)) M
  | .str s, lo, hi, M, Q => s.length ≤ sizeLine ∧ Q (.str (dcut s lo hi)) M
  | _, _, _, _, _ => False
def dSl (te : TDE) (tl th : TDO) : TDE := fun ρ M Q => te ρ M fun x M1 => tl ρ M1 fun lo M2 => th ρ M2 fun hi M3 => oSl (vw M3 x) lo hi M3 Q
theorem RpL.cut {F : Hp} {xs : List V} {ds : List D} (r : RpL K F xs ds) (lo hi : Option Int) : RpL K F (cutV xs lo hi) (dcut ds lo hi) := by
  unfold cutV dcut
  rw [r.length]
  exact RpL.take _ (RpL.drop _ r)
theorem cutS_mk (s : Cd) (lo hi : Option Int) : cutS (mkS s) lo hi = mkS (dcut s lo hi) := by
  unfold cutS dcut
  rw [mkS_len]
  rfl
theorem de_sl {lo hi : Option Expr} {tl th : TDO} {p2 : Pos} (he : DE X E0 Ee e te) (hl : DO X E0 Ee lo tl) (hh : DO X E0 Ee hi th) : DE X E0 Ee (.Subscript e (.Slice lo hi none p2) pos) (dSl te tl th) :=
  PEimp (pe_slice (sl_list.or (sl_tup.or sl_str)) he hl hh) fun σ H Q0 ⟨F, M, ρ, Q, ss, q, k⟩ => by
    refine ⟨F, M, ρ, _, ss, q, fun v H1 F1 d M1 s1 r q1 => ⟨F1, M1, ρ, _, ss.step s1, q1, fun lo' H2 F2 lo M2 s2 r2 q2 => ⟨F2, M2, ρ, _, (ss.step s1).step s2, q2, fun hi' H3 F3 hi M3 s3 r3 q3 => ?_⟩⟩⟩
    have r2' : lo' = lo := r2
    have r3' : hi' = hi := r3
    subst r2' r3'
    have st := s1.trans (s2.trans s3)
    have ct := Ct.vw s3.hm (r.mono (s2.trans s3).fle)
    have k' := k.step st
    generalize vw M3 d = d' at ct q3
    cases d' with
    | lst xs => obtain ⟨p, vs, rfl, e1, r1⟩ := ct; exact .inl ⟨p, vs, rfl, SqL.of e1, newLst s3.hm (r1.cut _ _) q3 k'⟩
    | tup xs =>
      obtain ⟨p, vs, rfl, e1, r1⟩ := ct
      exact .inr (.inl ⟨p, vs, rfl, SqT.of e1, by rw [r1.length]; exact q3.1, newTup s3.hm (r1.cut _ _) q3.2 k'⟩)
    | str s =>
      cases ct
      refine .inr (.inr ⟨_, rfl, by rw [mkS_len]; exact q3.1, ?_⟩)
      rw [cutS_mk]
      exact k'.end s3.hm (.str _) q3.2
    | _ => exact False.elim q3
end
end DL


set_option Elab.async false
set_option linter.all false
set_option maxRecDepth 100000
set_option maxHeartbeats 4000000
namespace DL
open PySem PySem.Spec PyProof.Rows L2

/-! ### statements -/
structure DEnds where
  nx : DEnv → Mp → Prop
  rt : D → Mp → Prop
  bk : DEnv → Mp → Prop := fun _ _ => False
  ct : DEnv → Mp → Prop := fun _ _ => False
abbrev TDS := DEnds → DEnv → Mp → Prop
abbrev KS (K : PySem.W.Frag) := Kont K (fun F (v : L2.St) (d : DEnv) => RpE K F v d)
structure Cn (K : PySem.W.Frag) (F : Hp) (M : Mp) (H : Hp) (D : DEnds) (D0 : Ends) : Prop where
  nx : KS K F M H D.nx D0.nx
  rt : KE K F M H D.rt D0.rt
  bk : KS K F M H D.bk D0.bk
  ct : KS K F M H D.ct D0.ct
theorem Cn.step {K : PySem.W.Frag} {F F' : Hp} {M M' : Mp} {H H' : Hp} {D : DEnds} {D0 : Ends} (c : Cn K F M H D D0) (s : Step K F M H F' M' H') : Cn K F' M' H' D D0 := ⟨c.nx.step s, c.rt.step s, c.bk.step s, c.ct.step s⟩
def lowS (K : PySem.W.Frag) (E0 : L2.St → XK) (Ee : DEnv → DXK) (t : TDS) : TS := fun D0 σ H => ∃ F M ρ D, SS K E0 Ee σ H F M ρ ∧ t D ρ M ∧ Cn K F M H D D0
def DS (X : Cx) (E0 : L2.St → XK) (Ee : DEnv → DXK) (st : Stmt) (t : TDS) : Prop := PS X st (lowS X.K E0 Ee t)
def DSs (X : Cx) (E0 : L2.St → XK) (Ee : DEnv → DXK) (st : List Stmt) (t : TDS) : Prop := PSs X st (lowS X.K E0 Ee t)
/-- targets -/
abbrev TDG := D → DEnv → Mp → (DEnv → Mp → Prop) → Prop
abbrev TDGs := List D → DEnv → Mp → (DEnv → Mp → Prop) → Prop
def FrS (vs : List Nat) (σ σ' : L2.St) : Prop := ∀ ws : List Nat, (∀ i ∈ vs, i ∈ ws) → L2.wipe σ' ws = L2.wipe σ ws
def KG (K : PySem.W.Frag) (vs : List Nat) (σ : L2.St) (F : Hp) (M : Mp) (H : Hp) (Q : DEnv → Mp → Prop) (Q0 : L2.St → Hp → Prop) : Prop :=
  ∀ σ' H' F' ρ' M', Step K F M H F' M' H' → RpE K F' σ' ρ' → FrS vs σ σ' → Q ρ' M' → Q0 σ' H'
def lowG (K : PySem.W.Frag) (E0 : L2.St → XK) (Ee : DEnv → DXK) (vs : List Nat) (t : TDG) : TG := fun v σ H Q0 => ∃ F M ρ d Q, SS K E0 Ee σ H F M ρ ∧ Rp K F v d ∧ t d ρ M Q ∧ KG K vs σ F M H Q Q0
def lowGs (K : PySem.W.Frag) (E0 : L2.St → XK) (Ee : DEnv → DXK) (vs : List Nat) (t : TDGs) : TGs := fun v σ H Q0 => ∃ F M ρ d Q, SS K E0 Ee σ H F M ρ ∧ RpL K F v d ∧ t d ρ M Q ∧ KG K vs σ F M H Q Q0
def DG (X : Cx) (E0 : L2.St → XK) (Ee : DEnv → DXK) (vs : List Nat) (e : Expr) (t : TDG) : Prop := PG X e (lowG X.K E0 Ee vs t)
def DGs (X : Cx) (E0 : L2.St → XK) (Ee : DEnv → DXK) (vs : List Nat) (e : List Expr) (t : TDGs) : Prop := PGs X e (lowGs X.K E0 Ee vs t)
theorem PGimp {X : Cx} {e : Expr} {t u : TG} (h : PG X e t) (i : ∀ v σ H Q, u v σ H Q → t v σ H Q) : PG X e u := ⟨fun pins s σ H v w Q I r q => h.run pins s σ H v w Q I r (i _ _ _ _ q)⟩
theorem PGsimp {X : Cx} {e : List Expr} {t u : TGs} (h : PGs X e t) (i : ∀ v σ H Q, u v σ H Q → t v σ H Q) : PGs X e u := ⟨fun pins s σ H v w Q I r q => h.run pins s σ H v w Q I r (i _ _ _ _ q)⟩
section
variable {X : Cx} {K : PySem.W.Frag} {E0 : L2.St → XK} {Ee : DEnv → DXK} {a b c e : Expr} {es : List Expr} {ta tb tc te : TDE} {tr : TDA} {pos : Pos} {st : Stmt} {rest : List Stmt} {t u : TDS}
def dNext : TDS := fun D ρ M => D.nx ρ M
def dSeq (t u : TDS) : TDS := fun D ρ M => t { D with nx := u D } ρ M
theorem dss_nil : DSs X E0 Ee [] dNext := PSsimp pss_nil fun D0 σ H ⟨F, M, ρ, D, ss, q, k⟩ => k.nx _ _ _ _ _ (.refl ss.hm) ss.env q
theorem dss_cons (h1 : DS X E0 Ee st t) (h2 : DSs X E0 Ee rest u) : DSs X E0 Ee (st :: rest) (dSeq t u) := PSsimp (pss_cons h1 h2) fun D0 σ H ⟨F, M, ρ, D, ss, q, k⟩ =>
  ⟨F, M, ρ, { D with nx := u D }, ss, q, ⟨fun σ' H' F' ρ' M' s e q' => ⟨F', M', ρ', D, ss.to s e, q', k.step s⟩, k.rt, k.bk, k.ct⟩⟩
theorem dss_one (h1 : DS X E0 Ee st t) : DSs X E0 Ee [st] t := PSsimp (pss_one h1) fun D0 σ H h => h
def dBreak : TDS := fun D ρ M => D.bk ρ M
def dCont : TDS := fun D ρ M => D.ct ρ M
theorem ds_pass : DS X E0 Ee (.Pass pos) dNext := PSimp ps_pass fun D0 σ H ⟨F, M, ρ, D, ss, q, k⟩ => k.nx _ _ _ _ _ (.refl ss.hm) ss.env q
theorem ds_break : DS X E0 Ee (.Break pos) dBreak := PSimp ps_break fun D0 σ H ⟨F, M, ρ, D, ss, q, k⟩ => k.bk _ _ _ _ _ (.refl ss.hm) ss.env q
theorem ds_cont : DS X E0 Ee (.Continue pos) dCont := PSimp ps_continue fun D0 σ H ⟨F, M, ρ, D, ss, q, k⟩ => k.ct _ _ _ _ _ (.refl ss.hm) ss.env q
def dExpr (te : TDE) : TDS := fun D ρ M => te ρ M fun _ M1 => D.nx ρ M1
theorem ds_expr (he : DE X E0 Ee e te) (hs : swapsWith e none pos.line X.env = pure false := by rfl) : DS X E0 Ee (.Expr e pos) (dExpr te) := PSimp (ps_expr he hs) fun D0 σ H ⟨F, M, ρ, D, ss, q, k⟩ =>
  ⟨F, M, ρ, _, ss, q, fun v H1 F1 d M1 s1 r q1 => k.nx _ _ _ _ _ s1 (ss.env.mono s1.fle) q1⟩
def dRet (te : TDE) : TDS := fun D ρ M => te ρ M D.rt
theorem ds_ret (he : DE X E0 Ee e te) : DS X E0 Ee (.Return (some e) pos) (dRet te) := PSimp (ps_ret he) fun D0 σ H ⟨F, M, ρ, D, ss, q, k⟩ => ⟨F, M, ρ, _, ss, q, k.rt⟩
def dRetN : TDS := fun D ρ M => D.rt .non M
theorem ds_retN : DS X E0 Ee (.Return none pos) dRetN := PSimp ps_retN fun D0 σ H ⟨F, M, ρ, D, ss, q, k⟩ => k.rt _ _ _ _ _ (.refl ss.hm) .non q
def dIf (tc : TDT) (t u : TDS) : TDS := fun D ρ M => tc ρ M fun b M1 => if b = true then t D ρ M1 else u D ρ M1
theorem ds_if {tt : TDT} {p q : List Stmt} (hc : DT X E0 Ee c tt) (ha : DSs X E0 Ee p t) (hb : DSs X E0 Ee q u) : DS X E0 Ee (.If c p q pos) (dIf tt t u) := PSimp (ps_if hc ha hb) fun D0 σ H ⟨F, M, ρ, D, ss, q, k⟩ => by
  refine ⟨F, M, ρ, _, ss, q, fun c H1 F1 d M1 s1 r q1 => ?_⟩
  have r' : c = d := r
  subst r'
  cases c with
  | true => exact iteT ⟨F1, M1, ρ, D, ss.step s1, by simpa using q1, k.step s1⟩
  | false => exact iteF ⟨F1, M1, ρ, D, ss.step s1, by simpa using q1, k.step s1⟩
def dNever : TDS := fun _ _ _ => False
theorem ds_never : DS X E0 Ee st dNever := PSimp ps_never fun D0 σ H ⟨F, M, ρ, D, ss, q, k⟩ => q
theorem dss_never {sts : List Stmt} : DSs X E0 Ee sts dNever := PSsimp pss_never fun D0 σ H ⟨F, M, ρ, D, ss, q, k⟩ => q
/-! ### targets -/
def gNm (i : Nat) : TDG := fun d ρ M Q => Q (rset ρ i (some d)) M
theorem dg_name {i : Nat} {x : Str} (hN : X.N.Nodup) (hi : X.N[i]? = some x) (hx : Loc X.env.scope x) (hf : X.fn x = true ∨ X.env.scope.names.lookup x = some .local := by first | exact .inl rfl | exact .inr rfl | assumption) : DG X E0 Ee [i] (.Name x pos) (gNm i) :=
  PGimp (pg_name hN hi hx hf) fun v σ H Q0 ⟨F, M, ρ, d, Q, ss, r, q, k⟩ => k _ _ _ _ _ (.refl ss.hm) (ss.env.set i r) (fun ws h => wipe_set σ i _ (h i (by simp))) q
def gNl : TDGs := fun ds ρ M Q => match ds with
  | [] => Q ρ M
  | _ => False
def gCn (t : TDG) (u : TDGs) : TDGs := fun ds ρ M Q => match ds with
  | d :: r => t d ρ M fun ρ' M' => u r ρ' M' Q
  | [] => False
theorem dgs_nil : DGs X E0 Ee [] [] gNl := PGsimp pgs_nil fun v σ H Q0 ⟨F, M, ρ, d, Q, ss, r, q, k⟩ => by
  cases r with
  | nil => exact ⟨rfl, k _ _ _ _ _ (.refl ss.hm) ss.env (fun ws _ => rfl) q⟩
  | cons _ _ => exact q.elim
theorem dgs_cons {vs ws : List Nat} {g : TDG} {gs : TDGs} (h1 : DG X E0 Ee vs e g) (h2 : DGs X E0 Ee ws es gs) (hs : (assignEach (e :: es) X.env).map (·.2) = assign e X.env :: (assignEach es X.env).map (·.2) := by rfl) : DGs X E0 Ee (vs ++ ws) (e :: es) (gCn g gs) :=
  PGsimp (pgs_cons h1 h2 hs) fun v σ H Q0 ⟨F, M, ρ, d, Q, ss, r, q, k⟩ => by
    cases r with
    | nil => exact q.elim
    | cons r rr =>
      refine ⟨_, _, rfl, F, M, ρ, _, _, ss, r, q, fun σ1 H1 F1 ρ1 M1 s1 e1 f1 q1 => ⟨F1, M1, ρ1, _, Q, ss.to s1 e1, rr.mono s1.fle, q1, fun σ2 H2 F2 ρ2 M2 s2 e2 f2 q2 => ?_⟩⟩
      exact k _ _ _ _ _ (s1.trans s2) e2 (fun zs h => (f2 zs fun i hi => h i (List.mem_append_right _ hi)).trans (f1 zs fun i hi => h i (List.mem_append_left _ hi))) q2
def gTp (n : Nat) (t : TDGs) : TDG := fun d ρ M Q => match d with
  | .tup ds => ds.length = n ∧ t ds ρ M Q
  | _ => False
theorem dg_tup {vs : List Nat} {k : Nat} {gs : TDGs} {n : Nat} (hc : X.calm = true) (h : DGs X E0 Ee vs es gs)
    (hn : (assignEach es X.env).length = n := by rfl) (hst : (assignEach es X.env).findIdx? (·.1) = none := by rfl) : DG X E0 Ee vs (.Tuple es k pos) (gTp n gs) := PGimp (pg_tup hc h hn hst) fun v σ H Q0 ⟨F, M, ρ, d, Q, ss, r, q, k⟩ => by
  cases r with
  | tup e rl => exact ⟨_, _, rfl, SqT.of (ss.hm.le.at e (fun z => z)), by rw [rl.length]; exact q.1, F, M, ρ, _, Q, ss, rl, q.2, k⟩
  | _ => exact False.elim q
def dAsg (te : TDE) (g : TDG) : TDS := fun D ρ M => te ρ M fun d M1 => g d ρ M1 D.nx
theorem ds_asg {tg : Expr} {vs : List Nat} {g : TDG} (he : DE X E0 Ee e te) (hg : DG X E0 Ee vs tg g) (hs : swapsWithSole [tg] e pos.line X.env = pure false := by rfl) (hw : swappedStores [tg] e X.env = pure none := by rfl)
    (h1 : (assignEach [tg] X.env).map (·.2) = [assign tg X.env] := by rfl) : DS X E0 Ee (.Assign [tg] e pos) (dAsg te g) := PSimp (ps_asg he hg hs hw h1) fun D0 σ H ⟨F, M, ρ, D, ss, q, k⟩ =>
  ⟨F, M, ρ, _, ss, q, fun v H1 F1 d M1 s1 r q1 => ⟨F1, M1, ρ, d, _, ss.step s1, r, q1, fun σ2 H2 F2 ρ2 M2 s2 e2 _ q2 => k.nx _ _ _ _ _ (s1.trans s2) e2 q2⟩⟩
def dSet (i : Nat) (te : TDE) : TDS := fun D ρ M => te ρ M fun d M1 => D.nx (rset ρ i (some d)) M1
theorem ds_set {i : Nat} {x : Str} {pos' : Pos} (hN : X.N.Nodup) (hi : X.N[i]? = some x) (hx : Loc X.env.scope x) (he : DE X E0 Ee e te) (hs : swapsWith e (some (.Name x pos')) pos.line X.env = pure false := by rfl) (hf : X.fn x = true ∨ X.env.scope.names.lookup x = some .local := by first | exact .inl rfl | exact .inr rfl | assumption) :
    DS X E0 Ee (.Assign [.Name x pos'] e pos) (dSet i te) := PSimp (ps_set hN hi hx he hs hf) fun D0 σ H ⟨F, M, ρ, D, ss, q, k⟩ =>
  ⟨F, M, ρ, _, ss, q, fun v H1 F1 d M1 s1 r q1 => k.nx _ _ _ _ _ s1 ((ss.env.mono s1.fle).set i r) q1⟩
/-- name op= e -/
def dAug (i : Nat) (f : TOp) (te : TDE) : TDS := fun D ρ M => match rget ρ i with
  | some x => te ρ M fun y M1 => f (vw M1 x) (vw M1 y) M1 fun z M2 => D.nx (rset ρ i (some z)) M2
  | none => False
theorem ds_aug {i : Nat} {x : Str} {op : Operator} {r : R2} {f : TOp} {pos' : Pos} (ho : OpR X (inplaceOp op) r) (hd : OpD X.K r f) (hN : X.N.Nodup) (hi : X.N[i]? = some x) (hx : Loc X.env.scope x) (he : DE X E0 Ee e te) (hf : X.fn x = true ∨ X.env.scope.names.lookup x = some .local := by first | exact .inl rfl | exact .inr rfl | assumption) :
    DS X E0 Ee (.AugAssign (.Name x pos') op e pos) (dAug i f te) := PSimp (ps_aug hN hi hx he (ti := r) ho hf) fun D0 σ H ⟨F, M, ρ, D, ss, q, k⟩ => by
  unfold dAug at q
  cases z : rget ρ i with
  | none => rw [z] at q; exact q.elim
  | some d =>
    rw [z] at q
    obtain ⟨v, e1, rv⟩ := ss.env.get i d z
    refine ⟨v, e1, F, M, ρ, _, ss, q, fun y H1 F1 dy M1 s1 ry q1 => ?_⟩
    exact hd _ _ _ _ F1 M1 H1 _ _ s1.hm (Ct.vw s1.hm (rv.mono s1.fle)) (Ct.vw s1.hm ry) q1 fun w H2 F2 dz M2 s2 rz q2 => k.nx _ _ _ _ _ (s1.trans s2) ((ss.env.mono (s1.trans s2).fle).set i rz) q2
end
end DL


set_option Elab.async false
set_option linter.all false
set_option maxRecDepth 100000
set_option maxHeartbeats 4000000
namespace DL
open PySem PySem.Spec PyProof.Rows L2

/-! ### what is walked -/
def JW (K : PySem.W.Frag) (F : Hp) (M : Mp) (H : Hp) (J : It) (items : List D) : Prop := ∀ F1 M1 H1, Step K F M H F1 M1 H1 →
  (∀ i, i < items.length → J.go i H1 ∧ ∀ x H2, J.yld i H1 x H2 → ∃ F2, Step K F1 M1 H1 F2 M1 H2 ∧ ∀ d, items[i]? = some d → Rp K F2 x d) ∧ J.stop items.length H1
def lowI (K : PySem.W.Frag) (E0 : L2.St → XK) (Ee : DEnv → DXK) (t : TDA) : TI := fun σ H R => ∃ F M ρ Q, SS K E0 Ee σ H F M ρ ∧ t ρ M Q ∧ ∀ J H' F' items M', Step K F M H F' M' H' → JW K F' M' H' J items → Q items M' → R J H'
def DI (X : Cx) (E0 : L2.St → XK) (Ee : DEnv → DXK) (tg iter : Expr) (t : TDA) : Prop := PI X tg iter (lowI X.K E0 Ee t)
theorem PIimp {X : Cx} {tg e : Expr} {t u : TI} (h : PI X tg e t) (i : ∀ σ H Q, u σ H Q → t σ H Q) : PI X tg e u := ⟨fun pins s σ H Q I q => h.run pins s σ H Q I (i _ _ _ q)⟩
theorem PI.or {X : Cx} {tg e : Expr} {t u : TI} (h : PI X tg e t) (h' : PI X tg e u) : PI X tg e (fun σ H R => t σ H R ∨ u σ H R) := ⟨fun pins s σ H R I q => q.elim (h.run pins s σ H R I) (h'.run pins s σ H R I)⟩
section
variable {X : Cx} {K : PySem.W.Frag} {E0 : L2.St → XK} {Ee : DEnv → DXK} {a b c e tg : Expr} {es : List Expr} {ta tb tc te : TDE} {tr : TDA} {pos : Pos} {st : Stmt} {rest : List Stmt} {t u : TDS}
theorem jw_list {F H : Hp} {M : Mp} {p : Addr} {xs : List V} {ds : List D} (e : F p = some (.lst xs)) (r : RpL K F xs ds) : JW K F M H (Itl K p) ds := fun F1 M1 H1 s => by
  have e1 : H1 p = some (.lst xs) := s.hm.le.at (s.fle _ _ e) (fun z => z)
  refine ⟨fun i hi => ⟨?_, fun x H2 y => ?_⟩, xs, SqL.of e1, by rw [r.length]; exact Nat.le_refl _⟩
  · obtain ⟨v, hv, _⟩ := r.at (List.getElem?_eq_getElem hi)
    exact ⟨xs, v, SqL.of e1, hv⟩
  · obtain ⟨rfl, y⟩ := y
    refine ⟨F1, .refl s.hm, fun d hd => ?_⟩
    obtain ⟨v, hv, rv⟩ := r.at hd
    have := y xs (SqL.of e1)
    rw [hv] at this
    cases this
    exact rv.mono s.fle
theorem jw_tup {F H : Hp} {M : Mp} {p : Addr} {xs : List V} {ds : List D} (e : F p = some (.tup xs)) (r : RpL K F xs ds) : JW K F M H (Itt K p) ds := fun F1 M1 H1 s => by
  have e1 : H1 p = some (.tup xs) := s.hm.le.at (s.fle _ _ e) (fun z => z)
  refine ⟨fun i hi => ⟨?_, fun x H2 y => ?_⟩, xs, SqT.of e1, by rw [r.length]; exact Nat.le_refl _⟩
  · obtain ⟨v, hv, _⟩ := r.at (List.getElem?_eq_getElem hi)
    exact ⟨xs, v, SqT.of e1, hv⟩
  · obtain ⟨rfl, y⟩ := y
    refine ⟨F1, .refl s.hm, fun d hd => ?_⟩
    obtain ⟨v, hv, rv⟩ := r.at hd
    have := y xs (SqT.of e1)
    rw [hv] at this
    cases this
    exact rv.mono s.fle
theorem jw_scr {F H : Hp} {M : Mp} {p : Addr} {ns : List Int} (e : (∃ o, F p = some (.frz o (.lst (ns.map V.int)))) ∨ KL K p ns) : JW K F M H (Itl K p) (ns.map D.int) := fun F1 M1 H1 s => by
  have sq : SqL K H1 p (ns.map V.int) := by
    rcases e with ⟨o, e⟩ | e
    · exact .inl (.inr ⟨o, s.hm.le.at (s.fle _ _ e) (fun z => z)⟩)
    · exact .inr e
  refine ⟨fun i hi => ⟨?_, fun x H2 y => ?_⟩, ns.map V.int, sq, by simp⟩
  · rw [List.length_map] at hi
    exact ⟨_, .int ns[i], sq, by simp [hi]⟩
  · obtain ⟨rfl, y⟩ := y
    refine ⟨F1, .refl s.hm, fun d hd => ?_⟩
    have z := y _ sq
    rw [List.getElem?_map] at hd z
    cases q : ns[i]? with
    | none => rw [q] at hd; cases hd
    | some n => rw [q] at hd z; cases hd; cases z; exact .int n
theorem jw_str {F H : Hp} {M : Mp} {s : Cd} : JW K F M H (Its (mkS s)) (s.map fun c => D.str [c]) := fun F1 M1 H1 st => by
  refine ⟨fun i hi => ⟨?_, fun x H2 y => ?_⟩, ?_⟩
  · rw [List.length_map] at hi; show i < s.toArray.size; simpa using hi
  · obtain ⟨rfl, c, hc, rfl⟩ := y
    refine ⟨F1, .refl st.hm, fun d hd => ?_⟩
    have hc' : s[i]? = some c := by simpa [mkS] using hc
    rw [List.getElem?_map, hc'] at hd
    cases hd
    exact .str [c]
  · show s.toArray.size ≤ _; simp
def dIter (te : TDE) : TDA := fun ρ M Q => te ρ M fun d M1 => match d with
  | .lst xs => Q xs M1
  | .tup xs => Q xs M1
  | .scr ns => Q (ns.map .int) M1
  | .str s => Q (s.map fun c => .str [c]) M1
  | _ => False
theorem di_seq (he : DE X E0 Ee e te) : DI X E0 Ee tg e (dIter te) := by
  refine ⟨fun pins s σ H R I h => ?_⟩
  obtain ⟨F, M, ρ, Q, ss, q, k⟩ := h
  refine thn (he.run pins s σ H (fun v H1 => ∃ F1 d M1, Step X.K F M H F1 M1 H1 ∧ Rp X.K F1 v d ∧ (match d with
    | .lst xs => Q xs M1
    | .tup xs => Q xs M1
    | .scr ns => Q (ns.map .int) M1
    | .str s => Q (s.map fun c => .str [c]) M1
    | _ => False)) I ⟨F, M, ρ, _, ss, q, fun v H1 F1 d M1 s1 r q1 => ⟨F1, d, M1, s1, r, q1⟩⟩) fun u s1 hh => ?_
  obtain ⟨v, H1, I1, rv, F1, d, M1, st, r, q1⟩ := hh
  cases r with
  | lst e r =>
    cases rv
    obtain ⟨its, rv, p, hz⟩ := I1.list (SqL.of (st.hm.le.at e (fun z => z)))
    refine wpAny_pyIter_list p.isList ?_
    refine ⟨s1.heap.objs.size, [s1.heap.objs.size], _, _, H1, rfl, I1.kept (t' := s1.toks) fun b o e => Heap.get?_push_of_some _ e, turn_list _ _, ⟨_, Heap.get?_push_size _ rfl, rfl, rfl⟩, fun b hb => ?_, k _ _ _ _ _ st (jw_list e r) q1⟩
    have e : b = s1.heap.objs.size := by simpa using hb
    subst e
    exact I1.fpOk (Nat.le_refl _) (I1.hok.fresh (Nat.le_refl _))
  | scr e =>
    cases rv
    rename_i a0 ns0
    have sq : SqL X.K H1 a0 (ns0.map V.int) := by
      rcases e with ⟨o, e⟩ | e
      · exact .inl (.inr ⟨o, st.hm.le.at e (fun z => z)⟩)
      · exact .inr e
    obtain ⟨its, rv, p, hz⟩ := I1.list sq
    refine wpAny_pyIter_list p.isList ?_
    refine ⟨s1.heap.objs.size, [s1.heap.objs.size], _, _, H1, rfl, I1.kept (t' := s1.toks) fun b o e => Heap.get?_push_of_some _ e, turn_list _ _, ⟨_, Heap.get?_push_size _ rfl, rfl, rfl⟩, fun b hb => ?_, k _ _ _ _ _ st (jw_scr e) q1⟩
    have e : b = s1.heap.objs.size := by simpa using hb
    subst e
    exact I1.fpOk (Nat.le_refl _) (I1.hok.fresh (Nat.le_refl _))
  | tup e r =>
    cases rv
    obtain ⟨its, rv, p, hz⟩ := I1.tuple (SqT.of (st.hm.le.at e (fun z => z)))
    refine wpAny_pyIter_tuple (show s1.heap.IsTuple _ its.toArray from p) ?_
    refine ⟨s1.heap.objs.size, [s1.heap.objs.size], _, _, H1, rfl, I1.kept (t' := s1.toks) fun b o e => Heap.get?_push_of_some _ e, turn_tuple _ _, ⟨_, Heap.get?_push_size _ rfl, rfl, rfl⟩, fun b hb => ?_, k _ _ _ _ _ st (jw_tup e r) q1⟩
    have e : b = s1.heap.objs.size := by simpa using hb
    subst e
    exact I1.fpOk (Nat.le_refl _) (I1.hok.fresh (Nat.le_refl _))
  | str c =>
    obtain ⟨t, rfl⟩ := rv
    have z := k _ _ _ _ _ st (jw_str (s := c)) q1
    cases ha : (mkS c).cps.all (· < 128)
    · exact wpAny_pyIter_wide ha (pi_one (tk := s1.toks) I1 _ (turn_str _ (mkS c) t "str_iterator" (.inr rfl)) ⟨_, Heap.get?_push_size _ rfl, rfl, rfl⟩ z)
    · exact wpAny_pyIter_ascii ha (pi_one (tk := s1.toks) I1 _ (turn_str _ (mkS c) t "str_ascii_iterator" (.inl rfl)) ⟨_, Heap.get?_push_size _ rfl, rfl, rfl⟩ z)
  | _ => exact False.elim q1
def rngD (lo : Int) (n : Nat) : List D := (List.range n).map fun (i : Nat) => D.int (lo + (i : Int))
theorem jw_range {F H : Hp} {M : Mp} {lo : Int} {n : Nat} : JW K F M H (Itr lo n) (rngD lo n) := fun F1 M1 H1 st => by
  have hl : (rngD lo n).length = n := by simp [rngD]
  rw [hl]
  refine ⟨fun i hi => ⟨hi, fun x H2 y => ?_⟩, Nat.le_refl _⟩
  obtain ⟨rfl, rfl⟩ := y
  refine ⟨F1, .refl st.hm, fun d hd => ?_⟩
  simp only [rngD, List.getElem?_map] at hd
  rw [List.getElem?_range hi] at hd
  cases hd
  exact .int _
def dRng1 (ta : TDE) : TDA := fun ρ M Q => ta ρ M fun d M1 => match d with
  | .int j => -(2 ^ 62) ≤ j ∧ j < 2 ^ 62 ∧ Q (rngD 0 j.toNat) M1
  | _ => False
def dRng2 (ta tb : TDE) : TDA := fun ρ M Q => ta ρ M fun d M1 => tb ρ M1 fun d2 M2 => match d, d2 with
  | .int i, .int j => (-(2 ^ 62) ≤ i ∧ i < 2 ^ 62 ∧ -(2 ^ 62) ≤ j ∧ j < 2 ^ 62) ∧ Q (rngD i (j - i).toNat) M2
  | _, _ => False
theorem di_range1 {p : Pos} (hg : Gl X "range") (hm : X.mg "range" = none) (ha : DE X E0 Ee a ta) (hs1 : starEach [a] X.env = (false, eval a X.env) :: starEach [] X.env := by rfl) (hs : starEach [a] X.env = [(false, eval a X.env)] := by rfl) : DI X E0 Ee tg (.Call (.Name "range" p) [a] [] pos) (dRng1 ta) :=
  PIimp (pi_range1 hg hm (pa_cons ha pa_nil hs1) hs) fun σ H R ⟨F, M, ρ, Q, ss, q, k⟩ => by
    refine ⟨F, M, ρ, _, ss, q, fun v H1 F1 d M1 s1 r q1 => ?_⟩
    cases r with
    | int j => exact ⟨j, rfl, q1.1, q1.2.1, k _ _ _ _ _ s1 jw_range q1.2.2⟩
    | _ => exact False.elim q1
theorem di_range2 {p : Pos} (hg : Gl X "range") (hm : X.mg "range" = none) (ha : DE X E0 Ee a ta) (hb : DE X E0 Ee b tb) (hs0 : starEach [a, b] X.env = (false, eval a X.env) :: starEach [b] X.env := by rfl) (hs1 : starEach [b] X.env = (false, eval b X.env) :: starEach [] X.env := by rfl)
    (hs : starEach [a, b] X.env = [(false, eval a X.env), (false, eval b X.env)] := by rfl) (hs2 : starEach [b] X.env = [(false, eval b X.env)] := by rfl) : DI X E0 Ee tg (.Call (.Name "range" p) [a, b] [] pos) (dRng2 ta tb) :=
  PIimp (pi_range2 hg hm (pa_cons ha (pa_cons hb pa_nil hs1) hs0) hs hs2) fun σ H R ⟨F, M, ρ, Q, ss, q, k⟩ => by
    refine ⟨F, M, ρ, _, ss, q, fun v H1 F1 d M1 s1 r q1 => ⟨F1, M1, ρ, _, ss.step s1, q1, fun v2 H2 F2 d2 M2 s2 r2 q2 => ?_⟩⟩
    cases r with
    | int i =>
      cases r2 with
      | int j => exact ⟨i, j, rfl, q2.1, k _ _ _ _ _ (s1.trans s2) jw_range q2.2⟩
      | _ => exact False.elim q2
    | _ => cases r2 <;> exact False.elim q2
/-! ### loops -/
def dFor (ti : TDA) (g : TDG) (tb : TDS) : TDS := fun D ρ M => ti ρ M fun items M1 => ∃ Pv : Nat → DEnv → Mp → Prop, Pv 0 ρ M1 ∧
  (∀ i x ρ M, items[i]? = some x → Pv i ρ M → g x ρ M fun ρ' M' => tb { D with nx := Pv (i + 1), ct := Pv (i + 1), bk := D.nx } ρ' M') ∧ ∀ ρ M, Pv items.length ρ M → D.nx ρ M
theorem ds_for {iter : Expr} {body : List Stmt} {ti : TDA} {vs : List Nat} {g : TDG} (hp : PassesOwn (model X.prog X.w) X.A X.env X.xe) (hc : X.calm = true) (hi : DI X E0 Ee tg iter ti) (hg : DG X E0 Ee vs tg g) (hb : DSs X E0 Ee body t)
    (hs : ∀ x, foldedSetIterable iter X.env x = pure x := by intro _; rfl) : DS X E0 Ee (.For tg iter body [] pos) (dFor ti g t) := PSimp (ps_for hp hc hi hg hb hs) fun D0 σ H ⟨F, M, ρ, D, ss, q, k⟩ => by
  refine ⟨F, M, ρ, _, ss, q, fun J H1 F1 items M1 s1 jw q1 => ?_⟩
  obtain ⟨Pv, h0, hs', hd⟩ := q1
  refine ⟨fun i m σ' H' => m = items.length - i ∧ i ≤ items.length ∧ ∃ F' M' ρ', Step X.K F1 M1 H1 F' M' H' ∧ RpE X.K F' σ' ρ' ∧ Pv i ρ' M', ⟨_, rfl, Nat.zero_le _, F1, M1, ρ, .refl s1.hm, ss.env.mono s1.fle, h0⟩, ?_⟩
  rintro i m σ' H' ⟨rfl, hi, F', M', ρ', st, en, pv⟩
  obtain ⟨jw1, jw2⟩ := jw F' M' H' st
  by_cases hlt : i < items.length
  · obtain ⟨go, yl⟩ := jw1 i hlt
    refine .inr ⟨go, fun σ2 H2 => ∃ F2 M2 ρ2, Step X.K F1 M1 H1 F2 M2 H2 ∧ RpE X.K F2 σ2 ρ2 ∧ Pv (i + 1) ρ2 M2, fun σ2 H2 ⟨F2, M2, ρ2, s2, e2, p2⟩ => ⟨_, by omega, rfl, hlt, F2, M2, ρ2, s2, e2, p2⟩, fun x H2 y => ?_⟩
    obtain ⟨F2, s2, rx⟩ := yl x H2 y
    have hx : items[i]? = some items[i] := List.getElem?_eq_getElem hlt
    have st2 := st.trans s2
    refine ⟨F2, M', ρ', items[i], _, (ss.to (s1.trans st2) (en.mono s2.fle)), rx _ hx, hs' i _ ρ' M' hx pv, fun σ3 H3 F3 ρ3 M3 s3 e3 _ q3 => ?_⟩
    refine ⟨F3, M3, ρ3, _, ss.to (s1.trans (st2.trans s3)) e3, q3, ?_⟩
    have s13 := st2.trans s3
    have c := k.step (s1.trans s13)
    exact ⟨fun σ4 H4 F4 ρ4 M4 s4 e4 q4 => ⟨_, _, _, s13.trans s4, e4, q4⟩, c.rt, c.nx, fun σ4 H4 F4 ρ4 M4 s4 e4 q4 => ⟨_, _, _, s13.trans s4, e4, q4⟩⟩
  · have e : i = items.length := by omega
    subst e
    exact .inl ⟨jw2, k.nx _ _ _ _ _ (s1.trans st) en (hd ρ' M' pv)⟩
def dWhile (tc : TDT) (tb : TDS) : TDS := fun D ρ M => ∃ Pv : Nat → DEnv → Mp → Prop, (∃ m, Pv m ρ M) ∧ ∀ m ρ M, Pv m ρ M → tc ρ M fun b M1 => if b = true then tb { D with nx := fun ρ' M' => ∃ m', m' < m ∧ Pv m' ρ' M', ct := fun ρ' M' => ∃ m', m' < m ∧ Pv m' ρ' M', bk := D.nx } ρ M1 else D.nx ρ M1
theorem ds_while {body : List Stmt} {tt : TDT} (hp : PassesOwn (model X.prog X.w) X.A X.env X.xe) (hc : DT X E0 Ee c tt) (hb : DSs X E0 Ee body t) : DS X E0 Ee (.While c body [] pos) (dWhile tt t) := PSimp (ps_while hp hc hb) fun D0 σ H ⟨F, M, ρ, D, ss, q, k⟩ => by
  obtain ⟨Pv, ⟨m0, h0⟩, hs⟩ := q
  refine ⟨fun m σ' H' => ∃ F' M' ρ', Step X.K F M H F' M' H' ∧ RpE X.K F' σ' ρ' ∧ Pv m ρ' M', ⟨m0, F, M, ρ, .refl ss.hm, ss.env, h0⟩, ?_⟩
  rintro m σ' H' ⟨F', M', ρ', st, en, pv⟩
  refine ⟨F', M', ρ', _, ss.to st en, hs m ρ' M' pv, fun b H1 F1 d M1 s1 r q1 => ?_⟩
  have r' : b = d := r
  subst r'
  have s01 := st.trans s1
  have c := k.step s01
  cases b with
  | true =>
    refine iteT ⟨fun σ2 H2 => ∃ m' F2 M2 ρ2, m' < m ∧ Step X.K F M H F2 M2 H2 ∧ RpE X.K F2 σ2 ρ2 ∧ Pv m' ρ2 M2, fun σ2 H2 ⟨m', F2, M2, ρ2, hm, s2, e2, p2⟩ => ⟨m', hm, F2, M2, ρ2, s2, e2, p2⟩, F1, M1, ρ', _, ss.to s01 (en.mono s1.fle), by simpa using q1, ?_⟩
    exact ⟨fun σ4 H4 F4 ρ4 M4 s4 e4 ⟨m', hm, q4⟩ => ⟨m', _, _, _, hm, s01.trans s4, e4, q4⟩, c.rt, c.nx, fun σ4 H4 F4 ρ4 M4 s4 e4 ⟨m', hm, q4⟩ => ⟨m', _, _, _, hm, s01.trans s4, e4, q4⟩⟩
  | false => exact iteF (c.nx _ _ _ _ _ (.refl s1.hm) (en.mono s1.fle) (by simpa using q1))
/-! ### comprehensions -/
abbrev EN : L2.St → XK := fun _ _ _ _ => False
abbrev NX : DEnv → DXK := fun _ _ _ _ => False
theorem xc_no {F H : Hp} {M : Mp} : XC K EN NX F M H := fun _ _ _ _ _ _ _ _ _ _ _ _ _ z => z
def dLcG (ti : TDA) (g : TDG) (tt : TDT) (te : TDE) (own : List Nat) (fin : List D → Mp → Prop) : DEnv → Mp → Prop := fun ρ M => ti ρ M fun items M1 => ∃ Pv : Nat → List D → Mp → Prop, Pv 0 [] M1 ∧
  (∀ i x acc M, items[i]? = some x → Pv i acc M → g x (dwipe ρ own) M fun ρ2 M2 => tt ρ2 M2 fun b M3 => if b = true then te ρ2 M3 fun y M4 => acc.length < sizeLine ∧ Pv (i + 1) (acc ++ [y]) M4 else Pv (i + 1) acc M3) ∧
  ∀ acc M, Pv items.length acc M → fin acc M
def dLc (ti : TDA) (g : TDG) (tt : TDT) (te : TDE) (own : List Nat) : TDE := fun ρ M Q => dLcG ti g tt te own (fun acc M' => Q (.lst acc) M') ρ M
def dLcM (ti : TDA) (g : TDG) (tt : TDT) (te : TDE) (own : List Nat) : TDE := fun ρ M Q => dLcG ti g tt te own (fun acc M' => ∀ p, M' p = none → Q (.ref p) (mset M' p (.lst acc))) ρ M
def DTs (X : Cx) (E0 : L2.St → XK) (Ee : DEnv → DXK) (ifs : List Expr) (t : TDT) : Prop := PTs X ifs (lowT X.K E0 Ee t)
def dYes : TDT := fun _ M Q => Q true M
theorem dts_nil : DTs X E0 Ee [] dYes := ⟨fun pins s σ H Q I ⟨F, M, ρ, Q', ss, q, k⟩ => pts_nil.run pins s σ H Q I (k.end ss.hm rfl q)⟩
theorem dts_one {tt : TDT} (h : DT X E0 Ee c tt) : DTs X E0 Ee [c] tt := pts_one h
theorem lc_low {ti : TDA} {g : TDG} {tt : TDT} {te : TDE} {vs own : List Nat} {fin : List D → Mp → Prop} {σ : L2.St} {H F : Hp} {M : Mp} {ρ : DEnv} {Q0 : VK} (hv : ∀ i ∈ vs, i ∈ own) (ss : SS K E0 Ee σ H F M ρ) (q : dLcG ti g tt te own fin ρ M)
    (k : ∀ D xs F1 M1 H1 F' M' H' acc, Step K F M H F1 M1 H1 → Step K F1 M1 H1 F' M' H' → H1 D = none → F' D = none → M' D = none → H' D = some (.lst xs) → RpL K F' xs acc → fin acc M' → Q0 (.ref D) H') :
    tLc (lowI K E0 Ee ti) (lowG K EN NX vs g) (lowT K EN NX tt) (lowE K EN NX te) own σ H Q0 := by
  refine ⟨F, M, ρ, _, ss, q, fun J H1 F1 items M1 s1 jw q1 D hD => ?_⟩
  obtain ⟨Pv, h0, hs', hd⟩ := q1
  obtain ⟨nM1, nF1⟩ := s1.hm.none hD
  have s1' : Step K F1 M1 H1 F1 M1 (upd H1 D (.lst [])) := (Step.refl s1.hm).hset hD nF1 nM1 _
  refine ⟨fun i m H' => m = items.length - i ∧ i ≤ items.length ∧ ∃ F' M' xs acc, Step K F1 M1 H1 F' M' H' ∧ F' D = none ∧ M' D = none ∧ H' D = some (.lst xs) ∧ RpL K F' xs acc ∧ Pv i acc M', ⟨_, rfl, Nat.zero_le _, F1, M1, [], [], s1', nF1, nM1, upd_same, .nil, h0⟩, ?_⟩
  rintro i m H' ⟨rfl, hi, F', M', xs, acc, st, nF, nM, eD, ra, pv⟩
  obtain ⟨jw1, jw2⟩ := jw F' M' H' st
  by_cases hlt : i < items.length
  · obtain ⟨go, yl⟩ := jw1 i hlt
    refine .inr ⟨go, fun H2 => ∃ F2 M2 xs acc, Step K F1 M1 H1 F2 M2 H2 ∧ F2 D = none ∧ M2 D = none ∧ H2 D = some (.lst xs) ∧ RpL K F2 xs acc ∧ Pv (i + 1) acc M2, fun H2 h2 => ⟨_, by omega, rfl, hlt, h2⟩, fun x H2 y => ?_⟩
    obtain ⟨F2, s2, rx⟩ := yl x H2 y
    have hx : items[i]? = some items[i] := List.getElem?_eq_getElem hlt
    have st2 := st.trans s2
    refine ⟨F2, M', dwipe ρ own, items[i], _, ⟨s2.hm, ((ss.env.mono s1.fle).mono st2.fle).wipe own, xc_no⟩, rx _ hx, hs' i _ acc M' hx pv, fun σ3 H3 F3 ρ3 M3 s3 e3 f3 q3 => ⟨?_, ?_⟩⟩
    · have z := f3 own hv
      rw [z]
      have ww : ∀ (ws : List Nat) (τ : L2.St), (∀ i ∈ ws, i ∈ own) → L2.wipe (L2.wipe τ ws) own = L2.wipe τ own := by
        intro ws
        induction ws with
        | nil => intro τ _; rfl
        | cons w ws ih =>
          intro τ h
          show L2.wipe ((L2.wipe τ ws).set w none) own = _
          rw [wipe_set _ _ _ (h w (by simp)), ih τ fun i hi => h i (by simp [hi])]
      exact ww own σ fun i h => h
    · refine ⟨F3, M3, ρ3, _, ⟨s3.hm, e3, xc_no⟩, q3, fun b H4 F4 d M4 s4 r4 q4 => ?_⟩
      have r' : b = d := r4
      subst r'
      have s24 := s2.trans (s3.trans s4)
      obtain ⟨h1, h2, h3⟩ := s24.hid eD nF nM
      cases b with
      | true =>
        refine iteT ⟨F4, M4, ρ3, _, ⟨s4.hm, e3.mono s4.fle, xc_no⟩, by simpa using q4, fun v H5 F5 d M5 s5 r5 q5 => ?_⟩
        obtain ⟨g1, g2, g3⟩ := s5.hid h1 h2 h3
        have s15 := st.trans (s24.trans s5)
        have rl := ra.mono (s24.trans s5).fle
        refine ⟨xs, g1, by rw [rl.length]; exact q5.1, F5, M5, xs ++ [v], acc ++ [d], s15.hset hD g2 g3 _, g2, g3, upd_same, rl.app (.cons r5 .nil), q5.2⟩
      | false => exact iteF ⟨F4, M4, xs, acc, st.trans s24, h2, h3, h1, ra.mono s24.fle, by simpa using q4⟩
  · have e : i = items.length := by omega
    subst e
    exact .inl ⟨jw2, k D xs F1 M1 H1 F' M' H' acc s1 st hD nF nM eD ra (hd acc M' pv)⟩
theorem lc_frz {fin : D → Mp → Prop} {H F : Hp} {M : Mp} {Q0 : VK} (k : KE K F M H fin Q0) : ∀ D xs F1 M1 H1 F' M' H' acc, Step K F M H F1 M1 H1 → Step K F1 M1 H1 F' M' H' → H1 D = none → F' D = none → M' D = none → H' D = some (.lst xs) → RpL K F' xs acc → fin (.lst acc) M' → Q0 (.ref D) H' :=
  fun D xs F1 M1 H1 F' M' H' acc s1 s2 hD nF nM eD ra q => by
    have s3 := s2.hfrz hD nF nM eD
    exact k _ _ _ _ _ (s1.trans s3) (.lst upd_same (ra.mono (fun a u e => by rw [upd_ne (ne_of_none e nF)]; exact e))) q
theorem lc_mut {fin : D → Mp → Prop} {H F : Hp} {M : Mp} {Q0 : VK} (k : KE K F M H fin Q0) : ∀ D xs F1 M1 H1 F' M' H' acc, Step K F M H F1 M1 H1 → Step K F1 M1 H1 F' M' H' → H1 D = none → F' D = none → M' D = none → H' D = some (.lst xs) → RpL K F' xs acc → (∀ p, M' p = none → fin (.ref p) (mset M' p (.lst acc))) → Q0 (.ref D) H' :=
  fun D xs F1 M1 H1 F' M' H' acc s1 s2 hD nF nM eD ra q => by
    have s3 := s2.hmut (mo := .lst acc) hD nF nM ⟨xs, eD, ra⟩
    exact k _ _ _ _ _ (s1.trans s3) (.ref D) (q D nM)
section
variable {elt iter : Expr} {ifs : List Expr} {scope : Scope} {own : List (Str × Nat)} {ti : TDA} {vs : List Nat} {g : TDG} {tt : TDT}
theorem de_lc (hc : X.calm = true) (hN : X.N.Nodup) (hi : DI X E0 Ee tg iter ti) (ok : BlkOk X.N X.env.scope scope own)
    (hg : ∀ (s : Shared) (H : Hp) (C : Addr) (cl : List (Str × Addr)) (fp : List Addr), DG (X.blk s H scope (compEnvC scope cl C X.env) fp) EN NX vs tg g) (ht : ∀ (s : Shared) (H : Hp) (C : Addr) (cl : List (Str × Addr)) (fp : List Addr), DTs (X.blk s H scope (compEnvC scope cl C X.env) fp) EN NX ifs tt)
    (he : ∀ (s : Shared) (H : Hp) (C : Addr) (cl : List (Str × Addr)) (fp : List Addr), DE (X.blk s H scope (compEnvC scope cl C X.env) fp) EN NX elt te) (hv : ∀ i ∈ vs, i ∈ own.map (·.2)) (hs : ∀ x, foldedSetIterable iter X.env x = pure x := by intro _; rfl) :
    DE X E0 Ee (.ListComp elt [⟨tg, iter, ifs, 0⟩] scope pos) (dLc ti g tt te (own.map (·.2))) := PEimp (pe_lc (g := lowG X.K EN NX vs g) (tt := lowT X.K EN NX tt) (te := lowE X.K EN NX te) hc hN hi ok hg ht he hs) fun σ H Q0 ⟨F, M, ρ, Q, ss, q, k⟩ => lc_low hv ss q (lc_frz k)
theorem de_lcM (hc : X.calm = true) (hN : X.N.Nodup) (hi : DI X E0 Ee tg iter ti) (ok : BlkOk X.N X.env.scope scope own)
    (hg : ∀ (s : Shared) (H : Hp) (C : Addr) (cl : List (Str × Addr)) (fp : List Addr), DG (X.blk s H scope (compEnvC scope cl C X.env) fp) EN NX vs tg g) (ht : ∀ (s : Shared) (H : Hp) (C : Addr) (cl : List (Str × Addr)) (fp : List Addr), DTs (X.blk s H scope (compEnvC scope cl C X.env) fp) EN NX ifs tt)
    (he : ∀ (s : Shared) (H : Hp) (C : Addr) (cl : List (Str × Addr)) (fp : List Addr), DE (X.blk s H scope (compEnvC scope cl C X.env) fp) EN NX elt te) (hv : ∀ i ∈ vs, i ∈ own.map (·.2)) (hs : ∀ x, foldedSetIterable iter X.env x = pure x := by intro _; rfl) :
    DE X E0 Ee (.ListComp elt [⟨tg, iter, ifs, 0⟩] scope pos) (dLcM ti g tt te (own.map (·.2))) := PEimp (pe_lc (g := lowG X.K EN NX vs g) (tt := lowT X.K EN NX tt) (te := lowE X.K EN NX te) hc hN hi ok hg ht he hs) fun σ H Q0 ⟨F, M, ρ, Q, ss, q, k⟩ => lc_low hv ss q (lc_mut k)
theorem ds_setLc {i : Nat} {y : Str} {py spos : Pos} (hc : X.calm = true) (hN : X.N.Nodup) (hy : X.N[i]? = some y) (hyl : X.env.scope.names.lookup y = some .local)
    (hsw : swapsWith (.ListComp elt [⟨tg, iter, ifs, 0⟩] scope pos) (some (.Name y py)) spos.line X.env = pure true) (hi : DI X E0 Ee tg iter ti) (ok : BlkOk X.N X.env.scope scope own)
    (hg : ∀ (s : Shared) (H : Hp) (C : Addr) (cl : List (Str × Addr)) (fp : List Addr), DG (X.blk s H scope (compEnvC scope cl C X.env) fp) EN NX vs tg g) (ht : ∀ (s : Shared) (H : Hp) (C : Addr) (cl : List (Str × Addr)) (fp : List Addr), DTs (X.blk s H scope (compEnvC scope cl C X.env) fp) EN NX ifs tt)
    (he : ∀ (s : Shared) (H : Hp) (C : Addr) (cl : List (Str × Addr)) (fp : List Addr), DE (X.blk s H scope (compEnvC scope cl C X.env) fp) EN NX elt te) (hv : ∀ i ∈ vs, i ∈ own.map (·.2)) (hs : ∀ x, foldedSetIterable iter X.env x = pure x := by intro _; rfl) :
    DS X E0 Ee (.Assign [.Name y py] (.ListComp elt [⟨tg, iter, ifs, 0⟩] scope pos) spos) (dSet i (dLc ti g tt te (own.map (·.2)))) := PSimp (ps_setLc (g := lowG X.K EN NX vs g) (tt := lowT X.K EN NX tt) (te := lowE X.K EN NX te) hc hN hy hyl hsw hi ok hg ht he hs) fun D0 σ H ⟨F, M, ρ, D, ss, q, k⟩ =>
    lc_low (Q0 := fun x H1 => gName i x σ H1 D0.nx) hv ss q (lc_frz (fin := fun d M1 => D.nx (rset ρ i (some d)) M1) fun v H1 F1 d M1 s1 r q1 => k.nx _ _ _ _ _ s1 ((ss.env.mono s1.fle).set i r) q1)
theorem ds_setLcM {i : Nat} {y : Str} {py spos : Pos} (hc : X.calm = true) (hN : X.N.Nodup) (hy : X.N[i]? = some y) (hyl : X.env.scope.names.lookup y = some .local)
    (hsw : swapsWith (.ListComp elt [⟨tg, iter, ifs, 0⟩] scope pos) (some (.Name y py)) spos.line X.env = pure true) (hi : DI X E0 Ee tg iter ti) (ok : BlkOk X.N X.env.scope scope own)
    (hg : ∀ (s : Shared) (H : Hp) (C : Addr) (cl : List (Str × Addr)) (fp : List Addr), DG (X.blk s H scope (compEnvC scope cl C X.env) fp) EN NX vs tg g) (ht : ∀ (s : Shared) (H : Hp) (C : Addr) (cl : List (Str × Addr)) (fp : List Addr), DTs (X.blk s H scope (compEnvC scope cl C X.env) fp) EN NX ifs tt)
    (he : ∀ (s : Shared) (H : Hp) (C : Addr) (cl : List (Str × Addr)) (fp : List Addr), DE (X.blk s H scope (compEnvC scope cl C X.env) fp) EN NX elt te) (hv : ∀ i ∈ vs, i ∈ own.map (·.2)) (hs : ∀ x, foldedSetIterable iter X.env x = pure x := by intro _; rfl) :
    DS X E0 Ee (.Assign [.Name y py] (.ListComp elt [⟨tg, iter, ifs, 0⟩] scope pos) spos) (dSet i (dLcM ti g tt te (own.map (·.2)))) := PSimp (ps_setLc (g := lowG X.K EN NX vs g) (tt := lowT X.K EN NX tt) (te := lowE X.K EN NX te) hc hN hy hyl hsw hi ok hg ht he hs) fun D0 σ H ⟨F, M, ρ, D, ss, q, k⟩ =>
    lc_low (Q0 := fun x H1 => gName i x σ H1 D0.nx) hv ss q (lc_mut (fin := fun d M1 => D.nx (rset ρ i (some d)) M1) fun v H1 F1 d M1 s1 r q1 => k.nx _ _ _ _ _ s1 ((ss.env.mono s1.fle).set i r) q1)
end
end
end DL


set_option Elab.async false
set_option linter.all false
set_option maxRecDepth 100000
set_option maxHeartbeats 4000000
namespace DL
open PySem PySem.Spec PyProof.Rows L2
section
variable {X : Cx} {K : PySem.W.Frag} {E0 : L2.St → XK} {Ee : DEnv → DXK} {a b c e tg o i : Expr} {es : List Expr} {ta tb tc te : TDE} {tr : TDA} {pos : Pos} {st : Stmt} {rest : List Stmt} {t u : TDS}
/-! ### built-in functions -/
abbrev TCb := List D → Mp → (D → Mp → Prop) → Prop
def CallD (K : PySem.W.Frag) (r : List V → Hp → VK → Prop) (f : TCb) : Prop := ∀ xs ds F M H Q Q0, HM K F M H → RpL K F xs ds → f ds M Q → KE K F M H Q Q0 → r xs H Q0
def dCallB (f : TCb) (tr : TDA) : TDE := fun ρ M Q => tr ρ M fun ds M1 => f ds M1 Q
theorem low_cb {r : List V → Hp → VK → Prop} {f : TCb} (hd : CallD K r f) {σ : L2.St} {H : Hp} {Q0 : VK} (h : lowE K E0 Ee (dCallB f tr) σ H Q0) : tCB r (lowA K E0 Ee tr) σ H Q0 := by
  obtain ⟨F, M, ρ, Q, ss, q, k⟩ := h
  exact ⟨F, M, ρ, _, ss, q, fun xs H1 F1 ds M1 s1 r1 q1 => hd xs ds F1 M1 H1 Q Q0 s1.hm r1 q1 (k.step s1)⟩
section
variable {x : Str} {id T : String} {r : List V → Hp → VK → Prop} {f : TCb} {p : Pos}
theorem de_callB (hc : CallR X (.builtin id) r) (hd : CallD X.K r f) (hg : Gl X x) (hm : X.mg x = none) (hv : bootBuiltins x = some (.builtin id)) (ha : DA X E0 Ee (e :: es) tr) (hn : x ≠ "__name__" := by decide) (hdb : (x == ("__debug__" : Str)) = false := by decide)
    (he : starEach (e :: es) X.env = (false, eval e X.env) :: starEach es X.env := by rfl) (hpl : (backTo pos (starEach es X.env)).any (·.1) = false := by rfl) : DE X E0 Ee (.Call (.Name x p) (e :: es) [] pos) (dCallB f tr) := PEimp (pe_callB hc hg hm hv ha hn hdb he hpl) fun σ H Q0 h => low_cb hd h
theorem de_callTy (hc : CallR X (.type T) r) (hd : CallD X.K r f) (hg : Gl X x) (hm : X.mg x = none) (hv : bootBuiltins x = some (.type T)) (ha : DA X E0 Ee (e :: es) tr) (hn : x ≠ "__name__" := by decide) (hdb : (x == ("__debug__" : Str)) = false := by decide)
    (he : starEach (e :: es) X.env = (false, eval e X.env) :: starEach es X.env := by rfl) (hpl : (backTo pos (starEach es X.env)).any (·.1) = false := by rfl) : DE X E0 Ee (.Call (.Name x p) (e :: es) [] pos) (dCallB f tr) := PEimp (pe_callTy hc hg hm hv ha hn hdb he hpl) fun σ H Q0 h => low_cb hd h
end
/-- a rule of one argument -/
theorem cd1 {r : List V → Hp → VK → Prop} {f : D → Mp → (D → Mp → Prop) → Prop} (h : ∀ x d F M H Q Q0, HM K F M H → Ct K F H x (vw M d) → Rp K F x d → f (vw M d) M Q → KE K F M H Q Q0 → r [x] H Q0) :
    CallD K r (fun ds M Q => match ds with
      | [d] => f (vw M d) M Q
      | _ => False) := fun xs ds F M H Q Q0 hm rl q k => by
  cases rl with
  | nil => exact q.elim
  | cons r1 r2 =>
    cases r2 with
    | nil => exact h _ _ F M H Q Q0 hm (Ct.vw hm r1) r1 q k
    | cons _ _ => exact q.elim
def f1 (f : D → Mp → (D → Mp → Prop) → Prop) : TCb := fun ds M Q => match ds with
  | [d] => f (vw M d) M Q
  | _ => False
def oLen : D → Mp → (D → Mp → Prop) → Prop
  | .str s, M, Q => s.length ≤ sizeLine ∧ Q (.int s.length) M
  | .lst s, M, Q => Q (.int s.length) M
  | .tup s, M, Q => Q (.int s.length) M
  | .scr s, M, Q => Q (.int s.length) M
  | .dic s, M, Q => Q (.int s.length) M
  | _, _, _ => False
theorem call_lenR : CallR X (.builtin "len") (fun xs H Q => ∃ a kvs, xs = [V.ref a] ∧ Rd H a (.dK kvs) ∧ Q (.int kvs.length) H) := by
  intro pins s σ H xs us Q I r h
  obtain ⟨a, kvs, rfl, e, q⟩ := h
  obtain ⟨u, rfl, rx⟩ := vals1 r
  obtain rfl : u = Value.ref a := rx
  exact d_len I e fun t s' I' => ⟨.int _, H, I', ⟨t, rfl⟩, q⟩
abbrev rLen2 (K : PySem.W.Frag) : List V → Hp → VK → Prop := fun xs H Q => (∃ x n, xs = [x] ∧ LenV K x H n ∧ Q (.int n) H) ∨ ∃ a kvs, xs = [V.ref a] ∧ Rd H a (.dK kvs) ∧ Q (.int kvs.length) H
theorem cd_len : CallD K (rLen2 K) (f1 oLen) := cd1 fun x d F M H Q Q0 hm c r q k => by
  generalize vw M d = d' at c q
  cases d' with
  | str s => cases c; exact .inl ⟨_, s.length, rfl, ⟨by rw [mkS_len]; exact q.1, (mkS_len s).symm⟩, k.end hm (.int _) q.2⟩
  | lst s => obtain ⟨p, xs, rfl, e, rl⟩ := c; exact .inl ⟨_, s.length, rfl, .inl ⟨xs, SqL.of e, rl.length.symm⟩, k.end hm (.int _) q⟩
  | tup s => obtain ⟨p, xs, rfl, e, rl⟩ := c; exact .inl ⟨_, s.length, rfl, .inr ⟨xs, SqT.of e, rl.length.symm⟩, k.end hm (.int _) q⟩
  | scr s => obtain ⟨p, rfl, e, _⟩ := c; exact .inl ⟨_, s.length, rfl, .inl ⟨_, e, by simp⟩, k.end hm (.int _) q⟩
  | dic s => obtain ⟨p, xs, rfl, e, rk⟩ := c; exact .inr ⟨p, xs, rfl, e, by rw [rk.length]; exact k.end hm (.int _) q⟩
  | _ => exact False.elim q
theorem de_len {p : Pos} (hg : Gl X "len") (hm : X.mg "len" = none) (ha : DE X E0 Ee e te) (h1 : starEach [e] X.env = (false, eval e X.env) :: starEach [] X.env := by rfl) : DE X E0 Ee (.Call (.Name "len" p) [e] [] pos) (dCallB (f1 oLen) (dCons te dNil)) :=
  de_callB (call_len.or call_lenR) cd_len hg hm PySem.boot_len (da_cons ha da_nil h1) (by decide) (by decide) h1
def oInt : D → Mp → (D → Mp → Prop) → Prop
  | .int i, M, Q => Q (.int i) M
  | .bl b, M, Q => Q (.int (if b then 1 else 0)) M
  | _, _, _ => False
theorem cd_int : CallD K (fun xs H Q => (∃ i, xs = [.int i] ∧ Q (.int i) H) ∨ ∃ k, xs = [.bl k] ∧ Q (.int (if k then 1 else 0)) H) (f1 oInt) := cd1 fun x d F M H Q Q0 hm c r q k => by
  generalize vw M d = d' at c q
  cases d' with
  | int i => cases c; exact .inl ⟨i, rfl, k.end hm (.int _) q⟩
  | bl i => cases c; exact .inr ⟨i, rfl, k.end hm (.int _) q⟩
  | _ => exact False.elim q
theorem de_int1 {p : Pos} (hg : Gl X "int") (hm : X.mg "int" = none) (ha : DE X E0 Ee e te) (h1 : starEach [e] X.env = (false, eval e X.env) :: starEach [] X.env := by rfl) : DE X E0 Ee (.Call (.Name "int" p) [e] [] pos) (dCallB (f1 oInt) (dCons te dNil)) :=
  de_callTy call_int1 cd_int hg hm (by decide +kernel) (da_cons ha da_nil h1) (by decide) (by decide) h1
def oAbs : D → Mp → (D → Mp → Prop) → Prop
  | .int i, M, Q => Q (.int (if i < 0 then -i else i)) M
  | _, _, _ => False
theorem cd_abs : CallD K (fun xs H Q => ∃ i, xs = [.int i] ∧ Q (.int (if i < 0 then -i else i)) H) (f1 oAbs) := cd1 fun x d F M H Q Q0 hm c r q k => by
  generalize vw M d = d' at c q
  cases d' with
  | int i => cases c; exact ⟨i, rfl, k.end hm (.int _) q⟩
  | _ => exact False.elim q
theorem de_abs {p : Pos} (hg : Gl X "abs") (hm : X.mg "abs" = none) (ha : DE X E0 Ee e te) (h1 : starEach [e] X.env = (false, eval e X.env) :: starEach [] X.env := by rfl) : DE X E0 Ee (.Call (.Name "abs" p) [e] [] pos) (dCallB (f1 oAbs) (dCons te dNil)) :=
  de_callB call_abs cd_abs hg hm (by decide +kernel) (da_cons ha da_nil h1) (by decide) (by decide) h1
def numS (i : Int) : Cd := (toString i : Str).cps.toList
def oStr : D → Mp → (D → Mp → Prop) → Prop
  | .int i, M, Q => i.natAbs.log2 < 1920 ∧ Q (.str (numS i)) M
  | _, _, _ => False
theorem cd_str : CallD K (fun xs H Q => ∃ i, xs = [.int i] ∧ i.natAbs.log2 < 1920 ∧ Q (.str (toString i)) H) (f1 oStr) := cd1 fun x d F M H Q Q0 hm c r q k => by
  generalize vw M d = d' at c q
  cases d' with
  | int i => cases c; exact ⟨i, rfl, q.1, by rw [← mkS_tl (toString i)]; exact k.end hm (.str _) q.2⟩
  | _ => exact False.elim q
theorem de_strI {p : Pos} (hg : Gl X "str") (hm : X.mg "str" = none) (ha : DE X E0 Ee e te) (h1 : starEach [e] X.env = (false, eval e X.env) :: starEach [] X.env := by rfl) : DE X E0 Ee (.Call (.Name "str" p) [e] [] pos) (dCallB (f1 oStr) (dCons te dNil)) :=
  de_callTy call_str_int cd_str hg hm (by decide +kernel) (da_cons ha da_nil h1) (by decide) (by decide) h1
/-- list(xs), tuple(xs) -/
def oTupOf : D → Mp → (D → Mp → Prop) → Prop
  | .lst s, M, Q => Q (.tup s) M
  | .tup s, M, Q => Q (.tup s) M
  | _, _, _ => False
theorem cd_tup : CallD K (fun xs H Q => ∃ p ys, xs = [.ref p] ∧ ((SqL K H p ys ∧ ∀ l, H l = none → Q (.ref l) (upd H l (.tup ys))) ∨ (SqT K H p ys ∧ Q (.ref p) H))) (f1 oTupOf) := fun xs ds F M H Q Q0 hm rl q k => by
  cases rl with
  | nil => exact q.elim
  | cons r1 r2 =>
    cases r2 with
    | cons _ _ => exact q.elim
    | nil =>
      rename_i v d
      have c := Ct.vw hm r1
      have q : oTupOf (vw M d) M Q := q
      cases d with
      | tup s =>
        obtain ⟨p, xs, rfl, e, rl⟩ := c
        exact ⟨p, xs, rfl, .inr ⟨SqT.of e, k.end hm r1 q⟩⟩
      | ref p =>
        generalize ev : vw M (D.ref p) = d' at c q
        cases d' with
        | lst s => obtain ⟨p, xs, rfl, e, rl⟩ := c; exact ⟨p, xs, rfl, .inl ⟨SqL.of e, newTup hm rl q k⟩⟩
        | tup s =>
          exfalso
          simp only [vw] at ev
          split at ev <;> cases ev
        | _ => exact False.elim q
      | lst s => obtain ⟨p, xs, rfl, e, rl⟩ := c; exact ⟨p, xs, rfl, .inl ⟨SqL.of e, newTup hm rl q k⟩⟩
      | _ => exact False.elim q
theorem de_tupOf {p : Pos} (hg : Gl X "tuple") (hm : X.mg "tuple" = none) (ha : DE X E0 Ee e te) (h1 : starEach [e] X.env = (false, eval e X.env) :: starEach [] X.env := by rfl) : DE X E0 Ee (.Call (.Name "tuple" p) [e] [] pos) (dCallB (f1 oTupOf) (dCons te dNil)) :=
  de_callTy call_tuple_of cd_tup hg hm (by decide +kernel) (da_cons ha da_nil h1) (by decide) (by decide) h1
def oLst0 : D → Mp → (D → Mp → Prop) → Prop
  | .lst s, M, Q => Q (.lst s) M
  | .tup s, M, Q => Q (.lst s) M
  | _, _, _ => False
def oLst0M : D → Mp → (D → Mp → Prop) → Prop
  | .lst s, M, Q => ∀ p, M p = none → Q (.ref p) (mset M p (.lst s))
  | .tup s, M, Q => ∀ p, M p = none → Q (.ref p) (mset M p (.lst s))
  | _, _, _ => False
theorem cd_lst0 : CallD K (fun xs H Q => ∃ p ys, xs = [.ref p] ∧ (SqL K H p ys ∨ SqT K H p ys) ∧ ∀ l, H l = none → Q (.ref l) (upd H l (.lst ys))) (f1 oLst0) := cd1 fun x d F M H Q Q0 hm c r q k => by
  generalize vw M d = d' at c q
  cases d' with
  | lst s => obtain ⟨p, xs, rfl, e, rl⟩ := c; exact ⟨p, xs, rfl, .inl (SqL.of e), newLst hm rl q k⟩
  | tup s => obtain ⟨p, xs, rfl, e, rl⟩ := c; exact ⟨p, xs, rfl, .inr (SqT.of e), newLst hm rl q k⟩
  | _ => exact False.elim q
theorem cd_lst0M : CallD K (fun xs H Q => ∃ p ys, xs = [.ref p] ∧ (SqL K H p ys ∨ SqT K H p ys) ∧ ∀ l, H l = none → Q (.ref l) (upd H l (.lst ys))) (f1 oLst0M) := cd1 fun x d F M H Q Q0 hm c r q k => by
  generalize vw M d = d' at c q
  cases d' with
  | lst s => obtain ⟨p, xs, rfl, e, rl⟩ := c; exact ⟨p, xs, rfl, .inl (SqL.of e), newMut hm rl q k⟩
  | tup s => obtain ⟨p, xs, rfl, e, rl⟩ := c; exact ⟨p, xs, rfl, .inr (SqT.of e), newMut hm rl q k⟩
  | _ => exact False.elim q
theorem de_lstOf {p : Pos} (hg : Gl X "list") (hm : X.mg "list" = none) (ha : DE X E0 Ee e te) (h1 : starEach [e] X.env = (false, eval e X.env) :: starEach [] X.env := by rfl) : DE X E0 Ee (.Call (.Name "list" p) [e] [] pos) (dCallB (f1 oLst0) (dCons te dNil)) :=
  de_callTy call_list_of cd_lst0 hg hm (by decide +kernel) (da_cons ha da_nil h1) (by decide) (by decide) h1
theorem de_lstOfM {p : Pos} (hg : Gl X "list") (hm : X.mg "list" = none) (ha : DE X E0 Ee e te) (h1 : starEach [e] X.env = (false, eval e X.env) :: starEach [] X.env := by rfl) : DE X E0 Ee (.Call (.Name "list" p) [e] [] pos) (dCallB (f1 oLst0M) (dCons te dNil)) :=
  de_callTy call_list_of cd_lst0M hg hm (by decide +kernel) (da_cons ha da_nil h1) (by decide) (by decide) h1
/-- sums, least and greatest, all, any -/
def oSum : D → Mp → (D → Mp → Prop) → Prop := fun d M Q => ∃ ns : List Int, d = .lst (ns.map .int) ∧ Q (.int ns.sum) M
def oMaxL : D → Mp → (D → Mp → Prop) → Prop := fun d M Q => ∃ ns : List Int, d = .lst (ns.map .int) ∧ 0 < ns.length ∧ ∀ m, m ∈ ns → (∀ y, y ∈ ns → y ≤ m) → Q (.int m) M
def oMinL : D → Mp → (D → Mp → Prop) → Prop := fun d M Q => ∃ ns : List Int, d = .lst (ns.map .int) ∧ 0 < ns.length ∧ ∀ m, m ∈ ns → (∀ y, y ∈ ns → m ≤ y) → Q (.int m) M
def oAll : D → Mp → (D → Mp → Prop) → Prop := fun d M Q => ∃ bs : List Bool, d = .lst (bs.map .bl) ∧ Q (.bl (bs.all id)) M
def oAny : D → Mp → (D → Mp → Prop) → Prop := fun d M Q => ∃ bs : List Bool, d = .lst (bs.map .bl) ∧ Q (.bl (bs.any id)) M
theorem cd_sum : CallD K (rSum K) (f1 oSum) := cd1 fun x d F M H Q Q0 hm c r q k => by
  obtain ⟨ns, e, q⟩ := q
  rw [e] at c
  obtain ⟨p, xs, rfl, e1, rl⟩ := c
  rw [RpL.of_ints rl] at e1
  exact ⟨p, ns, rfl, SqL.of e1, k.end hm (.int _) q⟩
theorem cd_maxL : CallD K (rMax K) (f1 oMaxL) := cd1 fun x d F M H Q Q0 hm c r q k => by
  obtain ⟨ns, e, h0, q⟩ := q
  rw [e] at c
  obtain ⟨p, xs, rfl, e1, rl⟩ := c
  rw [RpL.of_ints rl] at e1
  exact ⟨p, ns, rfl, SqL.of e1, h0, fun m a b => k.end hm (.int _) (q m a b)⟩
theorem cd_minL : CallD K (rMin K) (f1 oMinL) := cd1 fun x d F M H Q Q0 hm c r q k => by
  obtain ⟨ns, e, h0, q⟩ := q
  rw [e] at c
  obtain ⟨p, xs, rfl, e1, rl⟩ := c
  rw [RpL.of_ints rl] at e1
  exact ⟨p, ns, rfl, SqL.of e1, h0, fun m a b => k.end hm (.int _) (q m a b)⟩
theorem cd_all : CallD K (rAll K) (f1 oAll) := cd1 fun x d F M H Q Q0 hm c r q k => by
  obtain ⟨ns, e, q⟩ := q
  rw [e] at c
  obtain ⟨p, xs, rfl, e1, rl⟩ := c
  rw [RpL.of_bls rl] at e1
  exact ⟨p, ns, rfl, SqL.of e1, k.end hm (.bl _) q⟩
theorem cd_any : CallD K (rAny K) (f1 oAny) := cd1 fun x d F M H Q Q0 hm c r q k => by
  obtain ⟨ns, e, q⟩ := q
  rw [e] at c
  obtain ⟨p, xs, rfl, e1, rl⟩ := c
  rw [RpL.of_bls rl] at e1
  exact ⟨p, ns, rfl, SqL.of e1, k.end hm (.bl _) q⟩
section
variable {p : Pos} (hc : X.calm = true)
theorem de_sum (hc : X.calm = true) (hg : Gl X "sum") (hm : X.mg "sum" = none) (ha : DE X E0 Ee e te) (h1 : starEach [e] X.env = (false, eval e X.env) :: starEach [] X.env := by rfl) : DE X E0 Ee (.Call (.Name "sum" p) [e] [] pos) (dCallB (f1 oSum) (dCons te dNil)) :=
  de_callB (cr_sum hc) cd_sum hg hm (by decide +kernel) (da_cons ha da_nil h1) (by decide) (by decide) h1
theorem de_maxL (hc : X.calm = true) (hg : Gl X "max") (hm : X.mg "max" = none) (ha : DE X E0 Ee e te) (h1 : starEach [e] X.env = (false, eval e X.env) :: starEach [] X.env := by rfl) : DE X E0 Ee (.Call (.Name "max" p) [e] [] pos) (dCallB (f1 oMaxL) (dCons te dNil)) :=
  de_callB (cr_max hc) cd_maxL hg hm (by decide +kernel) (da_cons ha da_nil h1) (by decide) (by decide) h1
theorem de_minL (hc : X.calm = true) (hg : Gl X "min") (hm : X.mg "min" = none) (ha : DE X E0 Ee e te) (h1 : starEach [e] X.env = (false, eval e X.env) :: starEach [] X.env := by rfl) : DE X E0 Ee (.Call (.Name "min" p) [e] [] pos) (dCallB (f1 oMinL) (dCons te dNil)) :=
  de_callB (cr_min hc) cd_minL hg hm (by decide +kernel) (da_cons ha da_nil h1) (by decide) (by decide) h1
theorem de_all (hc : X.calm = true) (hg : Gl X "all") (hm : X.mg "all" = none) (ha : DE X E0 Ee e te) (h1 : starEach [e] X.env = (false, eval e X.env) :: starEach [] X.env := by rfl) : DE X E0 Ee (.Call (.Name "all" p) [e] [] pos) (dCallB (f1 oAll) (dCons te dNil)) :=
  de_callB (cr_all hc) cd_all hg hm (by decide +kernel) (da_cons ha da_nil h1) (by decide) (by decide) h1
theorem de_any (hc : X.calm = true) (hg : Gl X "any") (hm : X.mg "any" = none) (ha : DE X E0 Ee e te) (h1 : starEach [e] X.env = (false, eval e X.env) :: starEach [] X.env := by rfl) : DE X E0 Ee (.Call (.Name "any" p) [e] [] pos) (dCallB (f1 oAny) (dCons te dNil)) :=
  de_callB (cr_any hc) cd_any hg hm (by decide +kernel) (da_cons ha da_nil h1) (by decide) (by decide) h1
end
def fMax2 : TCb := fun ds M Q => match ds with
  | [.int i, .int j] => Q (.int (if j > i then j else i)) M
  | _ => False
def fMin2 : TCb := fun ds M Q => match ds with
  | [.int i, .int j] => Q (.int (if j < i then j else i)) M
  | _ => False
theorem cd_max2 : CallD K (fun xs H Q => ∃ i j, xs = [.int i, .int j] ∧ Q (.int (if j > i then j else i)) H) fMax2 := fun xs ds F M H Q Q0 hm rl q k => by
  cases rl with
  | nil => exact q.elim
  | cons r1 r2 => cases r2 with
    | nil => cases r1 <;> exact q.elim
    | cons r2 r3 => cases r3 with
      | cons _ _ => cases r1 <;> cases r2 <;> exact q.elim
      | nil =>
        cases r1 with
        | int i => cases r2 with
          | int j => exact ⟨i, j, rfl, k.end hm (.int _) q⟩
          | _ => exact q.elim
        | _ => cases r2 <;> exact q.elim
theorem cd_min2 : CallD K (fun xs H Q => ∃ i j, xs = [.int i, .int j] ∧ Q (.int (if j < i then j else i)) H) fMin2 := fun xs ds F M H Q Q0 hm rl q k => by
  cases rl with
  | nil => exact q.elim
  | cons r1 r2 => cases r2 with
    | nil => cases r1 <;> exact q.elim
    | cons r2 r3 => cases r3 with
      | cons _ _ => cases r1 <;> cases r2 <;> exact q.elim
      | nil =>
        cases r1 with
        | int i => cases r2 with
          | int j => exact ⟨i, j, rfl, k.end hm (.int _) q⟩
          | _ => exact q.elim
        | _ => cases r2 <;> exact q.elim
/-! ### isinstance -/
inductive TN where
  | non | bool | int | str | list | tuple | dict
  deriving DecidableEq
def TN.s : TN → String
  | .non => "NoneType" | .bool => "bool" | .int => "int" | .str => "str" | .list => "list" | .tuple => "tuple" | .dict => "dict"
def tyN : D → Option TN
  | .non => some .non | .bl _ => some .bool | .int _ => some .int | .str _ => some .str
  | .lst _ => some .list | .tup _ => some .tuple | .dic _ => some .dict | .scr _ => some .list
  | _ => none
def isT : TN → TN → Bool
  | .non, .non => true | .bool, .bool => true | .bool, .int => true | .int, .int => true | .str, .str => true | .list, .list => true | .tuple, .tuple => true | .dict, .dict => true
  | _, _ => false
theorem tyN_ok {F H : Hp} {x : V} {d : D} {s : TN} (c : Ct K F H x d) (e : tyN d = some s) : TyX K H x (.type s.s) := by
  cases d with
  | non => cases c; cases e; exact .base .non
  | bl => cases c; cases e; exact .base (.bl _)
  | int => cases c; cases e; exact .base (.int _)
  | str => cases c; cases e; exact .base (.str _)
  | lst => cases e; obtain ⟨p, xs, rfl, e, _⟩ := c; exact .base (.lst e)
  | scr => cases e; obtain ⟨p, rfl, _, e⟩ := c; exact e
  | tup => cases e; obtain ⟨p, xs, rfl, e, _⟩ := c; exact .base (.tup e)
  | dic =>
    cases e; obtain ⟨p, xs, rfl, e, _⟩ := c
    rcases e with e | ⟨o, e⟩
    · exact .base (.dK e)
    · exact .fDict e
  | _ => cases e
theorem kit_ok (a b : TN) (h : b ≠ .non) : kitB a.s b.s = some (isT a b) := by
  cases b with
  | non => exact absurd rfl h
  | _ => cases a <;> decide +kernel
def fIsi (T : TN) : TCb := fun ds M Q => match ds with
  | [d, .ty _] => match tyN (vw M d) with
    | some a => Q (.bl (isT a T)) M
    | none => False
  | _ => False
theorem cd_isi (T : TN) (hT : T ≠ .non) : CallD K (fun xs H Q => (∃ x, xs = [x, .ty T.s]) ∧ rIsi K xs H Q) (fun ds M Q => (∃ d, ds = [d, .ty T.s]) ∧ fIsi T ds M Q) := fun xs ds F M H Q Q0 hm rl q k => by
  obtain ⟨⟨d, rfl⟩, q⟩ := q
  cases rl with
  | cons r1 r2 =>
  cases r2 with
  | cons r2 r3 =>
  cases r3
  cases r2
  rename_i v
  refine ⟨⟨v, rfl⟩, ?_⟩
  have c := Ct.vw hm r1
  simp only [fIsi] at q
  cases e : tyN (vw M d) with
  | none => rw [e] at q; exact q.elim
  | some a =>
    rw [e] at q
    exact ⟨v, .ty T.s, .type a.s, .type T.s, isT a T, rfl, .ty _, tyN_ok c e, kit_ty (kit_ok a T hT), k.end hm (.bl _) q⟩
def dIsi (T : TN) (te : TDE) : TDE := fun ρ M Q => te ρ M fun d M1 => match tyN (vw M1 d) with
  | some a => Q (.bl (isT a T)) M1
  | none => False
theorem de_isi {y : Str} {p p2 : Pos} (T : TN) (hT : T ≠ .non) (hg : Gl X "isinstance") (hm : X.mg "isinstance" = none) (hy : Gl X y) (hmy : X.mg y = none) (hb : bootBuiltins y = some (.type T.s)) (he : DE X E0 Ee e te) (hn : y ≠ "__name__" := by decide) (hdb : (y == ("__debug__" : Str)) = false := by decide)
    (h1 : starEach [e, .Name y p2] X.env = (false, eval e X.env) :: starEach [.Name y p2] X.env := by rfl) (h2 : starEach [.Name y p2] X.env = (false, eval (.Name y p2) X.env) :: starEach [] X.env := by rfl) (hpl : (backTo pos (starEach [.Name y p2] X.env)).any (·.1) = false := by rfl) :
    DE X E0 Ee (.Call (.Name "isinstance" p) [e, .Name y p2] [] pos) (dIsi T te) := by
  have ht : DE X E0 Ee (.Name y p2) (dC (.ty T.s)) := de_c (pe_bltn hy hmy hb (v := .ty T.s) rfl hn hdb) fun _ => .ty _
  refine PEimp (pe_callB call_isi hg hm boot_isinstance (pa_cons he (pa_cons ht pa_nil h2) h1) (by decide) (by decide) h1 hpl) fun σ H Q0 ⟨F, M, ρ, Q, ss, q, k⟩ => ?_
  refine ⟨F, M, ρ, _, ss, q, fun v H1 F1 d M1 s1 r q1 => ⟨F1, M1, ρ, _, ss.step s1, (show dC (.ty T.s) ρ M1 (fun d2 M2 => d2 = .ty T.s ∧ M2 = M1 ∧ fIsi T [d, d2] M2 Q) from ⟨rfl, rfl, q1⟩), fun v2 H2 F2 d2 M2 s2 r2 q2 => ?_⟩⟩
  obtain ⟨rfl, rfl, q2⟩ := q2
  exact (cd_isi T hT [v, v2] [d, .ty T.s] F2 M2 H2 Q Q0 s2.hm (.cons (r.mono s2.fle) (.cons r2 .nil)) ⟨⟨d, rfl⟩, q2⟩ (k.step (s1.trans s2))).2
theorem dt_isi {y : Str} {p p2 : Pos} (T : TN) (hT : T ≠ .non) (hg : Gl X "isinstance") (hm : X.mg "isinstance" = none) (hy : Gl X y) (hmy : X.mg y = none) (hb : bootBuiltins y = some (.type T.s)) (he : DE X E0 Ee e te) (hn : y ≠ "__name__" := by decide) (hdb : (y == ("__debug__" : Str)) = false := by decide)
    (h1 : starEach [e, .Name y p2] X.env = (false, eval e X.env) :: starEach [.Name y p2] X.env := by rfl) (h2 : starEach [.Name y p2] X.env = (false, eval (.Name y p2) X.env) :: starEach [] X.env := by rfl) (hpl : (backTo pos (starEach [.Name y p2] X.env)).any (·.1) = false := by rfl)
    (ht : ∀ whole, isTrue (.Call (.Name "isinstance" p) [e, .Name y p2] [] pos) X.env whole = (do let v ← whole; standAt pos; holding [v] (truthy v)) := by intro _; rfl) :
    DT X E0 Ee (.Call (.Name "isinstance" p) [e, .Name y p2] [] pos) (dTest (dIsi T te)) := dt_val (de_isi T hT hg hm hy hmy hb he hn hdb h1 h2 hpl) ht
end
end DL


set_option Elab.async false
set_option linter.all false
set_option maxRecDepth 100000
set_option maxHeartbeats 4000000
namespace DL
open PySem PySem.Spec PyProof.Rows L2
section
variable {X : Cx} {K : PySem.W.Frag} {E0 : L2.St → XK} {Ee : DEnv → DXK} {a b c e o tg : Expr} {es : List Expr} {ta tb tc te to : TDE} {tr : TDA} {pos apos : Pos} {st : Stmt} {rest : List Stmt} {t u : TDS}
/-! ### join -/
def joinD (a : Cd) : List Cd → Cd
  | [] => []
  | [x] => x
  | x :: r => x ++ a ++ joinD a r
theorem joinD_cons (a x y : Cd) (r : List Cd) : joinD a (x :: y :: r) = x ++ a ++ joinD a (y :: r) := rfl
theorem join_eq (a : Cd) : ∀ ys : List Cd, Txt.join (mkS a) (ys.map mkS) = mkS (joinD a ys) := fun ys => by
  show PySem.Builtin.Str.glued _ _ = _
  rw [StrLaws.glued_eq_join]
  induction ys with
  | nil => rfl
  | cons x r ih =>
    cases r with
    | nil => rfl
    | cons y r =>
      show mkS x ++ mkS a ++ Str.join (mkS a) (mkS y :: r.map mkS) = _
      rw [show Str.join (mkS a) (mkS y :: r.map mkS) = mkS (joinD a (y :: r)) from ih, mkS_app, mkS_app]; rfl
def sumL : List Cd → Nat
  | [] => 0
  | x :: r => x.length + sumL r
theorem sumL_eq : ∀ ys : List Cd, ((ys.map mkS).map (·.length)).sum = sumL ys
  | [] => rfl
  | x :: r => by simp only [List.map_cons, List.sum_cons, sumL]; rw [← sumL_eq r, mkS_len]
def dJoin (to te : TDE) : TDE := fun ρ M Q => to ρ M fun x M1 => te ρ M1 fun y M2 => ∃ a ys, x = .str a ∧ (vw M2 y = .lst (ys.map .str) ∨ vw M2 y = .tup (ys.map .str)) ∧ sumL ys + ys.length * a.length ≤ 16777216 ∧ Q (.str (joinD a ys)) M2
def dJoinAt (x : D) (te : TDE) : TDE := fun ρ M1 Q => te ρ M1 fun y M2 => ∃ a ys, x = .str a ∧ (vw M2 y = .lst (ys.map .str) ∨ vw M2 y = .tup (ys.map .str)) ∧ sumL ys + ys.length * a.length ≤ 16777216 ∧ Q (.str (joinD a ys)) M2
theorem de_join {l : Cd} {x : Str} {j} {p0 : Pos} (hl : mkS l = x) (he : DE X E0 Ee e te) (hs : starEach [e] X.env = [(false, eval e X.env)] := by rfl) (hbase : attributeBase (.Constant (.str x) j p0) "join" X.env (eval (.Constant (.str x) j p0) X.env) = eval (.Constant (.str x) j p0) X.env := by rfl) (hline : (apos.endLine == pos.line) = true := by rfl) :
    DE X E0 Ee (.Call (.Attribute (.Constant (.str x) j p0) "join" apos) [e] [] pos) (dJoinAt (.str l) te) := by
  refine PEimp (pe_join pe_str he hs hbase hline) fun σ H Q0 ⟨F, M, ρ, Q, ss, q, k⟩ => ?_
  refine ⟨⟨x, rfl⟩, F, M, ρ, _, ss, q, fun y H2 F2 dy M2 s2 ry q2 => ?_⟩
  obtain ⟨a, ys, ea, hy, hz, q3⟩ := q2
  cases ea
  have c := Ct.vw s2.hm ry
  have z : (((ys.map mkS).map (·.length)).sum + (ys.map mkS).length * x.length ≤ 16777216) ∧ Q0 (.str (Txt.join x (ys.map mkS))) H2 := by
    subst hl
    refine ⟨?_, ?_⟩
    · rw [sumL_eq, List.length_map, mkS_len]; exact hz
    · rw [join_eq]; exact (k.step s2).end s2.hm (.str _) q3
  rcases hy with hy | hy
  · rw [hy] at c
    obtain ⟨p, xs, rfl, e, rl⟩ := c
    rw [RpL.of_strs rl] at e
    exact ⟨x, p, ys.map mkS, rfl, rfl, .inl (SqL.of e), z⟩
  · rw [hy] at c
    obtain ⟨p, xs, rfl, e, rl⟩ := c
    rw [RpL.of_strs rl] at e
    exact ⟨x, p, ys.map mkS, rfl, rfl, .inr (SqT.of e), z⟩
/-! ### lists changed in place -/
def dApp (to te : TDE) : TDE := fun ρ M Q => to ρ M fun x M1 => ∃ p ds1, x = .ref p ∧ M1 p = some (.lst ds1) ∧ te ρ M1 fun y M2 => ∃ ds, M2 p = some (.lst ds) ∧ ds.length < sizeLine ∧ Q .non (mset M2 p (.lst (ds ++ [y])))
theorem de_app {cpos : Pos} (ho : DE X E0 Ee o to) (he : DE X E0 Ee e te) (hbase : attributeBase o "append" X.env (eval o X.env) = eval o X.env := by rfl)
    (hfew : ((backTo cpos (starEach [e] X.env)).all (fun x => !x.1) && (backToKw cpos (keywordEach [] X.env)).all (fun x => x.1.isSome) && decide ([e].length + ([] : List Keyword).length + (if ([] : List Keyword).isEmpty then 0 else 1) < 30)) = true := by rfl)
    (hline : (apos.endLine == cpos.line) = true := by rfl) (hs : starEach [e] X.env = (false, eval e X.env) :: starEach [] X.env := by rfl) (hplain : (backTo cpos (starEach [] X.env)).any (·.1) = false := by rfl) :
    DE X E0 Ee (.Call (.Attribute o "append" apos) [e] [] cpos) (dApp to te) := by
  refine PEimp (pe_bm PySem.F.plainAttrs_list PySem.F.slot_list_append PySem.F.type_list_append mt_append ho (pa_cons he pa_nil hs) hbase hfew hline hs hplain) fun σ H Q0 ⟨F, M, ρ, Q, ss, q, k⟩ => ?_
  refine ⟨F, M, ρ, _, ss, q, fun x H1 F1 dx M1 s1 rx q1 => ?_⟩
  obtain ⟨p, ds1, rfl, e1, q1⟩ := q1
  obtain ⟨xs1, h1, r1⟩ := (s1.hm.mo p _ e1).2
  cases rx
  refine ⟨.inl ⟨rfl, xs1, SqL.of h1⟩, F1, M1, ρ, _, ss.step s1, q1, fun y H2 F2 dy M2 s2 ry q2 => ?_⟩
  obtain ⟨ds, e2, hz, q3⟩ := q2
  obtain ⟨xs, h2, r2⟩ := (s2.hm.mo p _ e2).2
  refine ⟨p, xs, y, rfl, rfl, h2, by rw [r2.length]; exact hz, ?_⟩
  have s3 := Step.wr s2.hm (o := .lst (xs ++ [y])) (mo := .lst (ds ++ [dy])) e2 (by intro z; cases z) ⟨_, upd_same, r2.app (.cons ry .nil)⟩
  exact k _ _ _ _ _ (s1.trans (s2.trans s3)) .non q3
def dPop (to : TDE) : TDE := fun ρ M Q => to ρ M fun x M1 => ∃ p ds y, x = .ref p ∧ M1 p = some (.lst (ds ++ [y])) ∧ Q y (mset M1 p (.lst ds))
theorem RpL.unsnoc {F : Hp} : ∀ {xs : List V} {ds : List D} {y : D}, RpL K F xs (ds ++ [y]) → ∃ zs v, xs = zs ++ [v] ∧ RpL K F zs ds ∧ Rp K F v y
  | _, [], _, .cons a .nil => ⟨[], _, rfl, .nil, a⟩
  | _, d :: ds, _, .cons a t => by
    obtain ⟨zs, v, rfl, r1, r2⟩ := RpL.unsnoc t
    exact ⟨_ :: zs, v, rfl, .cons a r1, r2⟩
theorem de_pop {cpos : Pos} (ho : DE X E0 Ee o to) (hbase : attributeBase o "pop" X.env (eval o X.env) = eval o X.env := by rfl) (hline : (apos.endLine == cpos.line) = true := by rfl) :
    DE X E0 Ee (.Call (.Attribute o "pop" apos) [] [] cpos) (dPop to) := by
  refine PEimp (pe_bm0 PySem.F.plainAttrs_list PySem.F.slot_list_pop PySem.F.type_list_pop mt_pop ho hbase hline) fun σ H Q0 ⟨F, M, ρ, Q, ss, q, k⟩ => ?_
  refine ⟨F, M, ρ, _, ss, q, fun x H1 F1 dx M1 s1 rx q1 => ?_⟩
  obtain ⟨p, ds, y, rfl, e1, q1⟩ := q1
  obtain ⟨xs, h1, r1⟩ := (s1.hm.mo p _ e1).2
  cases rx
  obtain ⟨zs, v, rfl, r2, r3⟩ := r1.unsnoc
  refine ⟨.inl ⟨rfl, _, SqL.of h1⟩, p, _, v, rfl, rfl, h1, by simp, ?_⟩
  have s3 := Step.wr s1.hm (o := .lst ((zs ++ [v]).dropLast)) (mo := .lst ds) e1 (by intro z; cases z) ⟨_, upd_same, by simpa using r2⟩
  exact k _ _ _ _ _ (s1.trans s3) (r3.mono s3.fle) q1
/-! ### f-strings -/
def dFmt (te : TDE) : TDE := fun ρ M Q => te ρ M fun d M1 => match d with
  | .str y => y.length ≤ sizeLine ∧ Q (.str y) M1
  | .int i => i.natAbs.log2 < 1920 ∧ Q (.str (numS i)) M1
  | _ => False
theorem de_fmt (he : DE X E0 Ee e te) : DE X E0 Ee (.FormattedValue e (-1) none pos) (dFmt te) := PEimp (pe_fmt he) fun σ H Q0 ⟨F, M, ρ, Q, ss, q, k⟩ => by
  refine ⟨F, M, ρ, _, ss, q, fun x H1 F1 dx M1 s1 rx q1 => ?_⟩
  cases rx with
  | str y => exact .inl ⟨_, rfl, by rw [mkS_len]; exact q1.1, k _ _ _ _ _ s1 (.str y) q1.2⟩
  | int i => exact .inr ⟨i, rfl, q1.1, by rw [← mkS_tl (toString i)]; exact k _ _ _ _ _ s1 (.str _) q1.2⟩
  | _ => exact False.elim q1
inductive DJ (X : Cx) (E0 : L2.St → XK) (Ee : DEnv → DXK) : List Expr → List TDE → Prop where
  | nil : DJ X E0 Ee [] []
  | cons {e : Expr} {t : TDE} {es : List Expr} {ts : List TDE} (h : DE X E0 Ee e t) (r : DJ X E0 Ee es ts) : DJ X E0 Ee (e :: es) (t :: ts)
theorem DJ.pj : ∀ {es : List Expr} {ts : List TDE}, DJ X E0 Ee es ts → PJ X es (ts.map (lowE X.K E0 Ee))
  | _, _, .nil => .nil
  | _, _, .cons h r => .cons h r.pj
def dJs : List TDE → Cd → DEnv → Mp → (Cd → Mp → Prop) → Prop
  | [], acc, _, M, Q => Q acc M
  | t :: ts, acc, ρ, M, Q => t ρ M fun d M1 => match d with
    | .str y => (acc ++ y).length ≤ sizeLine ∧ dJs ts (acc ++ y) ρ M1 Q
    | _ => False
theorem js_low : ∀ {ts : List TDE} {acc : Cd} {σ : L2.St} {H F : Hp} {M : Mp} {ρ : DEnv} {Q : Cd → Mp → Prop} {Q0 : Str → Hp → Prop}, SS K E0 Ee σ H F M ρ → dJs ts acc ρ M Q → (∀ c F' M' H', Step K F M H F' M' H' → Q c M' → Q0 (mkS c) H') → tJs (ts.map (lowE K E0 Ee)) (mkS acc) σ H Q0
  | [], acc, σ, H, F, M, ρ, Q, Q0, ss, q, k => k acc F M H (.refl ss.hm) q
  | t :: ts, acc, σ, H, F, M, ρ, Q, Q0, ss, q, k => by
    refine ⟨F, M, ρ, _, ss, q, fun x H1 F1 dx M1 s1 rx q1 => ?_⟩
    cases rx with
    | str y =>
      refine ⟨_, rfl, by rw [mkS_app, mkS_len]; exact q1.1, ?_⟩
      rw [mkS_app]
      exact js_low (ss.step s1) q1.2 fun c F' M' H' s2 q2 => k c F' M' H' (s1.trans s2) q2
    | _ => exact False.elim q1
def dJoined (ts : List TDE) : TDE := fun ρ M Q => dJs ts [] ρ M fun c M1 => Q (.str c) M1
theorem de_joined {v1 v2 : Expr} {rest : List Expr} {ts : List TDE} (h : DJ X E0 Ee (v1 :: v2 :: rest) ts) : DE X E0 Ee (.JoinedStr (v1 :: v2 :: rest) pos) (dJoined ts) := PEimp (pe_joined h.pj) fun σ H Q0 ⟨F, M, ρ, Q, ss, q, k⟩ =>
  js_low ss q fun c F' M' H' s q' => k _ _ _ _ _ s (.str c) q'
end
/-! ### functions -/
abbrev DSp := List D → Mp → (D → Mp → Prop) → DXK → Prop
def lift (K : PySem.W.Frag) (sp : DSp) : Sp := fun vs H Q0 E => ∃ F M ds Q Ed, HM K F M H ∧ RpL K F vs ds ∧ sp ds M Q Ed ∧ KE K F M H Q Q0 ∧
  ∀ F' M' H' C d xs ds, Step K F M H F' M' H' → XAt H' d xs → RpF K F' xs ds → Ed C ds M' → E (.ref C) d H'
section
variable {X : Cx} {E0 : L2.St → XK} {Ee : DEnv → DXK} {k : Nat} {f : Addr} {fd : FuncData} {ps : List Str} {sp : DSp} {x : Str} {p pos : Pos} {e : Expr} {es : List Expr} {tr : TDA}
def dCall (sp : DSp) (Ee : DEnv → DXK) (tr : TDA) : TDE := fun ρ M Q => tr ρ M fun ds M1 => sp ds M1 Q (Ee ρ)
theorem call_low {K : PySem.W.Frag} {σ : L2.St} {H F : Hp} {M : Mp} {ρ : DEnv} {vs : List V} {ds : List D} {Q : D → Mp → Prop} {Q0 : VK} (ss : SS K E0 Ee σ H F M ρ) (r : RpL K F vs ds) (q : sp ds M Q (Ee ρ)) (k : KE K F M H Q Q0) : lift K sp vs H Q0 (E0 σ) :=
  ⟨F, M, ds, Q, Ee ρ, ss.hm, r, q, k, fun F' M' H' C d xs dd s xa rf ed => ss.xc F' M' H' σ ρ C d xs dd s (ss.env.mono s.fle) xa rf ed⟩
theorem de_call {CX : CXT} (F : FnOk X.prog X.w X.K X.mg X.base CX k f fd ps (lift X.K sp)) (hr : Room k X.A) (hg : Gl X x) (hm : X.mg x = some (.ref f)) (hk : PySem.W.keepIn X.K (.ref f) = true) (hb : Binds X.K fd ps []) (hx : ∀ σ, PassesAt CX X σ (E0 σ))
    (ha : DA X E0 Ee (e :: es) tr) (hdb : (x == ("__debug__" : Str)) = false := by decide) (he : starEach (e :: es) X.env = (false, eval e X.env) :: starEach es X.env := by rfl) (hpl : (backTo pos (starEach es X.env)).any (·.1) = false := by rfl) :
    DE X E0 Ee (.Call (.Name x p) (e :: es) [] pos) (dCall sp Ee tr) := PEimp (pe_callS F hr hg hm hk hb hx ha hdb he hpl) fun σ H Q0 ⟨F, M, ρ, Q, ss, q, k⟩ =>
  ⟨F, M, ρ, _, ss, q, fun vs H1 F1 ds M1 s1 r q1 => call_low (ss.step s1) r q1 (k.step s1)⟩
theorem no_pass {P : Program} {w : World} {X : Cx} (σ : L2.St) : PassesAt (L2.CX P w) X σ (EN σ) := fun _ _ _ _ _ _ c => by
  obtain ⟨_, _, _, _, _, _, _, _, _, _, _, _, z⟩ := c
  exact z.elim
end
def dstart (n : Nat) (ds : List D) : DEnv := ds.map some ++ List.replicate (n - ds.length) none
theorem dstart_ok {K : PySem.W.Frag} {F : Hp} {N : List Str} {vs : List V} {ds : List D} (r : RpL K F vs ds) : RpE K F (start N vs) (dstart N.length ds) := by
  refine ⟨by simp only [L2.start, dstart, List.length_append, List.length_map, List.length_replicate, r.length], fun i d q => ?_⟩
  have key : ∀ (l : List D) (m i : Nat), rget (l.map some ++ List.replicate m none) i = some d → l[i]? = some d := by
    intro l
    induction l with
    | nil =>
      intro m i h
      exfalso
      simp only [List.map_nil, List.nil_append] at h
      induction m generalizing i with
      | zero => cases h
      | succ m ih =>
        cases i with
        | zero => cases h
        | succ i => exact ih i h
    | cons y l ih =>
      intro m i h
      cases i with
      | zero => exact h
      | succ i => exact ih m i h
  obtain ⟨v, hv, rv⟩ := r.at (key _ _ _ q)
  refine ⟨v, ?_, rv⟩
  have hlt : i < vs.length := by
    rcases Nat.lt_or_ge i vs.length with h | h
    · exact h
    · rw [List.getElem?_eq_none h] at hv; cases hv
  unfold L2.start
  rw [List.getElem?_append_left (by simpa using hlt), List.getElem?_map, hv]; rfl
section
variable {P : Program} {w : World} {K : PySem.W.Frag} {mg : Str → Option Value} {base : Heap} {x qual : Str} {params : Arguments} {body : List Stmt} {scope : Scope} {dvs : List V} {kws : List (Str × V)} {f : Addr} {fd : FuncData}
/-- THE RULE for a def -/
theorem dfn {N ps : List Str} {k : Nat} {sp : DSp} (F : FunD K x qual params body scope dvs kws f fd) (S : FnScope N ps scope) (len : ∀ ds M Q E, sp ds M Q E → ds.length = ps.length)
    (hbody : ∀ (cdv : Value) (A : Around) (outer : List Env) (s : Shared) (H : Hp) (E : XK) (Ed : DXK), Room k (A.deeper (envOfC qual scope s.heap.objs.size f cdv)) →
      ∃ t, DSs (cxOf (L2.CX P w) P w K mg base N qual scope f cdv A outer s H E) (fun _ => E) (fun _ C fs M' => ∃ M'', Sub M'' M' ∧ Ed C fs M'') body t ∧
        ∀ ds M Q, Sub M M → sp ds M Q Ed → t { nx := fun _ M' => ∃ M'', Sub M'' M' ∧ Q .non M'', rt := fun d M' => ∃ M'', Sub M'' M' ∧ Q d M'' } (dstart N.length ds) M) :
    FnOk P w K mg base (L2.CX P w) (k + 1) f fd ps (lift K sp) := by
  refine F.ok S (fun vs H Q E h => ?_) fun cdv A outer s H vs Q0 E hr h => ?_
  · obtain ⟨F, M, ds, Q, Ed, hm, r, q, _⟩ := h
    rw [r.length]; exact len _ _ _ _ q
  · obtain ⟨F, M, ds, Q, Ed, hm, r, q, kk, xk⟩ := h
    obtain ⟨t, ht, hq⟩ := hbody cdv A outer s H E Ed hr
    refine ⟨_, ht, F, M, _, _, ⟨hm, dstart_ok r, fun F' M' H' σ ρ C d xs dd s _ xa rf ⟨M'', sb, ed⟩ => xk F' M'' H' C d xs dd (s.drop sb) xa rf ed⟩, hq ds M Q hm.closed q, ?_⟩
    exact ⟨fun σ' H' F' ρ' M' s' _ ⟨M'', sb, q'⟩ => kk _ _ _ _ _ (s'.drop sb) .non q', fun v H' F' d M' s' r' ⟨M'', sb, q'⟩ => kk _ _ _ _ _ (s'.drop sb) r' q', fun _ _ _ _ _ _ _ z => z, fun _ _ _ _ _ _ _ z => z⟩
end
end DL


set_option Elab.async false
set_option linter.all false
set_option maxRecDepth 100000
set_option maxHeartbeats 4000000
namespace DL
open PySem PySem.Spec PyProof.Rows L2
theorem Rm64 {k : Nat} {A : Around} (r : Room k A) : A.units + 64 < cLine := r.units
theorem Rm65 {k : Nat} {A : Around} (r : Room k A) : A.units + 65 < cLine := by have := r.un; omega
theorem Rm1 {k : Nat} {A : Around} (r : Room k A) : A.units + 1 < cLine := by have := r.un; omega
section
variable {X : Cx} {K : PySem.W.Frag} {E0 : L2.St → XK} {Ee : DEnv → DXK} {a b c e o tg : Expr} {es : List Expr} {ta tb tc te to : TDE} {tr : TDA} {pos apos : Pos} {st : Stmt} {rest : List Stmt} {t u : TDS}
theorem vr (i : Nat) {x : Str} (hN : X.N[i]? = some x := by rfl) (hv : Vis X.env.scope x := by first | exact Or.inl rfl | exact Or.inr (Or.inl rfl) | exact Or.inr (Or.inr rfl)) (hd : (x == ("__debug__" : Str)) = false := by decide) (hcd : (x == ("__classdict__" : Str)) = false := by decide) :
    DE X E0 Ee (.Name x pos) (dVar i) := de_pv (pe_var hN hv hd hcd)
theorem gN (i : Nat) {x : Str} (hN : X.N.Nodup) (hi : X.N[i]? = some x := by rfl) (hx : Loc X.env.scope x := by first | exact Or.inl rfl | exact Or.inr rfl) (hf : X.fn x = true ∨ X.env.scope.names.lookup x = some .local := by first | exact .inl rfl | exact .inr rfl) : DG X E0 Ee [i] (.Name x pos) (gNm i) := dg_name hN hi hx hf
theorem sSet (i : Nat) {x : Str} {pos' : Pos} (hN : X.N.Nodup) (he : DE X E0 Ee e te) (hi : X.N[i]? = some x := by rfl) (hx : Loc X.env.scope x := by first | exact Or.inl rfl | exact Or.inr rfl) (hs : swapsWith e (some (.Name x pos')) pos.line X.env = pure false := by rfl) (hf : X.fn x = true ∨ X.env.scope.names.lookup x = some .local := by first | exact .inl rfl | exact .inr rfl) :
    DS X E0 Ee (.Assign [.Name x pos'] e pos) (dSet i te) := ds_set hN hi hx he hs hf
theorem od_str {K : PySem.W.Frag} : OpD K (fun x y H Q => (∃ i j, x = .int i ∧ y = .int j ∧ Q (.int (i + j)) H) ∨ (∃ i j, x = .str i ∧ y = .str j ∧ i.length + j.length ≤ sizeLine ∧ Q (.str (i ++ j)) H)) (fun x y M Q => match x, y with
    | .int i, .int j => Q (.int (i + j)) M
    | .str a, .str b => a.length + b.length ≤ sizeLine ∧ Q (.str (a ++ b)) M
    | _, _ => False) := by
  intro x y dx dy F M H Q Q0 hm cx cy q k
  cases dx with
  | int i => cases dy with
    | int j => cases cx; cases cy; exact .inl ⟨i, j, rfl, rfl, k.end hm (.int _) q⟩
    | _ => exact False.elim q
  | str i => cases dy with
    | str j => cases cx; cases cy; exact .inr ⟨_, _, rfl, rfl, by rw [mkS_len, mkS_len]; exact q.1, by rw [mkS_app]; exact k.end hm (.str _) q.2⟩
    | _ => exact False.elim q
  | _ => exact False.elim q
def oIadd : TOp := fun x y M Q => match x, y with
    | .int i, .int j => Q (.int (i + j)) M
    | .str a, .str b => a.length + b.length ≤ sizeLine ∧ Q (.str (a ++ b)) M
    | _, _ => False
theorem sAdd (i : Nat) {x : Str} {pos' : Pos} (hN : X.N.Nodup) (he : DE X E0 Ee e te) (hi : X.N[i]? = some x := by rfl) (hx : Loc X.env.scope x := by first | exact Or.inl rfl | exact Or.inr rfl) (hf : X.fn x = true ∨ X.env.scope.names.lookup x = some .local := by first | exact .inl rfl | exact .inr rfl) :
    DS X E0 Ee (.AugAssign (.Name x pos') .Add e pos) (dAug i oIadd te) := ds_aug (iop_add.or iop_add_str) od_str hN hi hx he hf
theorem sSub (i : Nat) {x : Str} {pos' : Pos} (hN : X.N.Nodup) (he : DE X E0 Ee e te) (hi : X.N[i]? = some x := by rfl) (hx : Loc X.env.scope x := by first | exact Or.inl rfl | exact Or.inr rfl) (hf : X.fn x = true ∨ X.env.scope.names.lookup x = some .local := by first | exact .inl rfl | exact .inr rfl) :
    DS X E0 Ee (.AugAssign (.Name x pos') .Sub e pos) (dAug i oSub te) := ds_aug iop_sub od_sub hN hi hx he hf
theorem sMul (i : Nat) {x : Str} {pos' : Pos} (hN : X.N.Nodup) (he : DE X E0 Ee e te) (hi : X.N[i]? = some x := by rfl) (hx : Loc X.env.scope x := by first | exact Or.inl rfl | exact Or.inr rfl) (hf : X.fn x = true ∨ X.env.scope.names.lookup x = some .local := by first | exact .inl rfl | exact .inr rfl) :
    DS X E0 Ee (.AugAssign (.Name x pos') .Mult e pos) (dAug i (fun x y M Q => match x, y with
    | .int i, .int j => CMul i j ∧ Q (.int (i * j)) M
    | _, _ => False) te) := ds_aug iop_mul (fun x y dx dy F M H Q Q0 hm cx cy q k => by
      cases dx with
      | int i => cases dy with
        | int j => cases cx; cases cy; exact ⟨i, j, rfl, rfl, q.1, k.end hm (.int _) q.2⟩
        | _ => exact False.elim q
      | _ => exact False.elim q) hN hi hx he hf
theorem dFor1 {iter : Expr} {body : List Stmt} {ti : TDA} {vs : List Nat} {g : TDG} (hp : PassesOwn (model X.prog X.w) X.A X.env X.xe) (hi : DI X E0 Ee tg iter ti) (hg : DG X E0 Ee vs tg g) (hb : DSs X E0 Ee body t) (hc : X.calm = true := by rfl)
    (hs : ∀ x, foldedSetIterable iter X.env x = pure x := by intro _; rfl) : DS X E0 Ee (.For tg iter body [] pos) (dFor ti g t) := ds_for hp hc hi hg hb hs
theorem cTrue {j} : DT X E0 Ee (.Constant (.bool true) j pos) (dTest (dC (.bl true))) := dt_val de_bl
theorem d107 {p1 p2 : Pos} {j1 j2} : DE X E0 Ee (.BinOp (.Constant (.int 10) j1 p1) .Pow (.Constant (.int 7) j2 p2) pos) (dOp oPow (dC (.int 10)) (dC (.int 7))) := de_pow de_int de_int
end
/-- a def of the program, by its name -/
def Fn (P : Program) (w : World) (K : PySem.W.Frag) (mg : Str → Option Value) (base : Heap) (k : Nat) (x : Str) (ps : List Str) (sp : DSp) : Prop :=
  ∃ (f : Addr) (fd : FuncData), FnOk P w K mg base (L2.CX P w) k f fd ps (lift K sp) ∧ mg x = some (.ref f) ∧ PySem.W.keepIn K (.ref f) = true ∧ Binds K fd ps []
section
variable {X : Cx} {E0 : L2.St → XK} {Ee : DEnv → DXK} {k j : Nat} {ps : List Str} {sp : DSp} {x : Str} {p pos : Pos} {e : Expr} {es : List Expr} {tr : TDA}
theorem cF (F : Fn X.prog X.w X.K X.mg X.base j x ps sp) (hr : Room k X.A) (hj : j ≤ k) (hg : Gl X x) (hx : ∀ σ, PassesAt (L2.CX X.prog X.w) X σ (E0 σ))
    (ha : DA X E0 Ee (e :: es) tr) (hdb : (x == ("__debug__" : Str)) = false := by decide) (he : starEach (e :: es) X.env = (false, eval e X.env) :: starEach es X.env := by rfl) (hpl : (backTo pos (starEach es X.env)).any (·.1) = false := by rfl) :
    DE X E0 Ee (.Call (.Name x p) (e :: es) [] pos) (dCall sp Ee tr) := by
  obtain ⟨f, fd, F, hm, hk, hb⟩ := F
  exact de_call F (hr.mono hj) hg hm hk hb hx ha hdb he hpl
theorem Fn.mono {P : Program} {w : World} {K : PySem.W.Frag} {mg : Str → Option Value} {base : Heap} (F : Fn P w K mg base j x ps sp) (h : j ≤ k) : Fn P w K mg base k x ps sp := by
  obtain ⟨f, fd, F, hm, hk, hb⟩ := F
  exact ⟨f, fd, F.mono h, hm, hk, hb⟩
end
/-- the data at the start: a def's own slots -/
theorem sub_ret {M : Mp} {Q : D → Mp → Prop} {d : D} (cl : Sub M M) (q : Q d M) : ∃ M'', Sub M'' M ∧ Q d M'' := ⟨M, cl, q⟩
end DL


set_option Elab.async false
set_option linter.all false
set_option maxRecDepth 100000
set_option maxHeartbeats 4000000
namespace DL
open PySem PySem.Spec PyProof.Rows L2
/-! ### stores o[i] = v -/
section
variable {κ : Type} [DecidableEq κ]
def dpu (kvs : List (κ × D)) (k : κ) (d : D) : List (κ × D) := if (kvs.any fun kv => decide (kv.1 = k)) = true then kvs.map (fun kv => if kv.1 = k then (kv.1, d) else kv) else kvs ++ [(k, d)]
theorem dlk_cons {j k : κ} {x : D} {r : List (κ × D)} : dlk ((j, x) :: r) k = if j = k then some x else dlk r k := rfl
theorem dlk_map {kvs : List (κ × D)} {k j : κ} {d : D} : dlk (kvs.map (fun kv => if kv.1 = k then (kv.1, d) else kv)) j = if j = k then (dlk kvs j).map (fun _ => d) else dlk kvs j := by
  induction kvs with
  | nil => simp [dlk]
  | cons p r ih =>
    obtain ⟨i, x⟩ := p
    rw [List.map_cons]
    by_cases h : i = k
    · simp only [h, if_true, dlk_cons]
      by_cases e : k = j
      · subst e; simp
      · simp only [e, if_false, ih]
    · simp only [h, if_false, dlk_cons]
      by_cases e : i = j
      · subst e; simp [h]
      · simp only [e, if_false, ih]
theorem dlk_app {kvs r : List (κ × D)} {j : κ} : dlk (kvs ++ r) j = (dlk kvs j).or (dlk r j) := by
  induction kvs with
  | nil => simp [dlk]
  | cons p t ih =>
    obtain ⟨i, x⟩ := p
    rw [List.cons_append, dlk_cons, dlk_cons, ih]
    split <;> simp
theorem dlk_none {kvs : List (κ × D)} {k : κ} : (kvs.any fun kv => decide (kv.1 = k)) = (dlk kvs k).isSome := by
  induction kvs with
  | nil => rfl
  | cons p r ih =>
    obtain ⟨i, x⟩ := p
    rw [List.any_cons, ih, dlk_cons]
    by_cases h : i = k <;> simp [h]
theorem dlk_dpu {kvs : List (κ × D)} {k j : κ} {d : D} : dlk (dpu kvs k d) j = if j = k then some d else dlk kvs j := by
  unfold dpu
  rw [dlk_none]
  by_cases e : j = k
  · subst e
    cases h : dlk kvs j with
    | none => simp [dlk_app, h, dlk]
    | some x => simp [dlk_map, h]
  · cases h : dlk kvs k with
    | none => simp [dlk_app, dlk, e, Ne.symm e]
    | some x => simp [dlk_map, e]
end
section
variable {K : PySem.W.Frag} {F : Hp}
theorem RpK.app : ∀ {xs ys : List (Key × V)} {ds es : List (DK × D)}, RpK K F xs ds → RpK K F ys es → RpK K F (xs ++ ys) (ds ++ es)
  | _, _, _, _, .nil, b => b
  | _, _, _, _, .cons a t, b => .cons a (RpK.app t b)
theorem RpK.any : ∀ {xs : List (Key × V)} {ds : List (DK × D)} (k : DK), RpK K F xs ds → (xs.any fun kv => decide (kv.1 = toK k)) = (ds.any fun kv => decide (kv.1 = k))
  | _, _, _, .nil => rfl
  | _, _, k, .cons (k := j) _ t => by
    rw [List.any_cons, List.any_cons, RpK.any k t]
    have e : decide (toK j = toK k) = decide (j = k) := decide_eq_decide.mpr ⟨toK_inj, fun h => by rw [h]⟩
    rw [e]
theorem RpK.mapk : ∀ {xs : List (Key × V)} {ds : List (DK × D)} (k : DK) {v : V} {d : D}, RpK K F xs ds → Rp K F v d → RpK K F (xs.map (fun kv => if kv.1 = toK k then (kv.1, v) else kv)) (ds.map (fun kv => if kv.1 = k then (kv.1, d) else kv))
  | _, _, _, _, _, .nil, _ => .nil
  | _, _, k, _, _, .cons (k := j) a t, r => by
    rw [List.map_cons, List.map_cons]
    by_cases e : j = k
    · subst e; simp only [if_true]; exact .cons r (RpK.mapk j t r)
    · have e' : ¬ toK j = toK k := fun z => e (toK_inj z)
      simp only [e, e', if_false]; exact .cons a (RpK.mapk k t r)
theorem RpK.put {xs : List (Key × V)} {ds : List (DK × D)} {k : DK} {v : V} {d : D} (r : RpK K F xs ds) (rv : Rp K F v d) : RpK K F (putK xs (toK k) v) (dpu ds k d) := by
  unfold putK dpu
  rw [r.any k]
  split
  · exact r.mapk k rv
  · exact r.app (.cons rv .nil)
theorem RpT.app : ∀ {xs ys : List (List Key × V)} {ds es : List (List DK × D)}, RpT K F xs ds → RpT K F ys es → RpT K F (xs ++ ys) (ds ++ es)
  | _, _, _, _, .nil, b => b
  | _, _, _, _, .cons a t, b => .cons a (RpT.app t b)
theorem RpT.any : ∀ {xs : List (List Key × V)} {ds : List (List DK × D)} (k : List DK), RpT K F xs ds → (xs.any fun kv => decide (kv.1 = k.map toK)) = (ds.any fun kv => decide (kv.1 = k))
  | _, _, _, .nil => rfl
  | _, _, k, .cons (k := j) _ t => by
    rw [List.any_cons, List.any_cons, RpT.any k t]
    have e : decide (j.map toK = k.map toK) = decide (j = k) := decide_eq_decide.mpr ⟨toKs_inj, fun h => by rw [h]⟩
    rw [e]
theorem RpT.mapk : ∀ {xs : List (List Key × V)} {ds : List (List DK × D)} (k : List DK) {v : V} {d : D}, RpT K F xs ds → Rp K F v d → RpT K F (xs.map (fun kv => if kv.1 = k.map toK then (kv.1, v) else kv)) (ds.map (fun kv => if kv.1 = k then (kv.1, d) else kv))
  | _, _, _, _, _, .nil, _ => .nil
  | _, _, k, _, _, .cons (k := j) a t, r => by
    rw [List.map_cons, List.map_cons]
    by_cases e : j = k
    · subst e; simp only [if_true]; exact .cons r (RpT.mapk j t r)
    · have e' : ¬ j.map toK = k.map toK := fun z => e (toKs_inj z)
      simp only [e, e', if_false]; exact .cons a (RpT.mapk k t r)
theorem RpT.put {xs : List (List Key × V)} {ds : List (List DK × D)} {k : List DK} {v : V} {d : D} (r : RpT K F xs ds) (rv : Rp K F v d) : RpT K F (putK xs (k.map toK) v) (dpu ds k d) := by
  unfold putK dpu
  rw [r.any k]
  split
  · exact r.mapk k rv
  · exact r.app (.cons rv .nil)
theorem RpK.len {xs : List (Key × V)} {ds : List (DK × D)} (r : RpK K F xs ds) : xs.length = ds.length := by
  induction xs generalizing ds with
  | nil => cases r; rfl
  | cons x xs ih => cases r with | cons a t => simp [ih t]
theorem RpT.len {xs : List (List Key × V)} {ds : List (List DK × D)} (r : RpT K F xs ds) : xs.length = ds.length := by
  induction xs generalizing ds with
  | nil => cases r; rfl
  | cons x xs ih => cases r with | cons a t => simp [ih t]
end
section
variable {X : Cx} {K : PySem.W.Frag} {E0 : L2.St → XK} {Ee : DEnv → DXK} {a b c e o i tg : Expr} {es : List Expr} {ta tb tc te to ti : TDE} {tr : TDA} {pos apos : Pos} {st : Stmt} {rest : List Stmt} {t u : TDS}
def setMO : MO → D → D → Mp → (MO → Prop) → Prop
  | .lst ds, .int k, d, M, Q => ∃ j, ixN ds.length k = some j ∧ Q (.lst (ds.set j d))
  | .dic kvs, i, d, M, Q => ∃ k, dkey i = some k ∧ kvs.length < sizeLine ∧ Q (.dic (dpu kvs k d))
  | .dit kvs, .tup is, d, M, Q => ∃ k, dkeys is = some k ∧ kvs.length < sizeLine ∧ Q (.dit (dpu kvs k d))
  | _, _, _, _, _ => False
def gSb (to ti : TDE) : TDG := fun d ρ M Q => to ρ M fun o M1 => ti ρ M1 fun i M2 => ∃ p mo, o = .ref p ∧ M2 p = some mo ∧ setMO mo i d M2 fun mo' => Q ρ (mset M2 p mo')
theorem set_ld (hu : X.A.units + 1 < cLine) : PSet X (fun o i v H Q => rSetL o i v H Q ∨ rSetD o i v H Q) := by
  intro pins s σ H o i v ov iv u Q I ro ri rv h
  rcases h with h | h
  · exact set_list pins s σ H o i v ov iv u Q I ro ri rv h
  · exact set_dict hu pins s σ H o i v ov iv u Q I ro ri rv h
theorem gSub (hu : X.A.units + 1 < cLine) (ho : DE X E0 Ee o to) (hi : DE X E0 Ee i ti)
    (ha : ∀ v, assign (.Subscript o i pos) X.env v = (do
      let ov ← holding [v] (eval o X.env)
      let iv ← holding [v, ov] (eval i X.env)
      standAt pos
      holding [v, ov, iv] (setItem ov iv v)
      release [v, ov, iv] []) := by intro _; rfl) : DG X E0 Ee [] (.Subscript o i pos) (gSb to ti) := PGimp (pg_sub ho hi (set_ld hu) ha) fun v σ H Q0 ⟨F, M, ρ, d, Q, ss, rv, q, k⟩ => by
  refine ⟨F, M, ρ, _, ss, q, fun ov H1 F1 dO M1 s1 ro q1 => ⟨F1, M1, ρ, _, ss.step s1, q1, fun iv H2 F2 dI M2 s2 ri q2 => ?_⟩⟩
  obtain ⟨p, mo, rfl, e, q3⟩ := q2
  cases ro
  have st := s1.trans s2
  have rv2 := rv.mono st.fle
  have nh : mo ≠ .hid := by intro z; subst z; exact q3.elim
  have fin : ∀ (o' : HO) (mo' : MO), MOk X.K F2 (upd H2 p o') (mset M2 p mo') p mo' → Q ρ (mset M2 p mo') → Q0 σ (upd H2 p o') := fun o' mo' mk qq =>
    have s3 := Step.wr s2.hm e nh mk
    k _ _ _ _ _ (st.trans s3) (ss.env.mono (st.trans s3).fle) (fun _ _ => rfl) qq
  have z := (s2.hm.mo p _ e).2
  cases mo with
  | lst ds =>
    cases dI with
    | int kk =>
      obtain ⟨j, hj, q4⟩ := q3
      obtain ⟨xs, h1, r1⟩ := z
      cases ri
      exact .inl ⟨p, xs, kk, j, rfl, rfl, h1, by rw [r1.length]; exact hj, fin _ (.lst (ds.set j d)) ⟨_, upd_same, r1.set j rv2⟩ q4⟩
    | _ => exact False.elim q3
  | dic ds =>
    have q3' : ∃ k, dkey dI = some k ∧ ds.length < sizeLine ∧ Q ρ (mset M2 p (.dic (dpu ds k d))) := q3
    obtain ⟨kk, hk, hz, q4⟩ := q3'
    obtain ⟨xs, h1, r1⟩ := z
    have ey := dkey_rp ri hk
    exact .inr ⟨p, _, rfl, .inl ⟨xs, toK kk, h1, ey, by rw [r1.len]; exact hz, rfl⟩, fin _ (.dic (dpu ds kk d)) ⟨_, upd_same, r1.put rv2⟩ q4⟩
  | dit ds =>
    cases dI with
    | tup is =>
      obtain ⟨kk, hk, hz, q4⟩ := q3
      obtain ⟨xs, h1, r1⟩ := z
      obtain ⟨b, ys, rfl, hb, rb⟩ := Ct.of s2.hm.le ri
      rw [dkeys_rp rb hk] at hb
      exact .inr ⟨p, _, rfl, .inr ⟨xs, kk.map toK, b, h1, rfl, hb, by rw [r1.len]; exact hz, rfl⟩, fin _ (.dit (dpu ds kk d)) ⟨_, upd_same, r1.put rv2⟩ q4⟩
    | _ => exact False.elim q3
  | ins C fs => exact q3.elim
  | src c => exact q3.elim
  | hid => exact q3.elim
end
/-! ### dict displays with texts and ints as keys -/
def dPairs : List (TDE × TDE) → DEnv → Mp → (List (D × D) → Mp → Prop) → Prop
  | [], _, M, Q => Q [] M
  | (tk, tv) :: r, ρ, M, Q => tk ρ M fun x M1 => tv ρ M1 fun y M2 => dPairs r ρ M2 fun ps M3 => Q ((x, y) :: ps) M3
section
variable {X : Cx} {E0 : L2.St → XK} {Ee : DEnv → DXK}
inductive DPs (X : Cx) (E0 : L2.St → XK) (Ee : DEnv → DXK) (pos : Pos) : List (Option Expr) → List Expr → List (TDE × TDE) → Prop where
  | nil : DPs X E0 Ee pos [] [] []
  | cons {k v : Expr} {ks : List (Option Expr)} {vs : List Expr} {tk tv : TDE} {trs : List (TDE × TDE)} (hk : DE X E0 Ee k tk) (hv : DE X E0 Ee v tv) (hr : DPs X E0 Ee pos ks vs trs) : DPs X E0 Ee pos (some k :: ks) (v :: vs) ((tk, tv) :: trs)
def lowPs (K : PySem.W.Frag) (E0 : L2.St → XK) (Ee : DEnv → DXK) : List (TDE × TDE) → List (TE × TE)
  | [] => []
  | (a, b) :: r => (lowE K E0 Ee a, lowE K E0 Ee b) :: lowPs K E0 Ee r
theorem DPs.pp {pos : Pos} : ∀ {ks : List (Option Expr)} {vs : List Expr} {ts : List (TDE × TDE)}, DPs X E0 Ee pos ks vs ts → PPs X pos ks vs (lowPs X.K E0 Ee ts)
  | _, _, _, .nil => pps_nil
  | _, _, _, .cons hk hv hr => pps_cons hk hv hr.pp
inductive RpP (K : PySem.W.Frag) (F : Hp) : List (V × V) → List (D × D) → Prop where
  | nil : RpP K F [] []
  | cons {x y : V} {dx dy : D} {r : List (V × V)} {s : List (D × D)} : Rp K F x dx → Rp K F y dy → RpP K F r s → RpP K F ((x, y) :: r) ((dx, dy) :: s)
theorem ps_low {K : PySem.W.Frag} : ∀ {ts : List (TDE × TDE)} {σ : L2.St} {H F : Hp} {M : Mp} {ρ : DEnv} {Q : List (D × D) → Mp → Prop} {Q0 : List (V × V) → Hp → Prop}, SS K E0 Ee σ H F M ρ → dPairs ts ρ M Q →
    (∀ ps ds F' M' H', Step K F M H F' M' H' → RpP K F' ps ds → Q ds M' → Q0 ps H') → tPairs (lowPs K E0 Ee ts) σ H Q0
  | [], σ, H, F, M, ρ, Q, Q0, ss, q, k => k [] [] F M H (.refl ss.hm) .nil q
  | (tk, tv) :: ts, σ, H, F, M, ρ, Q, Q0, ss, q, k => by
    refine ⟨F, M, ρ, _, ss, q, fun x H1 F1 dx M1 s1 rx q1 => ⟨F1, M1, ρ, _, ss.step s1, q1, fun y H2 F2 dy M2 s2 ry q2 => ?_⟩⟩
    refine ps_low ((ss.step s1).step s2) q2 fun ps ds F' M' H' s3 rp q3 => ?_
    exact k _ _ _ _ _ (s1.trans (s2.trans s3)) (.cons (rx.mono (s2.trans s3).fle) (ry.mono s3.fle) rp) q3
def keyD : List (D × D) → Option (List (DK × D))
  | [] => some []
  | (x, y) :: r => match dkey x, keyD r with
    | some k, some ks => some ((k, y) :: ks)
    | _, _ => none
theorem keyD_rp {K : PySem.W.Frag} {F : Hp} : ∀ {ps : List (V × V)} {ds : List (D × D)} {ks : List (DK × D)}, RpP K F ps ds → keyD ds = some ks → ∃ kvs : List (Key × V), ps = kvs.map (fun kv => (kV kv.1, kv.2)) ∧ RpK K F kvs ks ∧ kvs.length = ks.length
  | _, _, _, .nil, h => by cases h; exact ⟨[], rfl, .nil, rfl⟩
  | _, _, _, .cons (dx := dx) (s := s) a b t, h => by
    simp only [keyD] at h
    cases e1 : dkey dx with
    | none => rw [e1] at h; cases h
    | some k =>
      cases e2 : keyD s with
      | none => rw [e1, e2] at h; cases h
      | some ks =>
        rw [e1, e2] at h
        cases h
        obtain ⟨kvs, rfl, r, l⟩ := keyD_rp t e2
        have := dkey_rp a e1
        subst this
        exact ⟨(toK k, _) :: kvs, rfl, .cons b r, by simp [l]⟩
def dmerge (kvs more : List (DK × D)) : List (DK × D) := more.foldl (fun acc kv => dpu acc kv.1 kv.2) kvs
theorem rp_merge {K : PySem.W.Frag} {F : Hp} {more : List (Key × V)} {dm : List (DK × D)} (h : RpK K F more dm) : ∀ {kvs : List (Key × V)} {ds : List (DK × D)}, RpK K F kvs ds → RpK K F (mergeK kvs more) (dmerge ds dm) := by
  induction more generalizing dm with
  | nil => cases h; intro kvs ds r; exact r
  | cons p vs ih =>
    cases h with
    | cons a t =>
      intro kvs ds r
      rename_i k0 v0 d0 ds0
      show RpK K F (mergeK (putK kvs (toK k0) v0) vs) (dmerge (dpu ds k0 d0) ds0)
      exact ih t (r.put a)
def dDispG (trs : List (TDE × TDE)) (fin : List (DK × D) → Mp → Prop) : DEnv → Mp → Prop := fun ρ M => dPairs trs ρ M fun ps M1 => ∃ kvs, keyD ps = some kvs ∧ kvs.length ≤ 15 ∧ fin (dmerge [] kvs) M1
def dDisp (trs : List (TDE × TDE)) : TDE := fun ρ M Q => dDispG trs (fun kvs M1 => Q (.dic kvs) M1) ρ M
def dDispM (trs : List (TDE × TDE)) : TDE := fun ρ M Q => dDispG trs (fun kvs M1 => ∀ p, M1 p = none → Q (.ref p) (mset M1 p (.dic kvs))) ρ M
theorem hidD {K : PySem.W.Frag} {F F1 : Hp} {M M1 : Mp} {H H1 : Hp} (h : Step K F M H F1 M1 H1) {p : Addr} {o : HO} (e : H p = some o) (nt : ∀ ys, o ≠ .tup ys) (nF : F p = none) (nM : M p = none) : H1 p = some o ∧ F1 p = none ∧ M1 p = none := by
  refine ⟨h.frm p _ e nM, ?_, ?_⟩
  · cases q : F1 p with
    | none => rfl
    | some o =>
      rcases h.fnew p o q with z | z | z | ⟨ys, z⟩
      · rw [nF] at z; cases z
      · rw [e] at z; cases z
      · exact absurd nM z
      · rw [e] at z; cases z; exact absurd rfl (nt ys)
  · cases q : M1 p with
    | none => rfl
    | some o =>
      rcases h.dom p o q with z | z
      · exact absurd nM z
      · rw [e] at z; cases z
theorem disp_low {K : PySem.W.Frag} {trs : List (TDE × TDE)} {fin : List (DK × D) → Mp → Prop} {σ : L2.St} {H F : Hp} {M : Mp} {ρ : DEnv} {Q0 : VK} (ss : SS K E0 Ee σ H F M ρ) (q : dDispG trs fin ρ M)
    (k : ∀ p xs ds F' M' H', Step K F M H F' M' H' → F' p = none → M' p = none → H' p = some (.dK xs) → RpK K F' xs ds → fin ds M' → H p = none → Q0 (.ref p) H') : tDisp (lowPs K E0 Ee trs) σ H Q0 := by
  intro p hp
  obtain ⟨nM, nF⟩ := ss.hm.none hp
  have s0 : Step K F M H F M (upd H p (.dK [])) := (Step.refl ss.hm).hset hp nF nM _
  refine ps_low (ss.step s0) q fun ps ds F' M' H' s1 rp q1 => ?_
  obtain ⟨kvs, ek, hz, q2⟩ := q1
  obtain ⟨g1, g2, g3⟩ := hidD s1 (upd_same (H := H)) (fun ys z => nomatch z) nF nM
  obtain ⟨xs, rfl, rk, hl⟩ := keyD_rp rp ek
  refine ⟨g1, xs, rfl, by rw [hl]; exact hz, ?_⟩
  have s2 := (s0.trans s1).hset hp g2 g3 (.dK (mergeK [] xs))
  exact k p _ _ _ _ _ s2 g2 g3 upd_same (rp_merge rk .nil) q2 hp
theorem de_disp {keys : List (Option Expr)} {values : List Expr} {trs : List (TDE × TDE)} {pos : Pos} (h : DPs X E0 Ee pos keys values trs) (hall : keys.all (·.isSome) = true := by rfl) (hl : keys.length = values.length := by rfl) (h0 : keys ≠ [] := by simp)
    (h15 : keys.length ≤ 15 := by decide) : DE X E0 Ee (.Dict keys values pos) (dDisp trs) := PEimp (pe_disp h.pp hall hl h0 h15) fun σ H Q0 ⟨F, M, ρ, Q, ss, q, k⟩ =>
  disp_low ss q fun p xs ds F' M' H' s nF nM e r q' hp => by
    have s3 := s.hfrz hp nF nM e
    exact k _ _ _ _ _ s3 (.dic upd_same (r.mono (fun a u e => by rw [upd_ne (ne_of_none e nF)]; exact e))) q'
theorem de_dispM {keys : List (Option Expr)} {values : List Expr} {trs : List (TDE × TDE)} {pos : Pos} (h : DPs X E0 Ee pos keys values trs) (hall : keys.all (·.isSome) = true := by rfl) (hl : keys.length = values.length := by rfl) (h0 : keys ≠ [] := by simp)
    (h15 : keys.length ≤ 15 := by decide) : DE X E0 Ee (.Dict keys values pos) (dDispM trs) := PEimp (pe_disp h.pp hall hl h0 h15) fun σ H Q0 ⟨F, M, ρ, Q, ss, q, k⟩ =>
  disp_low ss q fun p xs ds F' M' H' s nF nM e r q' hp => by
    have s3 := s.hmut (mo := .dic ds) hp nF nM ⟨xs, e, r⟩
    exact k _ _ _ _ _ s3 (.ref p) (q' p nM)
/-- {} -/
def dNewK : TDE := fun _ M Q => ∀ p, M p = none → Q (.ref p) (mset M p (.dic []))
def dNewT : TDE := fun _ M Q => ∀ p, M p = none → Q (.ref p) (mset M p (.dit []))
theorem de_newK {pos : Pos} : DE X E0 Ee (.Dict [] [] pos) dNewK := PEimp pe_dnewK fun σ H Q0 ⟨F, M, ρ, Q, ss, q, k⟩ p hp => by
  have s := Step.newM ss.hm hp (o := .dK []) (mo := .dic []) ⟨[], upd_same, .nil⟩
  exact k _ _ _ _ _ s (.ref p) (q p (ss.hm.none hp).1)
theorem de_newT {pos : Pos} : DE X E0 Ee (.Dict [] [] pos) dNewT := PEimp pe_dnewT fun σ H Q0 ⟨F, M, ρ, Q, ss, q, k⟩ p hp => by
  have s := Step.newM ss.hm hp (o := .dT []) (mo := .dit []) ⟨[], upd_same, .nil⟩
  exact k _ _ _ _ _ s (.ref p) (q p (ss.hm.none hp).1)
end
/-! ### names of the module that hold texts and numbers -/
section
variable {X : Cx} {E0 : L2.St → XK} {Ee : DEnv → DXK} {x : Str} {pos : Pos}
def GV (mg : Str → Option Value) (x : Str) (v : V) : Prop := ∃ u, mg x = some u ∧ RelV v u
theorem gS (l : Cd) (h : GV X.mg x (.str (mkS l))) (hg : Gl X x := by rfl) (hd : (x == ("__debug__" : Str)) = false := by decide) : DE X E0 Ee (.Name x pos) (dC (.str l)) := by
  obtain ⟨u, h, r⟩ := h
  exact de_c (pe_glob hg h r hd) fun _ => .str l
theorem gI (i : Int) (h : GV X.mg x (.int i)) (hg : Gl X x := by rfl) (hd : (x == ("__debug__" : Str)) = false := by decide) : DE X E0 Ee (.Name x pos) (dC (.int i)) := by
  obtain ⟨u, h, r⟩ := h
  exact de_c (pe_glob hg h r hd) fun _ => .int i
theorem de_joined1 {e : Expr} {te : TDE} (he : DE X E0 Ee e te) : DE X E0 Ee (.JoinedStr [e] pos) te := pe_joined1 he
end
end DL


set_option Elab.async false
set_option linter.all false
set_option maxRecDepth 100000
set_option maxHeartbeats 4000000
namespace DL
open PySem PySem.Spec PyProof.Rows L2
/-! ### the laws' source -/
def kCells : Cd := [99, 101, 108, 108, 115]
def kLeft : Cd := [108, 101, 102, 116]
def kMixed : Cd := [109, 105, 120, 101, 100]
def kTurn : Cd := [116, 117, 114, 110]
def srcL (c : Addr) (l m t : Int) : List (DK × D) := [(.inr kCells, .ref c), (.inr kLeft, .int l), (.inr kMixed, .int m), (.inr kTurn, .int t)]
theorem srcL_rp {K : PySem.W.Frag} {F : Hp} {c : Addr} {l m t : Int} : RpK K F [(.inr "cells", .ref c), (.inr "left", .int l), (.inr "mixed", .int m), (.inr "turn", .int t)] (srcL c l m t) := by
  have e1 : (("cells" : Str)) = mkS kCells := by decide +kernel
  have e2 : (("left" : Str)) = mkS kLeft := by decide +kernel
  have e3 : (("mixed" : Str)) = mkS kMixed := by decide +kernel
  have e4 : (("turn" : Str)) = mkS kTurn := by decide +kernel
  rw [e1, e2, e3, e4]
  exact .cons (k := .inr kCells) (.ref c) (.cons (k := .inr kLeft) (.int l) (.cons (k := .inr kMixed) (.int m) (.cons (k := .inr kTurn) (.int t) .nil)))
theorem srcL_of {K : PySem.W.Frag} {F : Hp} {c : Addr} {l m t : Int} {xs : List (Key × V)} (h : RpK K F xs (srcL c l m t)) : xs = [(.inr "cells", .ref c), (.inr "left", .int l), (.inr "mixed", .int m), (.inr "turn", .int t)] := by
  have e1 : (("cells" : Str)) = mkS kCells := by decide +kernel
  have e2 : (("left" : Str)) = mkS kLeft := by decide +kernel
  have e3 : (("mixed" : Str)) = mkS kMixed := by decide +kernel
  have e4 : (("turn" : Str)) = mkS kTurn := by decide +kernel
  rw [e1, e2, e3, e4]
  cases h with
  | cons a h => cases h with
    | cons b h => cases h with
      | cons c h => cases h with
        | cons d h => cases h; cases a; cases b; cases c; cases d; rfl
/-- the source laid open: the others that share its cells are left aside -/
def opn (M : Mp) (p c : Addr) (l m t : Int) (ns : List Int) : Mp := fun a => if a = p then some (.dic (srcL c l m t)) else if a = c then some (.lst (ns.map .int)) else match M a with
  | some (.src c') => if c' = c then none else some (.src c')
  | o => o
section
variable {K : PySem.W.Frag} {F : Hp} {M : Mp} {H : Hp} {p c : Addr}
theorem opn_p {l m t : Int} {ns : List Int} : opn M p c l m t ns p = some (.dic (srcL c l m t)) := if_pos rfl
theorem opn_c {l m t : Int} {ns : List Int} (h : c ≠ p) : opn M p c l m t ns c = some (.lst (ns.map .int)) := by unfold opn; rw [if_neg h, if_pos rfl]
theorem opn_set {l m t l' m' t' : Int} {ns ns' : List Int} (h : c ≠ p) : mset (mset (opn M p c l m t ns) c (.lst (ns'.map .int))) p (.dic (srcL c l' m' t')) = opn M p c l' m' t' ns' := by
  funext a
  unfold mset opn
  by_cases h1 : a = p
  · simp [h1]
  · by_cases h2 : a = c
    · simp [h1, h2, h]
    · simp [h1, h2]
theorem opn_cl {l m t l' m' t' : Int} {ns ns' : List Int} (h : Sub (opn M p c l m t ns) (opn M p c l m t ns)) : Sub (opn M p c l' m' t' ns') (opn M p c l' m' t' ns') := by
  refine ⟨fun _ _ e => e, fun a c' e => ?_⟩
  have e2 : opn M p c l m t ns a = some (.src c') := by
    unfold opn at e ⊢
    by_cases h1 : a = p
    · rw [if_pos h1] at e; cases e
    · by_cases h2 : a = c
      · rw [if_neg h1, if_pos h2] at e; cases e
      · rw [if_neg h1, if_neg h2] at e ⊢; exact e
  have e3 := h.cl a c' e2
  unfold opn at e3 ⊢
  by_cases h1 : c' = p
  · rw [if_pos h1] at e3; cases e3
  · by_cases h2 : c' = c
    · rw [if_neg h1, if_pos h2] at e3; cases e3
    · rw [if_neg h1, if_neg h2] at e3 ⊢; exact e3
theorem opn_p_set {l m t l' m' t' : Int} {ns : List Int} : mset (opn M p c l m t ns) p (.dic (srcL c l' m' t')) = opn M p c l' m' t' ns := by
  funext a
  unfold mset opn
  by_cases h1 : a = p <;> simp [h1]
theorem opn_c_set {l m t : Int} {ns ns' : List Int} (ne : c ≠ p) : mset (opn M p c l m t ns) c (.lst (ns'.map .int)) = opn M p c l m t ns' := by
  funext a
  unfold mset opn
  by_cases h1 : a = p
  · subst h1; simp [Ne.symm ne]
  · by_cases h2 : a = c <;> simp [h1, h2, ne]
theorem fd_cells {l m t : Int} : dfind (.dic (srcL c l m t)) (.str [99, 101, 108, 108, 115]) = some (some (.ref c)) := rfl
theorem fd_left {l m t : Int} : dfind (.dic (srcL c l m t)) (.str [108, 101, 102, 116]) = some (some (.int l)) := rfl
theorem fd_mixed {l m t : Int} : dfind (.dic (srcL c l m t)) (.str [109, 105, 120, 101, 100]) = some (some (.int m)) := rfl
theorem fd_turn {l m t : Int} : dfind (.dic (srcL c l m t)) (.str [116, 117, 114, 110]) = some (some (.int t)) := rfl
theorem pu_left {l m t x : Int} : dpu (srcL c l m t) (.inr [108, 101, 102, 116]) (.int x) = srcL c x m t := rfl
theorem pu_turn {l m t x : Int} : dpu (srcL c l m t) (.inr [116, 117, 114, 110]) (.int x) = srcL c l m x := rfl
theorem srcL_len {l m t : Int} : (srcL c l m t).length < sizeLine := by rw [sizeLine_eq]; simp [srcL]
theorem src_ne (h : HM K F M H) (e : M p = some (.src c)) : c ≠ p := fun z => by
  have := ((h.mo p _ e).2).1
  rw [z, e] at this; cases this
theorem HM.opn (h : HM K F M H) (e : M p = some (.src c)) : ∃ l m t ns, HM K F (DL.opn M p c l m t ns) H := by
  have ne := src_ne h e
  obtain ⟨nF, hc, l, m, t, ns, e1, e2⟩ := h.mo p _ e
  obtain ⟨nFc, _⟩ := h.mo c _ hc
  refine ⟨l, m, t, ns, h.le, fun a o ea => ?_⟩
  unfold DL.opn at ea
  by_cases h1 : a = p
  · rw [if_pos h1] at ea; cases ea; subst h1
    exact ⟨nF, _, e1, srcL_rp⟩
  · rw [if_neg h1] at ea
    by_cases h2 : a = c
    · rw [if_pos h2] at ea; cases ea; subst h2
      exact ⟨nFc, _, e2, RpL.ints ns⟩
    · rw [if_neg h2] at ea
      cases q : M a with
      | none => rw [q] at ea; cases ea
      | some u =>
        rw [q] at ea
        obtain ⟨z1, z2⟩ := h.mo a _ q
        cases u with
        | src c' =>
          by_cases h3 : c' = c
          · simp only [h3, if_true] at ea; cases ea
          · simp only [h3, if_false] at ea; cases ea
            refine ⟨z1, ?_, z2.2⟩
            have hc' := z2.1
            have h4 : c' ≠ p := fun z => by rw [z, e] at hc'; cases hc'
            unfold DL.opn; rw [if_neg h4, if_neg h3, hc']
        | lst _ => cases ea; exact ⟨z1, z2⟩
        | dic _ => cases ea; exact ⟨z1, z2⟩
        | dit _ => cases ea; exact ⟨z1, z2⟩
        | ins _ _ => cases ea; exact ⟨z1, z2⟩
        | hid => cases ea; exact ⟨z1, z2⟩
/-- and closed again -/
theorem Step.cls {F1 H1 : Hp} {l m t l' m' t' : Int} {ns ns' : List Int} (h : HM K F M H) (e : M p = some (.src c)) (s : Step K F (opn M p c l m t ns) H F1 (opn M p c l' m' t' ns') H1) : Step K F M H F1 M H1 := by
  have ne := src_ne h e
  have hc := ((h.mo p _ e).2).1
  have on : ∀ a, M a = none → opn M p c l m t ns a = none := fun a ha => by
    unfold opn
    have h1 : a ≠ p := fun z => by rw [z, e] at ha; cases ha
    have h2 : a ≠ c := fun z => by rw [z, hc] at ha; cases ha
    rw [if_neg h1, if_neg h2, ha]
  have no : ∀ a, opn M p c l m t ns a ≠ none → M a ≠ none := fun a ha hz => ha (on a hz)
  obtain ⟨xs, hp1, rp⟩ := (s.hm.mo p _ opn_p).2
  have ex := srcL_of rp
  obtain ⟨ys, hc1, rc⟩ := (s.hm.mo c _ (opn_c ne)).2
  have ey := RpL.of_ints rc
  have Fp := (s.hm.mo p _ opn_p).1
  have Fc := (s.hm.mo c _ (opn_c ne)).1
  refine ⟨s.fle, ⟨s.hm.le, fun a o ea => ?_⟩, fun a o ha na => s.frm a o ha (on a na), fun a o ea => .inl (by rw [ea]; exact fun z => nomatch z), fun a o ea => ?_⟩
  · by_cases h1 : a = p
    · subst h1; rw [e] at ea; cases ea
      exact ⟨Fp, hc, l', m', t', ns', by rw [hp1, ex]; rfl, by rw [hc1, ey]⟩
    · by_cases h2 : a = c
      · subst h2; rw [hc] at ea; cases ea
        exact ⟨Fc, ys, hc1⟩
      · cases o with
        | src c' =>
          by_cases h3 : c' = c
          · subst h3
            have na : opn M p c' l m t ns a = none := by unfold opn; rw [if_neg h1, if_neg h2, ea]; simp
            obtain ⟨z1, z2, l2, m2, t2, n2, z3, z4⟩ := h.mo a _ ea
            have z5 := s.frm a _ z3 na
            refine ⟨?_, z2, l2, m2, t2, ns', z5, by rw [hc1, ey]⟩
            cases q : F1 a with
            | none => rfl
            | some u =>
              rcases s.fnew a u q with y | y | y | ⟨ys, y⟩
              · rw [z1] at y; cases y
              · rw [z3] at y; cases y
              · exact absurd na y
              · rw [z3] at y; cases y
          · have ea' : opn M p c l' m' t' ns' a = some (.src c') := by unfold opn; rw [if_neg h1, if_neg h2, ea]; simp [h3]
            obtain ⟨z1, z2, z3⟩ := s.hm.mo a _ ea'
            exact ⟨z1, ((h.mo a _ ea).2).1, z3⟩
        | lst z7 =>
          have ea' : opn M p c l' m' t' ns' a = some (.lst z7) := by unfold opn; rw [if_neg h1, if_neg h2, ea]
          exact s.hm.mo a _ ea'
        | dic z7 =>
          have ea' : opn M p c l' m' t' ns' a = some (.dic z7) := by unfold opn; rw [if_neg h1, if_neg h2, ea]
          exact s.hm.mo a _ ea'
        | dit z7 =>
          have ea' : opn M p c l' m' t' ns' a = some (.dit z7) := by unfold opn; rw [if_neg h1, if_neg h2, ea]
          exact s.hm.mo a _ ea'
        | ins z7 z8 =>
          have ea' : opn M p c l' m' t' ns' a = some (.ins z7 z8) := by unfold opn; rw [if_neg h1, if_neg h2, ea]
          exact s.hm.mo a _ ea'
        | hid =>
          have ea' : opn M p c l' m' t' ns' a = some (.hid) := by unfold opn; rw [if_neg h1, if_neg h2, ea]
          exact s.hm.mo a _ ea'
  · rcases s.fnew a o ea with y | y | y | y
    · exact .inl y
    · exact .inr (.inl y)
    · exact .inr (.inr (.inl (no a y)))
    · exact .inr (.inr (.inr y))
/-- what a pick is, laid open -/
def pkO : DSp := fun ds M Q _ => ∃ (M0 : Mp) (p c : Addr) (l m t : Int) (ns : List Int) (many : Int), ds = [.ref p, .int many] ∧ c ≠ p ∧ M = opn M0 p c l m t ns ∧ many ≤ 10000000 ∧ ∀ (k : Nat) (l' m' t' : Int) (ns' : List Int), (k = 0 ∨ (k : Int) < many) → Q (.int k) (opn M0 p c l' m' t' ns')
/-- what a pick is -/
def pkS : DSp := fun ds M Q _ => ∃ (p c : Addr) (many : Int), ds = [.ref p, .int many] ∧ M p = some (.src c) ∧ many ≤ 10000000 ∧ ∀ k : Nat, (k = 0 ∨ (k : Int) < many) → Q (.int k) M
theorem pk_imp {vs : List V} {Q0 : VK} {E : XK} (h : lift K pkS vs H Q0 E) : lift K pkO vs H Q0 E := by
  obtain ⟨F, M, ds, Q, Ed, hm, r, ⟨p, c, many, rfl, e, hz, q⟩, kk, xk⟩ := h
  obtain ⟨l, m, t, ns, hm'⟩ := hm.opn e
  refine ⟨F, _, _, fun d M1 => ∃ (k : Nat) (l' m' t' : Int) (ns' : List Int), d = .int k ∧ M1 = opn M p c l' m' t' ns' ∧ Q (.int k) M, fun _ _ _ => False, hm', r, ⟨M, p, c, l, m, t, ns, many, rfl, src_ne hm e, rfl, hz, fun k l' m' t' ns' hk => ⟨k, l', m', t', ns', rfl, rfl, q k hk⟩⟩, ?_, fun _ _ _ _ _ _ _ _ _ _ z => z.elim⟩
  rintro v H' F' d M' s r' ⟨k, l', m', t', ns', rfl, rfl, q'⟩
  exact kk v H' F' (.int k) M (Step.cls hm e s) r' q'
/-- a new source, laid open, closed -/
def srO : DSp := fun ds M Q _ => ∃ ns : List Int, ds = [.scr ns] ∧ ns.length ≤ 1000 ∧ ∀ (p c : Addr) (l m t : Int) (cs : List Int), c ≠ p → M p = none → M c = none → Q (.ref p) (mset (mset M c (.lst (cs.map .int))) p (.dic (srcL c l m t)))
def srS : DSp := fun ds M Q _ => ∃ ns : List Int, ds = [.scr ns] ∧ ns.length ≤ 1000 ∧ ∀ (p c : Addr), c ≠ p → M p = none → M c = none → Q (.ref p) (mset (mset M c .hid) p (.src c))
theorem sr_imp {vs : List V} {Q0 : VK} {E : XK} (h : lift K srS vs H Q0 E) : lift K srO vs H Q0 E := by
  obtain ⟨F, M, ds, Q, Ed, hm, r, ⟨ns, rfl, hz, q⟩, kk, xk⟩ := h
  refine ⟨F, M, _, fun d M1 => ∃ (p c : Addr) (l m t : Int) (cs : List Int), d = .ref p ∧ c ≠ p ∧ M p = none ∧ M c = none ∧ M1 = mset (mset M c (.lst (cs.map .int))) p (.dic (srcL c l m t)), fun _ _ _ => False, hm, r,
    ⟨ns, rfl, hz, fun p c l m t cs h1 h2 h3 => ⟨p, c, l, m, t, cs, rfl, h1, h2, h3, rfl⟩⟩, ?_, fun _ _ _ _ _ _ _ _ _ _ z => z.elim⟩
  rintro v H' F' d M' s r' ⟨p, c, l, m, t, cs, rfl, ne, np, nc, rfl⟩
  refine kk v H' F' _ _ ?_ r' (q p c ne np nc)
  obtain ⟨Fp, xs, hp1, rp⟩ := s.hm.mo p _ mset_same
  have ex := srcL_of rp
  obtain ⟨Fc, ys, hc1, rc⟩ := s.hm.mo c _ ((mset_ne ne).trans mset_same)
  have ey := RpL.of_ints rc
  refine ⟨s.fle, ⟨s.hm.le, fun a o ea => ?_⟩, s.frm, fun a o ea => ?_, s.fnew⟩
  · by_cases h1 : a = p
    · subst h1; rw [mset_same] at ea; cases ea
      exact ⟨Fp, (mset_ne ne).trans mset_same, l, m, t, cs, by rw [hp1, ex]; rfl, by rw [hc1, ey]⟩
    · by_cases h2 : a = c
      · subst h2; rw [mset_ne h1, mset_same] at ea; cases ea
        exact ⟨Fc, ys, hc1⟩
      · rw [mset_ne h1, mset_ne h2] at ea
        have ea' : mset (mset M c (.lst (cs.map .int))) p (.dic (srcL c l m t)) a = some o := by rw [mset_ne h1, mset_ne h2]; exact ea
        obtain ⟨z1, z2⟩ := s.hm.mo a _ ea'
        refine ⟨z1, ?_⟩
        cases o with
        | src c' =>
          obtain ⟨z3, z4⟩ := z2
          refine ⟨?_, z4⟩
          have h3 : c' ≠ p := fun z => by rw [z, mset_same] at z3; cases z3
          have h4 : c' ≠ c := fun z => by rw [z, mset_ne ne, mset_same] at z3; cases z3
          rw [mset_ne h3, mset_ne h4] at z3 ⊢; exact z3
        | _ => exact z2
  · by_cases h1 : a = p
    · exact (s.dom p _ mset_same).imp (fun h => by rw [h1]; exact h) fun h => by rw [h1]; exact h
    · by_cases h2 : a = c
      · exact (s.dom c _ ((mset_ne ne).trans mset_same)).imp (fun h => by rw [h2]; exact h) fun h => by rw [h2]; exact h
      · rw [mset_ne h1, mset_ne h2] at ea
        exact s.dom a o (by rw [mset_ne h1, mset_ne h2]; exact ea)
end
end DL


set_option Elab.async false
set_option linter.all false
set_option maxRecDepth 100000
set_option maxHeartbeats 4000000
namespace DL
open PySem PySem.Spec PyProof.Rows L2
/-! ### small tools -/
theorem atI_mid {α : Type} {l a r : List α} {x : α} {i : Int} (h : l = a ++ (x :: r)) (hi : i = (a.length : Int)) : atI l i = some x := by
  subst h hi; exact atI_nat (by simp)
theorem atI_n {α : Type} {l : List α} {i : Int} {j : Nat} {x : α} (hi : i = (j : Int)) (h : l[j]? = some x) : atI l i = some x := by subst hi; exact atI_nat h
theorem dcut_mid {α : Type} {l a b r : List α} {i j : Int} (h : l = a ++ (b ++ r)) (hi : i = (a.length : Int)) (hj : j = (a.length : Int) + b.length) : dcut l (some i) (some j) = b := by
  subst h hi
  have e : j = ((a.length + b.length : Nat) : Int) := by omega
  subst e
  unfold dcut
  rw [HT.sIx_nat, HT.sIx_nat]
  have e1 : min a.length (a ++ (b ++ r)).length = a.length := by simp only [List.length_append]; omega
  have e2 : min (a.length + b.length) (a ++ (b ++ r)).length = a.length + b.length := by simp only [List.length_append]; omega
  rw [e1, e2, List.drop_left, Nat.add_sub_cancel_left, List.take_left]
theorem dcut_one {α : Type} {l a r : List α} {i j : Int} (h : l = a ++ r) (hi : i = (a.length : Int)) (hj : j = (a.length : Int) + 1) : dcut l (some i) (some j) = r.take 1 := by
  subst h hi
  have e : j = ((a.length + 1 : Nat) : Int) := by omega
  subst e
  unfold dcut
  rw [HT.sIx_nat, HT.sIx_nat]
  have e1 : min a.length (a ++ r).length = a.length := by simp only [List.length_append]; omega
  rw [e1, List.drop_left]
  cases r with
  | nil => simp
  | cons x r =>
    have e2 : min (a.length + 1) (a ++ x :: r).length = a.length + 1 := by simp only [List.length_append, List.length_cons]; omega
    rw [e2, Nat.add_sub_cancel_left]
theorem dcut_tl {α : Type} {l : List α} : dcut l (some 1) none = l.tail := by
  unfold dcut
  rw [show (some (1 : Int)) = some ((1 : Nat) : Int) from rfl, HT.sIx_nat, HT.sIx_none]
  cases l with
  | nil => rfl
  | cons x r =>
    have e : min 1 (x :: r).length = 1 := by simp only [List.length_cons]; omega
    rw [e, List.drop_one, List.tail_cons, List.length_cons, Nat.add_sub_cancel, List.take_length]
theorem dcut_tl' {α : Type} {x : α} {l : List α} : ¬ (HT.sIx (x :: l).length 0 (some 1) = 0 ∧ HT.sIx (x :: l).length (x :: l).length none = (x :: l).length) := by
  rintro ⟨h, _⟩
  rw [show (some (1 : Int)) = some ((1 : Nat) : Int) from rfl, HT.sIx_nat] at h
  simp only [List.length_cons] at h
  omega
theorem atI0 {α : Type} {x : α} {l : List α} : atI (x :: l) 0 = some x := atI_n (j := 0) rfl rfl
/-! ### a def that calls itself -/
def prev (sp : Nat → DSp) : Nat → DSp
  | 0 => fun _ _ _ _ => False
  | k + 1 => sp k
theorem fn_rec {P : Program} {w : World} {K : PySem.W.Frag} {mg : Str → Option Value} {base : Heap} {x : Str} {ps : List Str} {sp : Nat → DSp} {c : Nat} {f : Addr} {fd : FuncData} (hm : mg x = some (.ref f)) (kp : PySem.W.keepIn K (.ref f) = true) (hb : Binds K fd ps [])
    (step : ∀ n, Fn P w K mg base (n + c) x ps (prev sp n) → FnOk P w K mg base (L2.CX P w) (n + c + 1) f fd ps (lift K (sp n))) : ∀ n, Fn P w K mg base (n + c + 1) x ps (sp n)
  | 0 => ⟨f, fd, step 0 ⟨f, fd, ⟨fun _ _ _ _ h => by obtain ⟨_, _, _, _, _, _, _, h, _⟩ := h; exact h.elim, fun _ _ _ _ _ _ _ _ _ _ _ _ _ h => by obtain ⟨_, _, _, _, _, _, _, h, _⟩ := h; exact h.elim⟩, hm, kp, hb⟩, hm, kp, hb⟩
  | n + 1 => by
    have ih := fn_rec hm kp hb step n
    rw [show n + c + 1 = n + 1 + c by omega] at ih
    exact ⟨f, fd, step (n + 1) ih, hm, kp, hb⟩
/-! ### what may be compared -/
mutual
def dDep : D → Nat
  | .lst xs | .tup xs => dDepL xs + 1
  | _ => 0
def dDepL : List D → Nat
  | [] => 0
  | x :: xs => max (dDep x) (dDepL xs)
end
mutual
def dPl : D → Bool
  | .non | .bl _ | .int _ => true
  | .str s => s.all (· < 0x110000)
  | .lst xs | .tup xs => dPlL xs
  | _ => false
def dPlL : List D → Bool
  | [] => true
  | x :: xs => dPl x && dPlL xs
end
mutual
theorem pl_py : ∀ d : D, dPl d = true → ∃ p, d.py = some p ∧ p.canLay0 = true ∧ p.depth = dDep d
  | .non, _ => ⟨_, rfl, by simp [PyData.canLay0], by simp [PyData.depth, dDep]⟩
  | .bl _, _ => ⟨_, rfl, by simp [PyData.canLay0], by simp [PyData.depth, dDep]⟩
  | .int _, _ => ⟨_, rfl, by simp [PyData.canLay0], by simp [PyData.depth, dDep]⟩
  | .str s, h => ⟨_, rfl, by
      simp only [dPl] at h
      simp only [PyData.canLay0, PyData.strOk]
      show (Array.all s.toArray _) = true
      rw [List.all_toArray]; exact h, by simp [PyData.depth, dDep]⟩
  | .lst xs, h => by
    simp only [dPl] at h
    obtain ⟨ps, e, c, d⟩ := pl_pyL xs h
    exact ⟨.list ps, by simp only [D.py, e]; rfl, by simp only [PyData.canLay0, c], by simp only [PyData.depth, dDep, d]⟩
  | .tup xs, h => by
    simp only [dPl] at h
    obtain ⟨ps, e, c, d⟩ := pl_pyL xs h
    exact ⟨.tuple ps, by simp only [D.py, e]; rfl, by simp only [PyData.canLay0, c], by simp only [PyData.depth, dDep, d]⟩
  | .ty _, h => by simp [dPl] at h
  | .ref _, h => by simp [dPl] at h
  | .scr _, h => by simp [dPl] at h
  | .dic _, h => by simp [dPl] at h
  | .dit _, h => by simp [dPl] at h
  | .obj _ _, h => by simp [dPl] at h
theorem pl_pyL : ∀ d : List D, dPlL d = true → ∃ p, pyL d = some p ∧ PyData.canLayAll0 p = true ∧ PyData.depthAll p = dDepL d
  | [], _ => ⟨[], rfl, by simp [PyData.canLayAll0], by simp [PyData.depthAll, dDepL]⟩
  | x :: xs, h => by
    simp only [dPlL, Bool.and_eq_true] at h
    obtain ⟨p, e1, c1, d1⟩ := pl_py x h.1
    obtain ⟨ps, e2, c2, d2⟩ := pl_pyL xs h.2
    exact ⟨p :: ps, by simp only [pyL, e1, e2], by simp only [PyData.canLayAll0, c1, c2]; rfl, by simp only [PyData.depthAll, dDepL, d1, d2]⟩
end
theorem cmpOk_pl {d : D} (h : dPl d = true) (hd : dDep d ≤ 64) : cmpOk d = true := by
  obtain ⟨p, e, c, hp⟩ := pl_py d h
  unfold cmpOk
  rw [e]
  show SeqAt.shaped p = true
  unfold SeqAt.shaped
  rw [c, hp]
  simpa using hd
mutual
theorem deq_refl : ∀ d : D, dPl d = true → deq d d = true
  | .non, _ => by simp [deq]
  | .bl b, _ => by simp [deq]
  | .int i, _ => by simp [deq]
  | .str s, _ => by simp [deq]
  | .lst xs, h => by simp only [dPl] at h; simp only [deq]; exact deqL_refl xs h
  | .tup xs, h => by simp only [dPl] at h; simp only [deq]; exact deqL_refl xs h
  | .ty _, h => by simp [dPl] at h
  | .ref _, h => by simp [dPl] at h
  | .scr _, h => by simp [dPl] at h
  | .dic _, h => by simp [dPl] at h
  | .dit _, h => by simp [dPl] at h
  | .obj _ _, h => by simp [dPl] at h
theorem deqL_refl : ∀ d : List D, dPlL d = true → deqL d d = true
  | [], _ => by simp [deqL]
  | x :: xs, h => by
    simp only [dPlL, Bool.and_eq_true] at h
    simp only [deqL, deq_refl x h.1, deqL_refl xs h.2]; rfl
end
end DL


set_option Elab.async false
set_option linter.all false
set_option maxRecDepth 100000
set_option maxHeartbeats 4000000
namespace DL
open PySem PySem.Spec PyProof.Rows L2
/-! ### one equation for each shape -/
section
variable {M : Mp} {Q : D → Mp → Prop} {i j : Int} {a b s : Cd} {p : Bool} {c : Nat} {xs ys : List D} {ns : List Int} {kv : List (DK × D)} {kt : List (List DK × D)} {x y d : D} {C q : Addr} {fs : List (Str × D)} {lo hi : Option Int} {QM : MO → Prop} {n : String}
theorem e_vw_non : vw M (.non) = .non := rfl
theorem e_vw_bl : vw M (.bl p) = .bl p := rfl
theorem e_vw_int : vw M (.int i) = .int i := rfl
theorem e_vw_str : vw M (.str s) = .str s := rfl
theorem e_vw_scr : vw M (.scr ns) = .scr ns := rfl
theorem e_vw_lst : vw M (.lst xs) = .lst xs := rfl
theorem e_vw_tup : vw M (.tup xs) = .tup xs := rfl
theorem e_vw_dic : vw M (.dic kv) = .dic kv := rfl
theorem e_vw_dit : vw M (.dit kt) = .dit kt := rfl
theorem e_vw_obj : vw M (.obj C fs) = .obj C fs := rfl
theorem e_vw_ty : vw M (.ty n) = .ty n := rfl
theorem vw_l (h : M q = some (.lst xs)) : vw M (.ref q) = .lst xs := by simp only [vw, h]
theorem vw_d (h : M q = some (.dic kv)) : vw M (.ref q) = .dic kv := by simp only [vw, h]
theorem vw_t (h : M q = some (.dit kt)) : vw M (.ref q) = .dit kt := by simp only [vw, h]
theorem vw_i (h : M q = some (.ins C fs)) : vw M (.ref q) = .obj C fs := by simp only [vw, h]
theorem e_flat_non : flatD (.non) = true := rfl
theorem e_isn_non : isNonD (.non) = true := rfl
theorem e_ty_non : tyN (.non) = some .non := rfl
theorem e_flat_bl : flatD (.bl p) = true := rfl
theorem e_isn_bl : isNonD (.bl p) = false := rfl
theorem e_ty_bl : tyN (.bl p) = some .bool := rfl
theorem e_flat_int : flatD (.int i) = true := rfl
theorem e_isn_int : isNonD (.int i) = false := rfl
theorem e_ty_int : tyN (.int i) = some .int := rfl
theorem e_flat_str : flatD (.str s) = true := rfl
theorem e_isn_str : isNonD (.str s) = false := rfl
theorem e_ty_str : tyN (.str s) = some .str := rfl
theorem e_flat_scr : flatD (.scr ns) = false := rfl
theorem e_isn_scr : isNonD (.scr ns) = false := rfl
theorem e_ty_scr : tyN (.scr ns) = some .list := rfl
theorem e_flat_lst : flatD (.lst xs) = false := rfl
theorem e_isn_lst : isNonD (.lst xs) = false := rfl
theorem e_ty_lst : tyN (.lst xs) = some .list := rfl
theorem e_flat_tup : flatD (.tup xs) = false := rfl
theorem e_isn_tup : isNonD (.tup xs) = false := rfl
theorem e_ty_tup : tyN (.tup xs) = some .tuple := rfl
theorem e_flat_dic : flatD (.dic kv) = false := rfl
theorem e_isn_dic : isNonD (.dic kv) = false := rfl
theorem e_ty_dic : tyN (.dic kv) = some .dict := rfl
theorem e_flat_dit : flatD (.dit kt) = false := rfl
theorem e_isn_dit : isNonD (.dit kt) = false := rfl
theorem e_flat_obj : flatD (.obj C fs) = false := rfl
theorem e_isn_obj : isNonD (.obj C fs) = false := rfl
theorem e_flat_ty : flatD (.ty n) = false := rfl
theorem e_isn_ty : isNonD (.ty n) = false := rfl
theorem e_add_ii : oAdd (.int i) (.int j) M Q = Q (.int (i + j)) M := rfl
theorem e_add_ss : oAdd (.str a) (.str b) M Q = (a.length + b.length ≤ sizeLine ∧ Q (.str (a ++ b)) M) := rfl
theorem e_add_ll : oAdd (.lst xs) (.lst ys) M Q = (xs.length + ys.length ≤ sizeLine ∧ Q (.lst (xs ++ ys)) M) := rfl
theorem e_add_tt : oAdd (.tup xs) (.tup ys) M Q = (xs ≠ [] ∧ ys ≠ [] ∧ xs.length + ys.length ≤ sizeLine ∧ Q (.tup (xs ++ ys)) M) := rfl
theorem e_iadd_ii : oIadd (.int i) (.int j) M Q = Q (.int (i + j)) M := rfl
theorem e_iadd_ss : oIadd (.str a) (.str b) M Q = (a.length + b.length ≤ sizeLine ∧ Q (.str (a ++ b)) M) := rfl
theorem e_sub_ii : oSub (.int i) (.int j) M Q = Q (.int (i - j)) M := rfl
theorem e_mul_ii : oMul (.int i) (.int j) M Q = (CMul i j ∧ Q (.int (i * j)) M) := rfl
theorem e_mul_li : oMul (.lst xs) (.int j) M Q = (-(2 ^ 63) ≤ j ∧ j < 2 ^ 63 ∧ xs.length * j.toNat ≤ sizeLine ∧ Q (.lst (List.replicate j.toNat xs).flatten) M) := rfl
theorem e_mul_si : oMul (.str a) (.int j) M Q = ((-(2 ^ 63) ≤ j ∧ j ≤ 16777216 ∧ a.length * j.toNat ≤ 16777216) ∧ Q (.str (strMul a j)) M) := rfl
theorem e_fdiv_ii : oFdiv (.int i) (.int j) M Q = (CDiv i j ∧ Q (.int (i / j)) M) := rfl
theorem e_mod_ii : oMod (.int i) (.int j) M Q = (0 < j ∧ Q (.int (i % j)) M) := rfl
theorem e_pow_ii : oPow (.int i) (.int j) M Q = (CPow i j ∧ Q (.int (i ^ j.toNat)) M) := rfl
theorem e_deq_nn : deq .non .non = true := by simp [deq]
theorem e_deq_ii : deq (.int i) (.int j) = (i == j) := by simp [deq]
theorem e_deq_ss : deq (.str a) (.str b) = (a == b) := by simp [deq]
theorem e_deq_bb : deq (.bl p) (.bl true) = p := by cases p <;> simp [deq]
theorem e_deq_tt : deq (.tup xs) (.tup ys) = deqL xs ys := by simp [deq]
theorem e_deq_ll : deq (.lst xs) (.lst ys) = deqL xs ys := by simp [deq]
theorem e_deq_st : deq (.str a) (.tup ys) = false := by simp [deq]
theorem e_deq_ts : deq (.tup xs) (.str a) = false := by simp [deq]
theorem e_deql_n : deqL [] [] = true := by simp [deqL]
theorem e_deql_c : deqL (x :: xs) (y :: ys) = (deq x y && deqL xs ys) := by simp [deqL]
theorem e_deql_nc : deqL [] (y :: ys) = false := by simp [deqL]
theorem e_deql_cn : deqL (x :: xs) [] = false := by simp [deqL]
theorem e_isN : oIsN p x .non M Q = Q (.bl (p != isNonD x)) M := rfl
theorem e_ix_l : oIx (.lst xs) (.int i) M Q = ∃ d, atI xs i = some d ∧ Q d M := rfl
theorem e_ix_t : oIx (.tup xs) (.int i) M Q = ∃ d, atI xs i = some d ∧ Q d M := rfl
theorem e_ix_c : oIx (.scr ns) (.int i) M Q = ∃ d, atI ns i = some d ∧ Q (.int d) M := rfl
theorem e_ix_s : oIx (.str s) (.int i) M Q = (s.length ≤ sizeLine ∧ ∃ c, atI s i = some c ∧ Q (.str [c]) M) := rfl
theorem e_ix_d : oIx (.dic kv) x M Q = ∃ d, dfind (.dic kv) x = some (some d) ∧ Q d M := by cases x <;> rfl
theorem e_ix_dt : oIx (.dit kt) x M Q = ∃ d, dfind (.dit kt) x = some (some d) ∧ Q d M := by cases x <;> rfl
theorem e_in_l : oIn p x (.lst ys) M Q = ((flatD x = true ∧ ys.all flatD = true ∨ cmpOk x = true ∧ cmpOk (.lst ys) = true) ∧ Q (.bl (p != ys.any fun y => deq y x)) M) := by cases x <;> rfl
theorem e_in_t : oIn p x (.tup ys) M Q = ((flatD x = true ∧ ys.all flatD = true ∨ cmpOk x = true ∧ cmpOk (.tup ys) = true) ∧ Q (.bl (p != ys.any fun y => deq y x)) M) := by cases x <;> rfl
theorem e_in_s : oIn p (.str [c]) (.str s) M Q = Q (.bl (p != decide (c ∈ s))) M := rfl
theorem e_in_d : oIn p x (.dic kv) M Q = ∃ o, dfind (.dic kv) x = some o ∧ Q (.bl (p != o.isSome)) M := by cases x <;> rfl
theorem e_in_dt : oIn p x (.dit kt) M Q = ∃ o, dfind (.dit kt) x = some o ∧ Q (.bl (p != o.isSome)) M := by cases x <;> rfl
theorem e_sl_l : oSl (.lst xs) lo hi M Q = Q (.lst (dcut xs lo hi)) M := rfl
theorem e_sl_t : oSl (.tup xs) lo hi M Q = (¬ (HT.sIx xs.length 0 lo = 0 ∧ HT.sIx xs.length xs.length hi = xs.length) ∧ Q (.tup (dcut xs lo hi)) M) := rfl
theorem e_sl_s : oSl (.str s) lo hi M Q = (s.length ≤ sizeLine ∧ Q (.str (dcut s lo hi)) M) := rfl
theorem e_len_lst : oLen (.lst xs) M Q = Q (.int xs.length) M := rfl
theorem e_len_tup : oLen (.tup xs) M Q = Q (.int xs.length) M := rfl
theorem e_len_s : oLen (.str s) M Q = (s.length ≤ sizeLine ∧ Q (.int s.length) M) := rfl
theorem e_len_c : oLen (.scr ns) M Q = Q (.int ns.length) M := rfl
theorem e_len_d : oLen (.dic kv) M Q = Q (.int kv.length) M := rfl
theorem e_int_i : oInt (.int i) M Q = Q (.int i) M := rfl
theorem e_abs_i : oAbs (.int i) M Q = Q (.int (if i < 0 then -i else i)) M := rfl
theorem e_str_i : oStr (.int i) M Q = (i.natAbs.log2 < 1920 ∧ Q (.str (numS i)) M) := rfl
theorem e_tup_l : oTupOf (.lst xs) M Q = Q (.tup xs) M := rfl
theorem e_tup_t : oTupOf (.tup xs) M Q = Q (.tup xs) M := rfl
theorem e_oLst0_l : oLst0 (.lst xs) M Q = (Q (.lst xs) M) := rfl
theorem e_oLst0_t : oLst0 (.tup xs) M Q = (Q (.lst xs) M) := rfl
theorem e_oLst0M_l : oLst0M (.lst xs) M Q = (∀ p, M p = none → Q (.ref p) (mset M p (.lst xs))) := rfl
theorem e_oLst0M_t : oLst0M (.tup xs) M Q = (∀ p, M p = none → Q (.ref p) (mset M p (.lst xs))) := rfl
theorem e_set_l : setMO (.lst xs) (.int i) d M QM = ∃ j, ixN xs.length i = some j ∧ QM (.lst (xs.set j d)) := rfl
theorem e_set_d : setMO (.dic kv) x d M QM = ∃ k, dkey x = some k ∧ kv.length < sizeLine ∧ QM (.dic (dpu kv k d)) := by cases x <;> rfl
theorem e_set_t : setMO (.dit kt) (.tup xs) d M QM = ∃ k, dkeys xs = some k ∧ kt.length < sizeLine ∧ QM (.dit (dpu kt k d)) := rfl
theorem e_key_i : dkey (.int i) = some (.inl i) := rfl
theorem e_key_s : dkey (.str s) = some (.inr s) := rfl
theorem e_isT_non_bool : isT .non .bool = false := rfl
theorem e_isT_non_int : isT .non .int = false := rfl
theorem e_isT_non_str : isT .non .str = false := rfl
theorem e_isT_non_list : isT .non .list = false := rfl
theorem e_isT_non_tuple : isT .non .tuple = false := rfl
theorem e_isT_non_dict : isT .non .dict = false := rfl
theorem e_isT_bool_bool : isT .bool .bool = true := rfl
theorem e_isT_bool_int : isT .bool .int = true := rfl
theorem e_isT_bool_str : isT .bool .str = false := rfl
theorem e_isT_bool_list : isT .bool .list = false := rfl
theorem e_isT_bool_tuple : isT .bool .tuple = false := rfl
theorem e_isT_bool_dict : isT .bool .dict = false := rfl
theorem e_isT_int_bool : isT .int .bool = false := rfl
theorem e_isT_int_int : isT .int .int = true := rfl
theorem e_isT_int_str : isT .int .str = false := rfl
theorem e_isT_int_list : isT .int .list = false := rfl
theorem e_isT_int_tuple : isT .int .tuple = false := rfl
theorem e_isT_int_dict : isT .int .dict = false := rfl
theorem e_isT_str_bool : isT .str .bool = false := rfl
theorem e_isT_str_int : isT .str .int = false := rfl
theorem e_isT_str_str : isT .str .str = true := rfl
theorem e_isT_str_list : isT .str .list = false := rfl
theorem e_isT_str_tuple : isT .str .tuple = false := rfl
theorem e_isT_str_dict : isT .str .dict = false := rfl
theorem e_isT_list_bool : isT .list .bool = false := rfl
theorem e_isT_list_int : isT .list .int = false := rfl
theorem e_isT_list_str : isT .list .str = false := rfl
theorem e_isT_list_list : isT .list .list = true := rfl
theorem e_isT_list_tuple : isT .list .tuple = false := rfl
theorem e_isT_list_dict : isT .list .dict = false := rfl
theorem e_isT_tuple_bool : isT .tuple .bool = false := rfl
theorem e_isT_tuple_int : isT .tuple .int = false := rfl
theorem e_isT_tuple_str : isT .tuple .str = false := rfl
theorem e_isT_tuple_list : isT .tuple .list = false := rfl
theorem e_isT_tuple_tuple : isT .tuple .tuple = true := rfl
theorem e_isT_tuple_dict : isT .tuple .dict = false := rfl
theorem e_isT_dict_bool : isT .dict .bool = false := rfl
theorem e_isT_dict_int : isT .dict .int = false := rfl
theorem e_isT_dict_str : isT .dict .str = false := rfl
theorem e_isT_dict_list : isT .dict .list = false := rfl
theorem e_isT_dict_tuple : isT .dict .tuple = false := rfl
theorem e_isT_dict_dict : isT .dict .dict = true := rfl
theorem e_lt : oLt (.int i) (.int j) M Q = Q (.bl (decide (i < j))) M := rfl
theorem e_le : oLe (.int i) (.int j) M Q = Q (.bl (decide (i ≤ j))) M := rfl
theorem e_gt : oGt (.int i) (.int j) M Q = Q (.bl (decide (j < i))) M := rfl
theorem e_ge : oGe (.int i) (.int j) M Q = Q (.bl (decide (j ≤ i))) M := rfl
theorem ifF {c : Prop} {i : Decidable c} {a b : Prop} (h : ¬ c) (q : b) : @ite Prop c i a b := by rw [if_neg h]; exact q
theorem ifT {c : Prop} {i : Decidable c} {a b : Prop} (h : c) (q : a) : @ite Prop c i a b := by rw [if_pos h]; exact q
theorem gen_nx {t : TDS} {D : DEnds} {ρ : DEnv} {M : Mp} (h : ∀ R : DEnv → Mp → Prop, (∀ ρ M, D.nx ρ M → R ρ M) → t { D with nx := R } ρ M) : t D ρ M := h D.nx fun _ _ z => z
end
end DL


set_option Elab.async false
set_option linter.all false
set_option maxRecDepth 100000
set_option maxHeartbeats 1000000
namespace PySem
namespace XO
open PySem.W PySem.Calls PyProof.Rows PySem.HandSPX
open Builtin Builtin.ObjectAttr
section
variable {prog : Program} {w : World} {A : Around} {E : Value → Shared → Prop} {R : Result → Shared → Prop} {hp : Heap} {g : Array GenState} {d : Drawn} {t : Nat} {os : OsState} {bmB : List Value} {B : String}
theorem xosa_new {K : W.Frag} {name : Str} {tk : Tok} {v : Value} {x C : Addr} {fv : Array Value} {cd : ClassData} (SB : StoreFacts B bmB "object.__setattr__" "object")
    (X : K.In hp) (hx : hp.get? x = some { cls := .ref C, data := .fields fv }) (hcd : W.clsIn K C = some cd) (hm : excTail bmB cd.mro = true) (ho : bmB.contains (.type "object") = true) (hh : cd.hasDict = true) (ha : W.findIn K (.ref C) name = some none)
    (hq : ∀ h' tk' dx, (∀ b o, b ≠ x → hp.get? b = some o → h'.get? b = some o) → hp.objs.size ≤ dx → dx ≠ x → h'.get? x = some { cls := .ref C, dict := some dx, data := .fields fv } →
      h'.Ns1 dx (fun y => if y = name then some v else none) → R (.ok (.ret .none)) ⟨h', g, d, tk', os⟩) :
    codeAny (model prog w) A (.call (.builtin "object.__setattr__") ⟨[.ref x, .str name tk, v], []⟩) R ⟨hp, g, d, t, os⟩ := by
  have I : W.InstAt hp x { cls := .ref C, data := .fields fv } C none := ⟨hx, rfl, rfl, trivial⟩
  have SF := F.store_object
  have hob : cd.mro.contains (.type "object") = true := (excTail_contains "object" _ hm).trans ho
  have ne : cd.mro.isEmpty = false := by
    cases e : cd.mro with
    | nil => rw [e] at hob; cases hob
    | cons _ _ => rfl
  have hxs : x ≠ hp.objs.size := Nat.ne_of_lt (Heap.lt_size hx)
  have sub : W.Looks (model prog w) hp (isInstance (.ref x) (.type "object")) true := I.type.andThen (W.looks_mroIn X (by unfold W.mroIn; rw [hcd, Option.bind_some, if_neg (by rw [ne]; decide), hob]))
  refine codeAny_call_builtin SF.slot.plain SF.entry (@W.check_slot (model prog w) _ _ ⟨hp, g, d, t, os⟩ "object.__setattr__" "object" "__setattr__" (.ref x) [.str name tk, v] [] _ SF.kind SF.split sub (SF.args (.ref x) (.str name tk) v) ?_)
  have hmr : W.Looks (model prog w) hp (mroOf (.ref C)) cd.mro := (W.looks_clsIn X hcd).andThen .now
  have L3 : W.Looks (model prog w) hp (storeTaker? none) none := .now
  have hcls : W.Looks (model prog w) hp (classData C) cd := W.looks_clsIn X hcd
  rw [W.osa_eq, refuse_eq]
  refine wpAny_bind (wpAny_bind (I.type.at (wpAny_bind (hmr.at ?_))))
  rw [excTail_pass _ (SB.passes _) _ hm]
  refine wpAny_pure (wpAny_bind (I.type.at (wpAny_bind ((W.looks_findIn X ha).at (wpAny_bind (L3.at ?_))))))
  show wpAny _ _ (storeInOwnDict (.ref x) (.ref C) (.str name tk) name v false) _ _ _
  obtain ⟨nm, bs, mro, ns, qn, hd, sn, sb, ab, col, del⟩ := cd
  dsimp only at hh
  subst hh
  unfold storeInOwnDict ownDictForStores
  repeat (first | with_reducible refine store_in_new ?_ ?_ | with_reducible refine wpAny_loadPart_at hx ?_ | with_reducible refine hcls.at ?_ | wp_step)
  · exact ⟨_, #[], _, (Heap.get?_update_ne _ _ _ _ hxs.symm).trans (Heap.get?_push_at rfl rfl), rfl, fun e he => absurd he (by simp), fun _ => rfl⟩
  · intro h' tk' hn' hs
    have hx₁ : (hp.push { cls := .type "dict", data := .dict #[] }).get? x = some { cls := .ref C, data := .fields fv } := Heap.get?_push_of_some _ hx
    refine hq h' tk' hp.objs.size (fun b o hb ho => ?_) (Nat.le_refl _) hxs.symm ?_ hn'
    · exact (hs.2 b (Nat.ne_of_lt (Heap.lt_size ho))).trans ((Heap.get?_update_ne _ _ _ _ hb).trans (Heap.get?_push_of_some _ ho))
    · exact (hs.2 x hxs).trans (Heap.get?_update_self _ hx₁ rfl)
theorem xosa_old {K : W.Frag} {name : Str} {tk : Tok} {v : Value} {x C dx : Addr} {fv : Array Value} {cd : ClassData} {m0 : Str → Option Value} {nl : List Str} (SB : StoreFacts B bmB "object.__setattr__" "object")
    (X : K.In hp) (hx : hp.get? x = some { cls := .ref C, dict := some dx, data := .fields fv }) (hns : hp.Ns1 dx m0) (hw : Within m0 nl) (hz : nl.length ≤ 1000) (hcd : W.clsIn K C = some cd) (hm : excTail bmB cd.mro = true) (ho : bmB.contains (.type "object") = true) (hh : cd.hasDict = true)
    (ha : W.findIn K (.ref C) name = some none)
    (hq : ∀ h' tk', (∀ b o, b ≠ dx → hp.get? b = some o → h'.get? b = some o) → h'.Ns1 dx (fun y => if y = name then some v else m0 y) → R (.ok (.ret .none)) ⟨h', g, d, tk', os⟩) :
    codeAny (model prog w) A (.call (.builtin "object.__setattr__") ⟨[.ref x, .str name tk, v], []⟩) R ⟨hp, g, d, t, os⟩ := by
  obtain ⟨oD, esD, epD, hoD, hdD, _⟩ := hns.count hw
  have I : W.InstAt hp x { cls := .ref C, dict := some dx, data := .fields fv } C (some oD) := ⟨hx, rfl, rfl, hoD⟩
  have SF := F.store_object
  have hob : cd.mro.contains (.type "object") = true := (excTail_contains "object" _ hm).trans ho
  have ne : cd.mro.isEmpty = false := by
    cases e : cd.mro with
    | nil => rw [e] at hob; cases hob
    | cons _ _ => rfl
  have sub : W.Looks (model prog w) hp (isInstance (.ref x) (.type "object")) true := I.type.andThen (W.looks_mroIn X (by unfold W.mroIn; rw [hcd, Option.bind_some, if_neg (by rw [ne]; decide), hob]))
  refine codeAny_call_builtin SF.slot.plain SF.entry (@W.check_slot (model prog w) _ _ ⟨hp, g, d, t, os⟩ "object.__setattr__" "object" "__setattr__" (.ref x) [.str name tk, v] [] _ SF.kind SF.split sub (SF.args (.ref x) (.str name tk) v) ?_)
  have hmr : W.Looks (model prog w) hp (mroOf (.ref C)) cd.mro := (W.looks_clsIn X hcd).andThen .now
  have L3 : W.Looks (model prog w) hp (storeTaker? none) none := .now
  have hcls : W.Looks (model prog w) hp (classData C) cd := W.looks_clsIn X hcd
  rw [W.osa_eq, refuse_eq]
  refine wpAny_bind (wpAny_bind (I.type.at (wpAny_bind (hmr.at ?_))))
  rw [excTail_pass _ (SB.passes _) _ hm]
  refine wpAny_pure (wpAny_bind (I.type.at (wpAny_bind ((W.looks_findIn X ha).at (wpAny_bind (L3.at ?_))))))
  show wpAny _ _ (storeInOwnDict (.ref x) (.ref C) (.str name tk) name v false) _ _ _
  obtain ⟨nm, bs, mro, ns, qn, hd, sn, sb, ab, col, del⟩ := cd
  dsimp only at hh
  subst hh
  unfold storeInOwnDict ownDictForStores
  repeat (first | with_reducible refine PySem.OEX.store_in_old hns hw hz ?_ | with_reducible refine wpAny_loadPart_at hx ?_ | with_reducible refine hcls.at ?_ | wp_step)
  intro h' tk' hn' hs
  exact hq h' tk' (fun b o hb ho => (hs.2 b hb).trans ho) hn'
end
/-! ### super().__init__(..) -/
section
variable {prog : Program} {w : World} {A : Around} {E : Value → Shared → Prop} {s : Shared} {h : Heap} {g : Array GenState} {d : Drawn} {t : Nat} {os : OsState} {K : Frag}
/-- super(), plainly -/
theorem xsuper {body : List Stmt} {q : Str} {scope : Scope} {p0 p1 : Pos} {attr : Str} {whole : Sem Value} {fd : FuncData} {ar : Arg} {vs : Array Value} {file : Str} {tf : Tok} {oc ccl cl : Value} {od cdd cld : Option Addr} {osl ccs csl : Array (Option Value)} {cdD : ClassData} {Q : Value → Shared → Prop}
    {L x C D f cda cc : Addr} {m mg mb : Str → Option Value} {ox : Obj} {odx : Option Obj}
    (X : K.In h) (hns : h.Ns L m) (hG : h.Ns mainGlobals mg) (hB : h.Ns builtinsNs mb) (hsg : mg "super" = none) (hsb : mb "super" = some (.type "super"))
    (hf : K.lookup f = some ⟨oc, od, .func fd, osl⟩) (hp : (fd.params.posonlyargs ++ fd.params.args).head? = some ar) (hv : m ar.arg = some (.ref x)) (I : InstAt h x ox C odx)
    (hcode : K.lookup cda = some ⟨ccl, cdd, .fields vs, ccs⟩) (hvs : vs[2]? = some (.str file tf)) (hfile : ((prog.main.file : Str) == file) = true)
    (hcell : K.lookup cc = some ⟨cl, cld, .cell (some (.ref D)), csl⟩) (hD : clsIn K D = some cdD) (hsub : mroIn K C (.ref D) = some true)
    (hat : (attr == ("__class__" : Str)) = false) (hks : scope.names.lookup ("super" : Str) = some .globalImplicit) (hkc : scope.names.lookup ("__class__" : Str) = some .free) (hka : scope.names.lookup ar.arg = some .local) (hk : scope.kind = .function)
    (htop : (prog.main.scope.names.lookup ("super" : Str)).isSome = false)
    (hq : ∀ h', h'.get? h.objs.size = some (ks_superObj D x C) → (∀ b o, h.get? b = some o → h'.get? b = some o) → Q (.ref h.objs.size) ⟨h', g, d, t, os⟩) :
    _root_.PySem.wpAt (model prog w) A (.func body (ksEnv q scope L f (.ref cda) cc)) (attributeBase (.Call (.Name "super" p0) [] [] p1) attr (ksEnv q scope L f (.ref cda) cc) whole) Q E ⟨h, g, d, t, os⟩ := by
  obtain ⟨oD, hD1, hD2⟩ : ∃ oD, h.get? D = some oD ∧ oD.data = .cls cdD := by
    unfold clsIn at hD
    split at hD
    · rename_i c d cd' sl ho
      cases hD
      exact ⟨_, X _ _ ho, rfl⟩
    · cases hD
  refine ks_wpAt_super_base (env := ksEnv q scope L f (.ref cda) cc) hks hkc hat rfl (X _ _ hf) rfl hp rfl (X _ _ hcode) rfl hvs hfile htop ?_
  refine ks_loadName_global hk hks (loadGlobal_builtin (env := ksEnv q scope L f (.ref cda) cc) hG hsg hB hsb ⟨rfl, ?_⟩)
  refine wpAny_loadName_free hk hkc rfl ⟨_, X _ _ hcell, rfl⟩ ?_
  refine wpAny_loadName_local hk hka hns hv ?_
  refine ks_wpAny_isType_cls hD1 hD2 ⟨rfl, ?_⟩
  refine ks_wpAny_call_super hD1 hD2 I.at_ I.cls (fun c e => ?_) (looks_mroIn X hsub) (fun h' e k => hq h' e k)
  have := I.no
  unfold notCls at this
  rw [e] at this
  exact Bool.noConfusion this
/-- the bound __init__ called -/
theorem xcall_mw {B newId initId : String} {bmB : List Value} (FB : ExcBaseFacts B newId initId bmB) {nm q : Str} {C N : Addr} {bs bm : List Value} {hdct : Bool} {sn : List Str} {sub : List Value} {ab : Bool} {col : Option Bool} {dd : Option Addr} {k0 k1 k2 k3 k5 : Option Value} {u e t0 : Addr} {rest : List Value} {Q : Value → Shared → Prop}
    (hC : h.get? C = some (excClassObj nm q C N bs bm hdct sn sub ab col dd k0 k1 k2 k3 k5 newId)) (he : h.get? e = some (excO C t0)) (hu : h.get? u = some (kxs_mw initId e)) (hrest : rest.length ≤ sizeLine)
    (hq : ∀ h' t1, (∀ b o, b ≠ e → h.get? b = some o → h'.get? b = some o) → h'.get? e = some (excO C t1) → Q .none ⟨h', g, d, t, os⟩) :
    wpAny (model prog w) A (call (.ref u) rest) Q E ⟨h, g, d, t, os⟩ := by
  refine wpAny_call (codeAny_of_tree ?_)
  show wpAny _ A.in1 (callAny (.ref u) ⟨rest, []⟩) _ _ _
  simp only [callAny]
  refine wpAny_bind (wpAny_load hu ?_)
  simp only [kxs_mw, show (Value.type "method-wrapper" == Value.type "method" || Value.type "method-wrapper" == Value.type "builtin_function_or_method" || Value.type "method-wrapper" == Value.type "method-wrapper") = true by decide, if_true]
  refine KFB.if_so (by decide) ?_
  refine wpAny_bind (check_bound_init FB.toExcCallFacts hC he rfl ?_)
  refine wpAny_bind (wpAny_pure (wpAny_pure ?_))
  refine ⟨plainId_quiet FB.init.plain _, codeAny_builtin FB.initEntry ?_⟩
  exact exc_init_tree (cls := .ref C) (t0 := t0) (dv := none) (c2 := .none) (c3 := .none) (b4 := .bool false) he hrest fun h' k e' _ => hq h' _ k e'
end
end XO
end PySem


set_option Elab.async false
set_option linter.all false
set_option maxRecDepth 100000
set_option maxHeartbeats 1000000
namespace DL
open PySem PySem.Spec PyProof.Rows L2
/-- what the written part says of an own exception's class over the built-in B -/
structure XCls (K : PySem.W.Frag) (C : Addr) (B newId initId : String) (bmB : List Value) : Prop where
  F : ExcBaseFacts B newId initId bmB
  SB : StoreFacts B bmB "object.__setattr__" "object"
  KF : PySem.W.KxsFacts B initId
  ob : bmB.contains (.type "object") = true
  cls : ∃ nm q N bs bm sn sub ab col dd k0 k1 k2 k3 k5, K.lookup C = some (excClassObj nm q C N bs bm true sn sub ab col dd k0 k1 k2 k3 k5 newId) ∧ PySem.W.excTail bmB bm = true
  sa : PySem.W.findIn K (.ref C) "__setattr__" = some (some (.builtin "object.__setattr__"))
  exC : PySem.W.subIn K (.ref C) (.type "BaseException") = some true
  exB : PySem.W.subIn K (.ref C) (.type B) = some true
  tyC : PySem.W.typeIn K (.ref C) = some (.type "type")
  kC : PySem.W.keepIn K (.ref C) = true
/-- what it says of the class's own __init__, at f -/
structure XIni (P : Program) (K : PySem.W.Frag) (C f : Addr) (initId : String) (name qual : Str) (params : Arguments) (body : List Stmt) (scope : Scope) (cda cc : Addr) (fd : FuncData) : Prop where
  fn : ∃ (oc : Value) (od : Option Addr) (kV doc pm ct : Value) (an : Option Addr) (osl : Array (Option Value)), fd = PySem.W.ksFn name qual params body scope .none kV doc pm an (.ref cda) ct cc ∧ K.lookup f = some ⟨oc, od, .func fd, osl⟩
  cd : PySem.W.codeIn K (.ref cda) qual = true
  code : ∃ (ccl : Value) (cdd : Option Addr) (vs : Array Value) (ccs : Array (Option Value)) (file : Str) (tf : Tok), K.lookup cda = some ⟨ccl, cdd, .fields vs, ccs⟩ ∧ vs[2]? = some (.str file tf) ∧ ((P.main.file : Str) == file) = true
  cell : ∃ (cl : Value) (cld : Option Addr) (csl : Array (Option Value)), K.lookup cc = some ⟨cl, cld, .cell (some (.ref C)), csl⟩
  sup : PySem.W.ks_superIn K C C "__init__" = some (some (.builtin initId))
  opq : PySem.W.nsIn K PySem.cStatics "thirdparty.any" = some none
  ini : PySem.W.findIn K (.ref C) "__init__" = some (some (.ref f))
  ty : PySem.W.typeIn K (.ref f) = some (.type "function")
  mro : PySem.W.mroIn K C (.ref C) = some true
  top : (P.main.scope.names.lookup ("super" : Str)).isSome = false
theorem XIni.binds {P : Program} {K : PySem.W.Frag} {C f cda cc : Addr} {initId : String} {name qual : Str} {params : Arguments} {body : List Stmt} {scope : Scope} {fd : FuncData} {ps : List Str} (Y : XIni P K C f initId name qual params body scope cda cc fd)
    (h : ∀ (kV doc pm ct : Value) (an : Option Addr) (us : List Value), us.length = ps.length → bindArgs (PySem.W.ksFn name qual params body scope .none kV doc pm an (.ref cda) ct cc) ⟨us, []⟩ = pure (ps.zip us)) : Binds K fd ps [] := by
  obtain ⟨oc, od, kV, doc, pm, ct, an, osl, rfl, lk⟩ := Y.fn
  exact .all fun us hl => h kV doc pm ct an us hl
structure FnScopeX (N P : List Str) (sc : Scope) : Prop where
  kind : sc.kind = .function
  co : sc.isCoroutine = false
  gen : sc.isGenerator = false
  nd : N.Nodup
  pre : N.take P.length = P
  par : ∀ x ∈ P, sc.names.lookup x = some .local
  nocell : ∀ y ∈ sc.names, y.2 ≠ .cell
  ofree : ∀ y ∈ sc.names, y.2 = .free → y.1 = ("__class__" : Str)
  sup : sc.names.lookup ("super" : Str) = some .globalImplicit
  cls : sc.names.lookup ("__class__" : Str) = some .free
def cxX (CX : CXT) (P : Program) (w : World) (K : PySem.W.Frag) (mg : Str → Option Value) (base : Heap) (N : List Str) (qual : Str) (scope : Scope) (f cda cc : Addr) (A : Around) (outer : List Env) (s : Shared) (H : Hp) (E : XK) : Cx where
  prog := P
  w := w
  K := K
  mg := mg
  base := base
  A := A.deeper (PySem.W.ksEnv qual scope s.heap.objs.size f (.ref cda) cc)
  N := N
  s_0 := s
  H_0 := H
  env := PySem.W.ksEnv qual scope s.heap.objs.size f (.ref cda) cc
  outer := outer
  stack := PySem.W.ksEnv qual scope s.heap.objs.size f (.ref cda) cc :: outer
  ex := []
  calm := true
  fn := fun x => !(x == ("__class__" : Str))
  pn := []
  xe := fun e s' => wpAny (model P w) (A.deeper (PySem.W.ksEnv qual scope s.heap.objs.size f (.ref cda) cc)) (leaving (PySem.W.ksEnv qual scope s.heap.objs.size f (.ref cda) cc) e) (fun _ s'' => CX outer H s E e s'') (fun e' s'' => CX outer H s E e' s'') s'
theorem lookup_snoc {α : Type} {y p : Str} {w : α} : ∀ {l : List (Str × α)}, (l ++ [(p, w)]).lookup y = match l.lookup y with
    | some v => some v
    | none => if y = p then some w else none
  | [] => by
    show (match y == p with | true => some w | false => none) = _
    by_cases h : y = p
    · subst h; simp
    · have h' : (y == p) = false := by simpa using h
      rw [h', if_neg h]; rfl
  | (q, v) :: r => by
    show (match y == q with | true => some v | false => (r ++ [(p, w)]).lookup y) = match (match y == q with | true => some v | false => r.lookup y) with
      | some v => some v
      | none => if y = p then some w else none
    cases h : (y == q)
    · exact lookup_snoc
    · rfl
theorem lookup_nil_of {α : Type} {y : Str} : ∀ {l : List (Str × α)}, (∀ v, (y, v) ∉ l) → l.lookup y = none
  | [], _ => rfl
  | (q, v) :: r, h => by
    show (match y == q with | true => some v | false => r.lookup y) = none
    have hq : (y == q) = false := by
      simp only [beq_eq_false_iff_ne, ne_eq]
      intro e; exact h v (by rw [e]; simp)
    rw [hq]
    exact lookup_nil_of fun v hv => h v (List.mem_cons_of_mem _ hv)
theorem zip_rev_get : ∀ {ps : List Str} {us : List Value} {i : Nat} {y : Str} {u : Value}, ps.Nodup → ps[i]? = some y → us[i]? = some u → (ps.zip us).reverse.lookup y = some u
  | [], _, _, _, _, _, h, _ => by simp at h
  | _ :: _, [], _, _, _, _, _, h => by simp at h
  | p :: ps, x :: us, 0, y, u, nd, h1, h2 => by
    simp only [List.getElem?_cons_zero, Option.some.injEq] at h1 h2
    subst h1 h2
    rw [List.zip_cons_cons, List.reverse_cons, lookup_snoc, lookup_nil_of fun v hv => (List.nodup_cons.mp nd).1 (List.of_mem_zip (List.mem_reverse.mp hv)).1]
    simp
  | p :: ps, x :: us, i + 1, y, u, nd, h1, h2 => by
    simp only [List.getElem?_cons_succ] at h1 h2
    rw [List.zip_cons_cons, List.reverse_cons, lookup_snoc, zip_rev_get (List.nodup_cons.mp nd).2 h1 h2]
section
variable {CX : CXT} {P : Program} {w : World} {K : PySem.W.Frag} {mg : Str → Option Value} {base : Heap} {N ps : List Str} {qual name : Str} {scope : Scope} {f cda cc C : Addr} {A : Around} {outer : List Env} {s : Shared} {H : Hp} {E : XK} {us : List Value} {vs : List V} {B newId initId : String} {bmB : List Value} {params : Arguments} {body rest : List Stmt} {fd : FuncData}
theorem inv_startX (S : FnScopeX N ps scope) (hd : A.handled = none) (e0 : Env0 P w K mg base A outer s H) (hl : vs.length = ps.length) (r : Vals vs us) (hcell : ∃ (cl : Value) (cld : Option Addr) (csl : Array (Option Value)) (v : Value), K.lookup cc = some ⟨cl, cld, .cell (some v), csl⟩)
    {h₀ : Heap} {t : Nat} (hns : h₀.Ns s.heap.objs.size (fun x => (ps.zip us).reverse.lookup x)) (hk : ∀ b o, s.heap.get? b = some o → h₀.get? b = some o) :
    Inv (cxX CX P w K mg base N qual scope f cda cc A outer s H E) [] (L2.start N vs) H { s with heap := h₀, toks := t } := by
  have hpl : ps.length ≤ N.length := by have := congrArg List.length S.pre; rw [List.length_take] at this; omega
  obtain ⟨cl, cld, csl, v0, hcc⟩ := hcell
  have noA : ∀ b : Addr, b ∉ (cxX CX P w K mg base N qual scope f cda cc A outer s H E).ex := fun b z => absurd (show b ∈ ([] : List Addr) from z) (by simp)
  have cl1 : ∀ {x : Str} {c : Addr}, (cxX CX P w K mg base N qual scope f cda cc A outer s H E).env.cells.lookup x = some c → x = ("__class__" : Str) ∧ c = cc := fun {x c} h => by
    have h' : (match x == ("__class__" : Str) with | true => some cc | false => none) = some c := h
    cases e : (x == ("__class__" : Str)) with
    | false => rw [e] at h'; cases h'
    | true => rw [e] at h'; exact ⟨eq_of_beq e, (Option.some.inj h').symm⟩
  have ccb := e0.bs cc _ (e0.mod.kin _ _ hcc)
  refine ⟨⟨e0.mod, S.kind, rfl, rfl, Nat.le_refl _, fun y z c h1 h2 => (cl1 h1).1.trans (cl1 h2).1.symm, fun y hy => ?_, fun y c hf h => ?_, fun _ => hd, Around.frames_deeper e0.frames, .inr ⟨rfl, rfl⟩, fun b z => absurd z (noA b), e0.bs, e0.bsz, fun b _ _ => noA b, fun b z => absurd z (noA b), e0.funs, e0.frf⟩,
    rfl, e0.bare, Un.kept hk, ⟨_, hns, fun i y v h1 h2 h3 => ?_⟩, fun y c h => ?_, e0.hok.fresh (Nat.le_refl _), fun y c h => ?_, fun p hp => absurd (show p ∈ ([] : List (Addr × Obj)) from hp) (by simp), e0.hok.kept hk, ?_⟩
  · have hy : scope.names.lookup y = some .cell ∨ scope.names.lookup y = some .free := hy
    rcases hy with hy | hy
    · exact absurd rfl (S.nocell _ (PySem.mem_of_lookup hy))
    · have := S.ofree _ (PySem.mem_of_lookup hy) rfl
      subst this
      exact ⟨cc, rfl⟩
  · have e := (cl1 h).1
    subst e
    exact absurd (show (!(Str.ofString "__class__" == ("__class__" : Str))) = true from hf) (by decide)
  · have hi : i < vs.length := by
      unfold L2.start at h2
      by_cases hi : i < vs.length
      · exact hi
      · rw [List.getElem?_append_right (by simpa using hi)] at h2
        rw [List.getElem?_replicate] at h2
        split at h2 <;> cases h2
    have ha : vs[i]? = some v := by
      unfold L2.start at h2
      rw [List.getElem?_append_left (by simpa using hi), List.getElem?_map] at h2
      cases e : vs[i]? with
      | none => rw [e] at h2; cases h2
      | some a => rw [e] at h2; cases h2; rfl
    obtain ⟨u, hu, rv⟩ := r.get ha
    have hp : ps[i]? = some y := by
      rw [← S.pre, List.getElem?_take_of_lt (by omega)]; exact h1
    have ndP : ps.Nodup := by rw [← S.pre]; exact S.nd.sublist (List.take_sublist _ _)
    exact ⟨u, rv, .inl ⟨S.par y (List.mem_of_getElem? hp), zip_rev_get ndP hp hu⟩⟩
  · obtain ⟨rfl, rfl⟩ := cl1 h
    exact ⟨some v0, ⟨_, hk _ _ ccb.1, rfl⟩⟩
  · obtain ⟨rfl, rfl⟩ := cl1 h
    exact ccb.2
  · unfold L2.start
    show _ = N.length
    rw [List.length_append, List.length_map, List.length_replicate]
    omega
/-- super().__init__(e), the first row of such an __init__ -/
theorem at_sup {pl : Sem Bool} {p0 p1 p2 p3 p4 : Pos} {e : Expr} {te : TE} {a : Addr} {ar : Arg} {σ : L2.St} {H1 : Hp} {s1 : Shared} {Q : Flow → Shared → Prop} (T : XCls K C B newId initId bmB) (Y : XIni P K C f initId name qual params body scope cda cc fd) (S : FnScopeX N ps scope)
    (har : (params.posonlyargs ++ params.args).head? = some ar) (hN : N[0]? = some ar.arg) (hka : scope.names.lookup ar.arg = some .local) (hsm : mg "super" = none)
    (I : Inv (cxX CX P w K mg base N qual scope f cda cc A outer s H E) [] σ H1 s1) (hσ : σ[0]? = some (some (.ref a))) (ha : H1 a = some (exo a C none))
    (he : PE (cxX CX P w K mg base N qual scope f cda cc A outer s H E) e te)
    (hq : te σ H1 fun _ H2 => H2 a = some (exo a C none) ∧ ∀ s2, Inv (cxX CX P w K mg base N qual scope f cda cc A outer s H E) [] σ H2 s2 → Q .next s2)
    (hev : eval (.Call (.Attribute (.Call (.Name "super" p0) [] [] p1) "__init__" p2) [e] [] p3) (PySem.W.ksEnv qual scope s.heap.objs.size f (.ref cda) cc) = (do
      let ov ← attributeBase (.Call (.Name "super" p0) [] [] p1) "__init__" (PySem.W.ksEnv qual scope s.heap.objs.size f (.ref cda) cc) (eval (.Call (.Name "super" p0) [] [] p1) (PySem.W.ksEnv qual scope s.heap.objs.size f (.ref cda) cc))
      standAt p2.atName
      let (fx, first) ← holding [ov] (getMethod ov "__init__" pl)
      callWith p3 fx first (backTo p3 (starEach [e] (PySem.W.ksEnv qual scope s.heap.objs.size f (.ref cda) cc))) []))
    (hi : interactive (PySem.W.ksEnv qual scope s.heap.objs.size f (.ref cda) cc) = false := by rfl) (hs : swapsWith (.Call (.Attribute (.Call (.Name "super" p0) [] [] p1) "__init__" p2) [e] [] p3) none p4.line (PySem.W.ksEnv qual scope s.heap.objs.size f (.ref cda) cc) = pure false := by rfl)
    (hst : starEach [e] (PySem.W.ksEnv qual scope s.heap.objs.size f (.ref cda) cc) = (false, eval e (PySem.W.ksEnv qual scope s.heap.objs.size f (.ref cda) cc)) :: starEach [] (PySem.W.ksEnv qual scope s.heap.objs.size f (.ref cda) cc) := by rfl) :
    _root_.PySem.wpAt (model P w) (A.deeper (PySem.W.ksEnv qual scope s.heap.objs.size f (.ref cda) cc)) (.func body (PySem.W.ksEnv qual scope s.heap.objs.size f (.ref cda) cc)) (exec (.Expr (.Call (.Attribute (.Call (.Name "super" p0) [] [] p1) "__init__" p2) [e] [] p3) p4) (PySem.W.ksEnv qual scope s.heap.objs.size f (.ref cda) cc)) Q
      (cxX CX P w K mg base N qual scope f cda cc A outer s H E).xe s1 := by
  obtain ⟨oc, od, kV, doc, pm, ct, an, osl, rfl, lk⟩ := Y.fn
  obtain ⟨ccl, cdd, vv, ccs, file, tf, hcode, hvs, hfile⟩ := Y.code
  obtain ⟨cl, cld, csl, hcell⟩ := Y.cell
  obtain ⟨nm, q, N0, bs, bm, sn, sub, ab, col, dd, k0, k1, k2, k3, k5, hC, hbm⟩ := T.cls
  have hcl : PySem.W.clsIn K C = some { name := nm, bases := bs, mro := .ref C :: bm, ns := N0, qualname := q, hasDict := true, slotNames := sn, subclasses := sub, abstract := ab, collection := col, hasDel := false } := by unfold PySem.W.clsIn; rw [hC] <;> rfl
  have X1 : K.In s1.heap := I.kIn
  obtain ⟨m, hns, hloc⟩ := I.loc
  obtain ⟨u, ru, lu⟩ := hloc 0 ar.arg _ hN hσ (.inl hka)
  have hm : m ar.arg = some (.ref a) := by
    obtain rfl : u = Value.ref a := ru
    rcases lu with ⟨_, h⟩ | ⟨h, _⟩
    · exact h
    · have hk : some NameKind.local = some .cell ∨ some NameKind.local = some .free := by rw [← hka]; exact h
      rcases hk with hk | hk <;> cases hk
  obtain ⟨t1, ho⟩ := exo_at I.hok ha
  have II : PySem.W.InstAt s1.heap a _ C none := ⟨ho, rfl, rfl, trivial⟩
  have mod := I.ok.mod
  obtain ⟨mb, hb1, hb2⟩ := mod.blt
  have hkeep := I.bk
  refine ks_wpAt_Expr_any (ks_wpAt_MethodCall ?_ hev) hi hs
  obtain ⟨hp, g, d, t, os⟩ := s1
  refine PySem.XO.xsuper (D := C) (C := C) X1 hns (mod.glob.keeps hkeep) (hb1.keeps hkeep) hsm ((hb2 _ (by decide +kernel)).trans (by decide +kernel)) lk har hm II hcode hvs hfile hcell hcl Y.mro (by decide +kernel) S.sup S.cls hka S.kind Y.top fun h2 e2 k2 => ?_
  have I2 : Inv (cxX CX P w K mg base N qual scope f cda cc A outer s H E) [] σ H1 ⟨h2, g, d, t, os⟩ := I.kept (t' := t) k2
  have X2 : K.In h2 := I2.kIn
  have II2 : PySem.W.InstAt h2 a _ C none := ⟨k2 _ _ ho, rfl, rfl, trivial⟩
  have hf : PySem.W.alongIn K "__init__" (((Value.ref C :: bm).dropWhile (· != .ref C)).drop 1) = some (some (.builtin initId)) := by
    have z := Y.sup
    unfold PySem.W.ks_superIn at z
    rw [hcl] at z
    exact z
  refine PySem.W.kxs_getMethod T.KF e2 (PySem.W.looks_opaque X2 Y.opq) (l₀ := .ref C :: bm) ((PySem.W.looks_clsIn X2 hcl).andThen .now) rfl X2 hf (II2.type.andThen (PySem.W.looks_subIn X2 T.exB)) (PySem.W.ks_ne X1 II hcl) (by decide +kernel) ?_
  have k3 : ∀ b o, h2.get? b = some o → (h2.push (PySem.W.kxs_mw initId a)).get? b = some o := fun b o z => Heap.get?_push_of_some _ z
  have I3 : Inv (cxX CX P w K mg base N qual scope f cda cc A outer s H E) [] σ H1 ⟨h2.push (PySem.W.kxs_mw initId a), g, d, t + 1, os⟩ := I2.kept (t' := t + 1) k3
  have hu : (h2.push (PySem.W.kxs_mw initId a)).get? h2.objs.size = some (PySem.W.kxs_mw initId a) := Heap.get?_push_size _ rfl
  have I4 : Inv (cxX CX P w K mg base N qual scope f cda cc A outer s H E) [(h2.objs.size, PySem.W.kxs_mw initId a)] σ H1 ⟨h2.push (PySem.W.kxs_mw initId a), g, d, t + 1, os⟩ := I3.pins_of fun p hp => by
    rcases List.mem_singleton.mp hp with rfl
    refine ⟨hu, I2.hok.fresh (Nat.le_refl _), ?_, ?_, fun v z => by cases z⟩
    · obtain ⟨m2, hn2, _⟩ := I2.loc
      exact Nat.ne_of_gt hn2.lt
    · intro hm2
      obtain ⟨_, o, z, _⟩ := I2.stack.mem (show h2.objs.size ∈ frs (cxX CX P w K mg base N qual scope f cda cc A outer s H E).stack from List.mem_cons_of_mem _ hm2)
      exact absurd (Heap.lt_size z) (Nat.lt_irrefl _)
  refine PySem.W.kxs_callWith (i := initId) (x := a) (by rw [hst]; rfl) ?_
  rw [hst]
  refine Calls.evalArgs_plain (Calls.spliced_cons ?_)
  refine thn (he.run _ _ σ H1 _ I4 hq) fun v s5 ⟨y, H5, I5, ry, ha5, q5⟩ => Calls.spliced_nil ?_
  obtain ⟨h5, g5, d5, t5, os5⟩ := s5
  have hu5 := (I5.pin _ (List.mem_append_right _ (List.mem_singleton.mpr rfl))).1
  refine ⟨hu5, ?_⟩
  obtain ⟨t6, ho5⟩ := exo_at I5.hok ha5
  refine PySem.XO.xcall_mw T.F (I5.kIn _ _ hC) ho5 hu5 (by show ([] ++ [v]).length ≤ _; rw [sizeLine_eq]; simp) fun h' t7 k7 e7 => ?_
  have J := I5.write (t' := t5) (x := a) (e := a) (o := exo a C none) (by rw [ha5]; exact True.intro) (.inl rfl) k7 ⟨_, e7⟩ (exo_ok e7)
  have eu : upd H5 a (exo a C none) = H5 := by
    funext b
    by_cases hb : b = a
    · rw [hb, upd_same, ha5]
    · rw [upd_ne hb]
  rw [eu] at J
  exact q5 _ (J.pins_of fun p hp => absurd hp (by simp))
end
end DL


set_option Elab.async false
set_option linter.all false
set_option maxRecDepth 100000
set_option maxHeartbeats 1000000
namespace DL
open PySem PySem.Spec PyProof.Rows L2
section
variable {CX : CXT} {P : Program} {w : World} {K : PySem.W.Frag} {mg : Str → Option Value} {base : Heap} {N ps : List Str} {qual name : Str} {scope : Scope} {f cda cc C : Addr} {B newId initId : String} {bmB : List Value} {params : Arguments} {rest : List Stmt} {fd : FuncData} {e : Expr} {p0 p1 p2 p3 p4 : Pos}
/-- THE RULE for an own exception's __init__ whose first row is super().__init__(e) -/
theorem fn_ofX {k : Nat} {sp : Sp} {ar : Arg} {pl : Sem Bool} (T : XCls K C B newId initId bmB) (Y : XIni P K C f initId name qual params (.Expr (.Call (.Attribute (.Call (.Name "super" p0) [] [] p1) "__init__" p2) [e] [] p3) p4 :: rest) scope cda cc fd) (S : FnScopeX N ps scope)
    (har : (params.posonlyargs ++ params.args).head? = some ar) (hN : N[0]? = some ar.arg) (hka : scope.names.lookup ar.arg = some .local) (hsm : mg "super" = none)
    (len : ∀ vs H Q E, sp vs H Q E → vs.length = ps.length)
    (hev : ∀ L, eval (.Call (.Attribute (.Call (.Name "super" p0) [] [] p1) "__init__" p2) [e] [] p3) (PySem.W.ksEnv qual scope L f (.ref cda) cc) = (do
      let ov ← attributeBase (.Call (.Name "super" p0) [] [] p1) "__init__" (PySem.W.ksEnv qual scope L f (.ref cda) cc) (eval (.Call (.Name "super" p0) [] [] p1) (PySem.W.ksEnv qual scope L f (.ref cda) cc))
      standAt p2.atName
      let (fx, first) ← holding [ov] (getMethod ov "__init__" pl)
      callWith p3 fx first (backTo p3 (starEach [e] (PySem.W.ksEnv qual scope L f (.ref cda) cc))) []))
    (hbody : ∀ (A : Around) (outer : List Env) (s : Shared) (H : Hp) (vs : List V) (Q : VK) (E : XK), Room k (A.deeper (PySem.W.ksEnv qual scope s.heap.objs.size f (.ref cda) cc)) → sp vs H Q E →
      ∃ (a : Addr) (te : TE) (t : TS), PE (cxX CX P w K mg base N qual scope f cda cc A outer s H E) e te ∧ PSs (cxX CX P w K mg base N qual scope f cda cc A outer s H E) rest t ∧ (L2.start N vs)[0]? = some (some (.ref a)) ∧ H a = some (exo a C none) ∧
        ∀ G : Hp → Prop, (∀ H2, H2 a = some (exo a C none) → t { nx := fun _ H' => Q .non H', rt := Q } (L2.start N vs) H2 → G H2) → te (L2.start N vs) H fun _ H2 => G H2)
    (hi : ∀ L, interactive (PySem.W.ksEnv qual scope L f (.ref cda) cc) = false := by intro _; rfl) (hs : ∀ L, swapsWith (.Call (.Attribute (.Call (.Name "super" p0) [] [] p1) "__init__" p2) [e] [] p3) none p4.line (PySem.W.ksEnv qual scope L f (.ref cda) cc) = pure false := by intro _; rfl)
    (hst : ∀ L, starEach [e] (PySem.W.ksEnv qual scope L f (.ref cda) cc) = (false, eval e (PySem.W.ksEnv qual scope L f (.ref cda) cc)) :: starEach [] (PySem.W.ksEnv qual scope L f (.ref cda) cc) := by intro _; rfl) :
    FnOk P w K mg base CX (k + 1) f fd ps sp := by
  refine ⟨len, fun A outer s H args us vs Q E hr e0 hb r hsp => ?_⟩
  have hl := len _ _ _ _ hsp
  have KX : K.In s.heap := e0.mod.kin.keeps fun b o e => (e0.bs b o e).1
  have lim : s.heap.NoLimit := e0.mod.nolimit.keeps fun b o e => (e0.bs b o e).1
  have Y' := Y
  obtain ⟨oc, od, kV, doc, pm, ct, an, osl, rfl, lk⟩ := Y.fn
  obtain ⟨cl, cld, csl, hcell⟩ := Y.cell
  refine ks_codeAny_call_defAt (fd := PySem.W.ksFn name qual params (.Expr (.Call (.Attribute (.Call (.Name "super" p0) [] [] p1) "__init__" p2) [e] [] p3) p4 :: rest) scope .none kV doc pm an (.ref cda) ct cc) (binds := ps.zip us) hr.depth (KX _ _ lk) rfl lim (PySem.W.codeRec_of KX Y.cd) rfl hb S.nocell (fun x hx => S.par _ (List.of_mem_zip hx).1) (fun h₀ hns hk => ?_) S.co S.gen S.kind
  obtain ⟨a, te, t, he, ht, hσ, ha, hq⟩ := hbody A outer s H vs Q E (hr.deeper _) hsp
  have I : Inv (cxX CX P w K mg base N qual scope f cda cc A outer s H E) [] (L2.start N vs) H { s with heap := h₀, toks := s.toks + (ps.zip us).length } := inv_startX S hr.hd e0 hl r ⟨cl, cld, csl, _, hcell⟩ hns hk
  have fin : ∀ {σ' : L2.St} {H' : Hp} {v : V} {u : Value} {s' : Shared}, Inv (cxX CX P w K mg base N qual scope f cda cc A outer s H E) [] σ' H' s' → RelV v u → Q v H' → CE outer P w H s Q u s' :=
    fun {σ' H' v u s'} J rv q => ⟨v, H', J.os, J.bare, J.base, J.hok, rv, q⟩
  refine ks_wpAt_execs_cons (at_sup (te := te) T Y' S har hN hka hsm I hσ ha he ?_ (hev _) (hi _) (hs _) (hst _))
  refine hq _ fun H2 ha2 hb2 => ⟨ha2, fun s2 I2 => ?_⟩
  refine PySem.wpAt_of_wpAny (wpAny_mono (ht.run [] s2 (L2.start N vs) H2 _ I2 hb2) (fun fl s' hs => ?_) fun e s' hs => hs)
  cases fl with
  | ret u =>
    obtain ⟨v, σ', H', J, rv, q⟩ := hs
    exact fin J rv q
  | next =>
    obtain ⟨σ', H', J, q⟩ := hs
    exact fin (v := V.non) (u := Value.none) J rfl q
  | brk =>
    obtain ⟨_, _, _, q⟩ := hs
    exact False.elim q
  | cont =>
    obtain ⟨_, _, _, q⟩ := hs
    exact False.elim q
end
/-! ### self.f = v on an exception that is being made -/
section
variable {X : Cx} {pins : List (Addr × Obj)} {σ : L2.St} {H : Hp} {s : Shared} {a C dx : Addr} {f : Str} {y : V} {u : Value} {fs : List (Str × V)} {Q : Unit → Shared → Prop} {E : Value → Shared → Prop} {A : Around} {B newId initId : String} {bmB : List Value}
theorem xst_new (T : XCls X.K C B newId initId bmB) (I : Inv X pins σ H s) (e : H a = some (exo a C none)) (hno : PySem.W.findIn X.K (.ref C) f = some none) (ry : RelV y u)
    (h : ∀ dx s', H dx = none → dx ≠ a → Inv X pins σ (upd (upd H dx (exd dx [(f, y)])) a (exo a C (some dx))) s' → Q () s') : wpAny (model X.prog X.w) A (setAttr (.ref a) f u) Q E s := by
  obtain ⟨nm, q, N, bs, bm, sn, sub, ab, col, dd, k0, k1, k2, k3, k5, hC, hbm⟩ := T.cls
  have hcl : PySem.W.clsIn X.K C = some { name := nm, bases := bs, mro := .ref C :: bm, ns := N, qualname := q, hasDict := true, slotNames := sn, subclasses := sub, abstract := ab, collection := col, hasDel := false } := by unfold PySem.W.clsIn; rw [hC] <;> rfl
  obtain ⟨t1, ho⟩ := exo_at I.hok e
  obtain ⟨hp, g, d, t, os⟩ := s
  refine PySem.W.set_plain I.kIn (ox := { cls := .ref C, dict := none, data := .fields #[.ref t1, .none, .none, .none, .bool false, .none] }) (od := none) ⟨ho, rfl, rfl, trivial⟩ T.sa ?_
  refine PySem.XO.xosa_new T.SB I.kIn ho hcl (show PySem.W.excTail bmB (.ref C :: bm) = true from hbm) T.ob rfl hno (fun h' tk' dx k dn dne hx hn => ?_)
  have hnd : H dx = none := I.hok.fresh dn
  have nd : ∀ {b : Addr} {o : Obj}, hp.get? b = some o → b ≠ dx := fun {b o} q => Nat.ne_of_lt (Nat.lt_of_lt_of_le (Heap.lt_size q) dn)
  have na : ∀ {b : Addr}, H b = none → b ≠ a := fun {b} n z => by
    rw [z, e] at n
    cases n
  have Un1 : Un X.fs [] H (upd (upd H dx (exd dx [(f, y)])) a (exo a C (some dx))) hp h' := {
    keep := fun b o q n _ _ => k b o (na n) q
    slot := fun b o q n _ _ => ⟨o.slots, k b o (na n) q⟩
    free := fun b o q n _ => by rw [upd_ne (na n), upd_ne (nd q)]; exact n
    there := fun b o q _ => by
      by_cases hb : b = a
      · exact ⟨_, by rw [hb]; exact hx⟩
      · exact ⟨o, k b o hb q⟩
    tups := fun b xs q => by rw [upd_ne (at_ne e q exo_tup), upd_ne (ne_of_none q hnd)]; exact q
    frzs := fun b o v q => by rw [upd_ne (at_ne e q exo_frz), upd_ne (ne_of_none q hnd)]; exact q
    tbls := fun b ps q => ⟨#[], by rw [upd_ne (at_ne e q exo_tbl), upd_ne (ne_of_none q hnd), q]; simp⟩ }
  refine h dx _ hnd dne (I.un (t' := tk') Un1 fun b o q => ?_)
  by_cases hb : b = a
  · subst hb
    rw [upd_same] at q
    cases q
    exact exo_ok hx
  · rw [upd_ne hb] at q
    by_cases hd : b = dx
    · subst hd
      rw [upd_same] at q
      cases q
      exact exd_ok hn (relO_put (fs := []) ry fun g => True.intro)
    · rw [upd_ne hd] at q
      exact (I.hok b o q).stay (fun c v hc z => k c v (by
          rcases hc with hc | hc
          · rw [hc]
            exact hb
          · exact at_ne e hc exo_own) z)
        (fun c hc => by rw [upd_ne (at_ne e hc exo_own), upd_ne (ne_of_none hc hnd)]; exact hc) (fun c xs hc => by rw [upd_ne (at_ne e hc exo_tup), upd_ne (ne_of_none hc hnd)]; exact hc)
theorem xst_old (T : XCls X.K C B newId initId bmB) (I : Inv X pins σ H s) (e : H a = some (exo a C (some dx))) (ed : H dx = some (exd dx fs)) (hl : fs.length ≤ 900) (hno : PySem.W.findIn X.K (.ref C) f = some none) (ry : RelV y u)
    (h : ∀ s', Inv X pins σ (upd H dx (exd dx ((f, y) :: fs))) s' → Q () s') : wpAny (model X.prog X.w) A (setAttr (.ref a) f u) Q E s := by
  obtain ⟨nm, q, N, bs, bm, sn, sub, ab, col, dd, k0, k1, k2, k3, k5, hC, hbm⟩ := T.cls
  have hcl : PySem.W.clsIn X.K C = some { name := nm, bases := bs, mro := .ref C :: bm, ns := N, qualname := q, hasDict := true, slotNames := sn, subclasses := sub, abstract := ab, collection := col, hasDel := false } := by unfold PySem.W.clsIn; rw [hC] <;> rfl
  obtain ⟨t1, ho⟩ := exo_at I.hok e
  obtain ⟨mA, hns, rel⟩ := exd_at I.hok ed
  have hw := within_of rel
  obtain ⟨hp, g, d, t, os⟩ := s
  obtain ⟨oD, _, _, hoD, _, _⟩ := hns.count hw
  refine PySem.W.set_plain I.kIn (ox := { cls := .ref C, dict := some dx, data := .fields #[.ref t1, .none, .none, .none, .bool false, .none] }) (od := some oD) ⟨ho, rfl, rfl, hoD⟩ T.sa ?_
  refine PySem.XO.xosa_old T.SB I.kIn ho hns hw (by rw [List.length_map]; omega) hcl (show PySem.W.excTail bmB (.ref C :: bm) = true from hbm) T.ob rfl hno (fun h' tk' k hn => ?_)
  have hd : ∃ o, h'.get? dx = some o := by
    obtain ⟨o, _, _, e', _⟩ := hn
    exact ⟨o, e'⟩
  exact h _ (I.write (t' := tk') (x := dx) (e := dx) (o := exd dx ((f, y) :: fs)) (by rw [ed]; exact True.intro) (.inl rfl) k hd (exd_ok hn (relO_put ry rel)))
end
/-- a class of the program -/
def XC? (K : PySem.W.Frag) (C : Addr) : Prop := ∃ B newId initId bmB, XCls K C B newId initId bmB
def tXst (K : PySem.W.Frag) (f : Str) (to te : TE) : TS := fun D σ H => te σ H fun y H1 => to σ H1 fun x H2 => ∃ a C : Addr, x = .ref a ∧ XC? K C ∧ PySem.W.findIn K (.ref C) f = some none ∧
  ((H2 a = some (exo a C none) ∧ ∀ dx, H2 dx = none → dx ≠ a → D.nx σ (upd (upd H2 dx (exd dx [(f, y)])) a (exo a C (some dx)))) ∨
    ∃ (dx : Addr) (fs : List (Str × V)), H2 a = some (exo a C (some dx)) ∧ H2 dx = some (exd dx fs) ∧ fs.length ≤ 900 ∧ D.nx σ (upd H2 dx (exd dx ((f, y) :: fs))))
section
variable {X : Cx} {o e : Expr} {es : List Expr} {to te : TE} {ta : TA} {f : Str} {p p' p1 p2 pos : Pos}
theorem ps_xst (ho : PE X o to) (he : PE X e te) (hs : swapsWith e (some (.Attribute o f p')) pos.line X.env = pure false := by rfl) : PS X (.Assign [.Attribute o f p'] e pos) (tXst X.K f to te) := by
  refine ⟨fun pins s σ H D I h => ?_⟩
  refine plainObj_wpAny_Assign_Attribute (thn (he.run pins s σ H _ I h) fun v s1 ⟨y, H1, I1, r1, q1⟩ => thn (ho.run pins s1 σ H1 _ I1 q1) fun u s2 ⟨x, H2, I2, r2, a, C, ex, ⟨_, _, _, _, T⟩, hno, q⟩ => ?_) hs
  subst ex
  obtain rfl : u = Value.ref a := r2
  rcases q with ⟨ea, q⟩ | ⟨dx, fs, ea, ed, hl, q⟩
  · exact xst_new T I2 ea hno r1 fun dx s' n ne J => ⟨σ, _, J, q dx n ne⟩
  · exact xst_old T I2 ea ed hl hno r1 fun s' J => ⟨σ, _, J, q⟩
end
/-! ### C(e, ..), C() -/
/-- the end, where no field was set -/
theorem mk_endN {X : Cx} {pins : List (Addr × Obj)} {σ : L2.St} {H1 H2 : Hp} {Q : XK} {hp hp2 h2 : Heap} {g1 g2 : Array GenState} {d1 d2 : Drawn} {t1 t2 : Nat} {os1 os2 : OsState} {a C : Addr} (T : Raises X (.ref C)) (I1 : Inv X pins σ H1 ⟨hp, g1, d1, t1, os1⟩)
    (ha : hp.objs.size ≤ a) (k : ∀ b o, hp.get? b = some o → hp2.get? b = some o) (un : Un (frs X.stack) [] (upd H1 a (exo a C none)) H2 hp2 h2) (hok : HOk X.prog X.w H2 h2) (ho : os2 = os1) (hb : AllBare g2)
    (ea : H2 a = some (exo a C none)) (q : Q (.ref C) none (del H2 a)) : MkP X pins σ Q (.ref a) ⟨h2, g2, d2, t2, os2⟩ := by
  obtain ⟨t0, hoe⟩ := exo_at hok ea
  have hn : H1 a = none := I1.hok.fresh ha
  obtain ⟨G, g1', g2'⟩ := restrict h2 fun b => decide (b ≠ a)
  have gk : ∀ b, b ≠ a → G.get? b = h2.get? b := fun b hb => g1' b (decide_eq_true hb)
  have ge : G.get? a = none := g2' a (by simp)
  have nha : ∀ {b : Addr} {o : Obj}, hp.get? b = some o → b ≠ a := fun {b o} z => Nat.ne_of_lt (Nat.lt_of_lt_of_le (Heap.lt_size z) ha)
  have up : ∀ {b : Addr}, b ≠ a → H1 b = none → upd H1 a (exo a C none) b = none := fun {b} hb n => by rw [upd_ne hb]; exact n
  have U : Un (frs X.stack) [] H1 (del H2 a) hp G := {
    keep := fun b o z n hf hx => by
      rw [gk b (nha z)]
      exact un.keep b o (k b o z) (up (nha z) n) hf hx
    slot := fun b o z n hf hx => by
      rw [gk b (nha z)]
      exact un.slot b o (k b o z) (up (nha z) n) hf hx
    free := fun b o z n hx => by
      rw [del_ne (nha z)]
      exact un.free b o (k b o z) (up (nha z) n) hx
    there := fun b o z hx => by
      rw [gk b (nha z)]
      exact un.there b o (k b o z) hx
    tups := fun b xs z => by
      rw [del_ne (ne_of_none z hn)]
      exact un.tups b xs (by rw [upd_ne (ne_of_none z hn)]; exact z)
    frzs := fun b o v z => by
      rw [del_ne (ne_of_none z hn)]
      exact un.frzs b o v (by rw [upd_ne (ne_of_none z hn)]; exact z)
    tbls := fun b ps z => by
      rw [del_ne (ne_of_none z hn)]
      exact un.tbls b ps (by rw [upd_ne (ne_of_none z hn)]; exact z) }
  have hok3 : HOk X.prog X.w (del H2 a) G := fun b o z => by
    have hba : b ≠ a := fun e => by
      rw [e, del_same] at z
      cases z
    rw [del_ne hba] at z
    have noa : ∀ {c : Addr}, H2 c = some (.own b) → c ≠ a := fun {c} hc => at_ne ea hc exo_own
    exact (hok b o z).stay (fun c v hc y => by
        have hca : c ≠ a := by
          rcases hc with hc | hc
          · rw [hc]
            exact hba
          · exact noa hc
        rw [gk c hca]
        exact y)
      (fun c hc => by rw [del_ne (noa hc)]; exact hc) (fun c xs hc => by rw [del_ne (at_ne ea hc exo_tup)]; exact hc)
  have J : Inv X pins σ (del H2 a) ⟨G, g2, d2, t2, os2⟩ := I1.call' (ch := []) ho U hok3 hb (fun b z => absurd z (by simp))
  refine ⟨a, _, _, ⟨G, g2, d2, t2, os2⟩, _, .ref C, none, rfl, J, fun b o z => ?_, ge, hoe, ⟨rfl, rfl⟩, rfl, rfl, del_same, rfl, hb, T, q⟩
  by_cases hba : b = a
  · rw [hba, ge] at z
    cases z
  · exact (gk b hba).symm.trans z
def tMkX (C : Addr) (sp : Sp) (ta : TA) : L2.St → Hp → XK → Prop := fun σ H Q => ta σ H fun vs H1 => vs.length ≤ 1000 ∧ ∀ a, H1 a = none → sp (.ref a :: vs) (upd H1 a (exo a C none))
  (fun v H2 => v = .non ∧ ((H2 a = some (exo a C none) ∧ Q (.ref C) none (del H2 a)) ∨ ∃ (d : Addr) (fs : List (Str × V)), H2 a = some (exo a C (some d)) ∧ H2 d = some (exd d fs) ∧ H1 d = none ∧ Q (.ref C) (some d) (upd (del H2 a) d (.xd fs)))) (fun _ _ _ => False)
section
variable {X : Cx} {CX : CXT} {x : Str} {C fI : Addr} {k : Nat} {fd : FuncData} {ps : List Str} {sp : Sp} {e : Expr} {es : List Expr} {ta : TA} {p pos : Pos} {B newId initId : String} {bmB : List Value}
theorem xmake {pins : List (Addr × Obj)} {σ : L2.St} {H1 : Hp} {s1 : Shared} {Q : XK} {us : List Value} {vs : List V} (T : XCls X.K C B newId initId bmB) (iC : PySem.W.findIn X.K (.ref C) "__init__" = some (some (.ref fI))) (tI : PySem.W.typeIn X.K (.ref fI) = some (.type "function"))
    (F1 : FnOk X.prog X.w X.K X.mg X.base CX k fI fd ps sp) (hr : Room (k + 1) X.A) (hb : Binds X.K fd ps []) (hx : Passes CX X (fun _ _ _ => False)) (I1 : Inv X pins σ H1 s1) (r1 : Vals vs us) (hz : vs.length ≤ 1000)
    (q1 : ∀ a, H1 a = none → sp (.ref a :: vs) (upd H1 a (exo a C none))
      (fun v H2 => v = .non ∧ ((H2 a = some (exo a C none) ∧ Q (.ref C) none (del H2 a)) ∨ ∃ (d : Addr) (fs : List (Str × V)), H2 a = some (exo a C (some d)) ∧ H2 d = some (exd d fs) ∧ H1 d = none ∧ Q (.ref C) (some d) (upd (del H2 a) d (.xd fs)))) (fun _ _ _ => False)) :
    wpAny (model X.prog X.w) X.A (call (.ref C) us) (MkP X pins σ Q) X.xe s1 := by
  obtain ⟨nm, q, N, bs, bm, sn, sub, ab, col, dd, k0, k1, k2, k3, k5, hC, hbm⟩ := T.cls
  obtain ⟨hp, g, dr, tk, os⟩ := s1
  have hsz : hp.objs.size ≤ hp.objs.size + 1 := Nat.le_succ _
  have hn : H1 (hp.objs.size + 1) = none := I1.hok.fresh hsz
  have hq := q1 (hp.objs.size + 1) hn
  have kk : ∀ b o, hp.get? b = some o → ((hp.push (PySem.W.kdv_tup us)).push (PySem.HandSPX.excO C hp.objs.size)).get? b = some o := fun b o e => Heap.get?_push_of_some _ (Heap.get?_push_of_some _ e)
  have hget : ((hp.push (PySem.W.kdv_tup us)).push (PySem.HandSPX.excO C hp.objs.size)).get? (hp.objs.size + 1) = some (PySem.HandSPX.excO C hp.objs.size) := by heap_get
  have I2 : Inv X pins σ (upd H1 (hp.objs.size + 1) (exo (hp.objs.size + 1) C none)) ⟨(hp.push (PySem.W.kdv_tup us)).push (PySem.HandSPX.excO C hp.objs.size), g, dr, tk, os⟩ :=
    I1.laid (t' := tk) (a := hp.objs.size + 1) (o := exo (hp.objs.size + 1) C none) (h' := (hp.push (PySem.W.kdv_tup us)).push (PySem.HandSPX.excO C hp.objs.size)) kk hsz (exo_ok hget)
  have r2 : Vals (V.ref (hp.objs.size + 1) :: vs) (Value.ref (hp.objs.size + 1) :: us) := .cons rfl r1
  have hl : (Value.ref (hp.objs.size + 1) :: us).length = ps.length := by
    have e := r2.length
    rw [F1.len _ _ _ _ hq] at e
    exact e.symm
  have hus : us.length ≤ sizeLine := by
    rw [← Paired.length r1, sizeLine_eq]
    omega
  have hbb := hb ⟨(hp.push (PySem.W.kdv_tup us)).push (PySem.HandSPX.excO C hp.objs.size), g, dr, tk, os⟩ (Value.ref (hp.objs.size + 1) :: us) I2.kIn (by rw [List.append_nil]; exact hl)
  rw [List.append_nil] at hbb
  refine wpAny_call (PySem.HandSPX.call_own T.F (fun Y => PySem.W.excTail_contains Y bm hbm) (I1.kIn _ _ hC) (PySem.W.looks_findIn I1.kIn iC) (fun self => PySem.W.bind_fn I1.kIn self tI) hus
    (codeAny_mono (F1.run _ X.stack _ _ ⟨Value.ref (hp.objs.size + 1) :: us, []⟩ (Value.ref (hp.objs.size + 1) :: us) _ _ (fun _ _ _ => False) (hr.make C us []) (I2.env0.make C us []) hbb r2 hq) fun r s' hq' => ?_))
  cases r with
  | error er => exact hx pins σ _ _ er s' I2 hq'
  | ok fl =>
    cases fl with
    | ret u =>
      obtain ⟨v, H2, os2, bare2, un2, hok2, rv, ev, q2⟩ := hq'
      subst ev
      obtain ⟨h2, g2, d2, t2, os'⟩ := s'
      rcases q2 with ⟨ea, q2⟩ | ⟨d, fs, ea, ed, hd1, q2⟩
      · exact ⟨rv, mk_endN (raises_own T.exC T.tyC) I1 hsz kk un2 hok2 os2 bare2 ea q2⟩
      · exact ⟨rv, mk_end (raises_own T.exC T.tyC) I1 hsz kk un2 hok2 os2 bare2 ea ed hd1 q2⟩
    | next => exact False.elim hq'
    | brk => exact False.elim hq'
    | cont => exact False.elim hq'
theorem pmkX (T : XCls X.K C B newId initId bmB) (iC : PySem.W.findIn X.K (.ref C) "__init__" = some (some (.ref fI))) (tI : PySem.W.typeIn X.K (.ref fI) = some (.type "function"))
    (F1 : FnOk X.prog X.w X.K X.mg X.base CX k fI fd ps sp) (hr : Room (k + 1) X.A) (hb : Binds X.K fd ps []) (hx : Passes CX X (fun _ _ _ => False)) (hg : Gl X x) (hm : X.mg x = some (.ref C)) (ha : PA X (e :: es) ta)
    (hdb : (x == ("__debug__" : Str)) = false := by decide) (he : starEach (e :: es) X.env = (false, eval e X.env) :: starEach es X.env := by rfl) (hpl : (backTo pos (starEach es X.env)).any (·.1) = false := by rfl) :
    PMk X (.Call (.Name x p) (e :: es) [] pos) (tMkX C sp ta) := by
  intro pins s σ H Q I h
  refine wpAny_Call_Name_kw (ld_glob I hg hm ?_ hdb)
  refine PySem.W.callWith_K (h₀ := X.base) I.ok.mod.kin T.kC (thn (ha.run pos pins s σ H _ I h) fun us s1 ⟨vs, H1, I1, r1, hz, q1⟩ => ⟨I1.kIn, ?_⟩) he hpl
  exact xmake T iC tI F1 hr hb hx I1 r1 hz q1
theorem pmkX0 (T : XCls X.K C B newId initId bmB) (iC : PySem.W.findIn X.K (.ref C) "__init__" = some (some (.ref fI))) (tI : PySem.W.typeIn X.K (.ref fI) = some (.type "function"))
    (F1 : FnOk X.prog X.w X.K X.mg X.base CX k fI fd ps sp) (hr : Room (k + 1) X.A) (hb : Binds X.K fd ps []) (hx : Passes CX X (fun _ _ _ => False)) (hg : Gl X x) (hm : X.mg x = some (.ref C))
    (hdb : (x == ("__debug__" : Str)) = false := by decide) : PMk X (.Call (.Name x p) [] [] pos) (tMkX C sp tNil) := by
  intro pins s σ H Q I h
  refine wpAny_Call_Name_kw (ld_glob I hg hm ?_ hdb)
  obtain ⟨hz, q1⟩ := h
  exact PySem.W.callWith_K0 I.kIn T.kC (xmake (us := []) T iC tI F1 hr hb hx I .nil hz q1)
end
end DL


set_option Elab.async false
set_option linter.all false
set_option maxRecDepth 100000
set_option maxHeartbeats 1000000
namespace DL
open PySem PySem.Spec PyProof.Rows L2
/-! ### __init__ without fields, with one -/
def sp0 (C : Addr) : Sp := fun vs H Q _ => ∃ a, vs = [.ref a] ∧ H a = some (exo a C none) ∧ Q .non H
def sp1 (C : Addr) (f : Str) (ok : V → Prop) : Sp := fun vs H Q _ => ∃ a x, vs = [.ref a, x] ∧ H a = some (exo a C none) ∧ ok x ∧ ∀ dx, H dx = none → dx ≠ a → Q .non (upd (upd H dx (exd dx [(f, x)])) a (exo a C (some dx)))
section
variable {CX : CXT} {P : Program} {w : World} {K : PySem.W.Frag} {mg : Str → Option Value} {base : Heap} {N ps : List Str} {qual name : Str} {scope : Scope} {f cda cc C : Addr} {B newId initId : String} {bmB : List Value} {params : Arguments} {fd : FuncData} {p0 p1 p2 p3 p4 : Pos}
theorem fn_S0 {ar : Arg} {pl : Sem Bool} {m : Str} {j} {pe : Pos} (T : XCls K C B newId initId bmB) (Y : XIni P K C f initId name qual params [.Expr (.Call (.Attribute (.Call (.Name "super" p0) [] [] p1) "__init__" p2) [.Constant (.str m) j pe] [] p3) p4] scope cda cc fd) (S : FnScopeX N ps scope)
    (har : (params.posonlyargs ++ params.args).head? = some ar) (hN : N[0]? = some ar.arg) (hka : scope.names.lookup ar.arg = some .local) (hsm : mg "super" = none) (hp : ps.length = 1)
    (hev : ∀ L, eval (.Call (.Attribute (.Call (.Name "super" p0) [] [] p1) "__init__" p2) [.Constant (.str m) j pe] [] p3) (PySem.W.ksEnv qual scope L f (.ref cda) cc) = (do
      let ov ← attributeBase (.Call (.Name "super" p0) [] [] p1) "__init__" (PySem.W.ksEnv qual scope L f (.ref cda) cc) (eval (.Call (.Name "super" p0) [] [] p1) (PySem.W.ksEnv qual scope L f (.ref cda) cc))
      standAt p2.atName
      let (fx, first) ← holding [ov] (getMethod ov "__init__" pl)
      callWith p3 fx first (backTo p3 (starEach [.Constant (.str m) j pe] (PySem.W.ksEnv qual scope L f (.ref cda) cc))) []))
    (hi : ∀ L, interactive (PySem.W.ksEnv qual scope L f (.ref cda) cc) = false := by intro _; rfl) : FnOk P w K mg base CX 1 f fd ps (sp0 C) := by
  refine fn_ofX T Y S har hN hka hsm (fun vs H Q E h => by obtain ⟨a, rfl, _⟩ := h; exact hp.symm) hev (fun A outer s H vs Q E hr h => ?_) (hi := hi)
  obtain ⟨a, rfl, ha, q⟩ := h
  exact ⟨a, _, _, pe_str, pss_nil, rfl, ha, fun G hG => hG H ha q⟩
theorem fn_S1 {ar : Arg} {pl : Sem Bool} {fl x self : Str} {ok : V → Prop} {e : Expr} {pa pb pc pd : Pos} (T : XCls K C B newId initId bmB) (Y : XIni P K C f initId name qual params [.Expr (.Call (.Attribute (.Call (.Name "super" p0) [] [] p1) "__init__" p2) [e] [] p3) p4, .Assign [.Attribute (.Name self pa) fl pb] (.Name x pc) pd] scope cda cc fd) (S : FnScopeX N ps scope)
    (har : (params.posonlyargs ++ params.args).head? = some ar) (hN : N[0]? = some ar.arg) (hka : scope.names.lookup ar.arg = some .local) (hsm : mg "super" = none) (hp : ps.length = 2) (hno : PySem.W.findIn K (.ref C) fl = some none)
    (hx1 : N[1]? = some x) (hx2 : scope.names.lookup x = some .local) (hs1 : N[0]? = some self) (hs2 : scope.names.lookup self = some .local) (hNl : N.length = 2)
    (dx1 : (x == ("__debug__" : Str)) = false) (dx2 : (x == ("__classdict__" : Str)) = false) (ds1 : (self == ("__debug__" : Str)) = false) (ds2 : (self == ("__classdict__" : Str)) = false)
    (hsw : ∀ L, swapsWith (.Name x pc) (some (.Attribute (.Name self pa) fl pb)) pd.line (PySem.W.ksEnv qual scope L f (.ref cda) cc) = pure false)
    (he : ∀ (A : Around) (outer : List Env) (s : Shared) (H : Hp) (E : XK), ∃ te, PE (cxX CX P w K mg base N qual scope f cda cc A outer s H E) e te ∧ ∀ (y : V) (a : Addr) (H : Hp) (G : Hp → Prop), ok y → G H → te [some (.ref a), some y] H fun _ H2 => G H2)
    (hev : ∀ L, eval (.Call (.Attribute (.Call (.Name "super" p0) [] [] p1) "__init__" p2) [e] [] p3) (PySem.W.ksEnv qual scope L f (.ref cda) cc) = (do
      let ov ← attributeBase (.Call (.Name "super" p0) [] [] p1) "__init__" (PySem.W.ksEnv qual scope L f (.ref cda) cc) (eval (.Call (.Name "super" p0) [] [] p1) (PySem.W.ksEnv qual scope L f (.ref cda) cc))
      standAt p2.atName
      let (fx, first) ← holding [ov] (getMethod ov "__init__" pl)
      callWith p3 fx first (backTo p3 (starEach [e] (PySem.W.ksEnv qual scope L f (.ref cda) cc))) []))
    (hst : ∀ L, starEach [e] (PySem.W.ksEnv qual scope L f (.ref cda) cc) = (false, eval e (PySem.W.ksEnv qual scope L f (.ref cda) cc)) :: starEach [] (PySem.W.ksEnv qual scope L f (.ref cda) cc) := by intro _; rfl)
    (hs : ∀ L, swapsWith (.Call (.Attribute (.Call (.Name "super" p0) [] [] p1) "__init__" p2) [e] [] p3) none p4.line (PySem.W.ksEnv qual scope L f (.ref cda) cc) = pure false := by intro _; rfl)
    (hi : ∀ L, interactive (PySem.W.ksEnv qual scope L f (.ref cda) cc) = false := by intro _; rfl) : FnOk P w K mg base CX 1 f fd ps (sp1 C fl ok) := by
  refine fn_ofX T Y S har hN hka hsm (fun vs H Q E h => by obtain ⟨a, x, rfl, _⟩ := h; exact hp.symm) hev (fun A outer s H vs Q E hr h => ?_) (hs := hs) (hst := hst) (hi := hi)
  obtain ⟨a, y, rfl, ha, hy, q⟩ := h
  obtain ⟨te, h1, h2⟩ := he A outer s H E
  have st : L2.start N [V.ref a, y] = [some (.ref a), some y] := by unfold L2.start; rw [hNl]; rfl
  refine ⟨a, _, _, h1, pss_one (ps_xst (pe_var hs1 (.inl hs2) ds1 ds2) (pe_var hx1 (.inl hx2) dx1 dx2) (hsw _)), by rw [st]; rfl, ha, fun G hG => ?_⟩
  rw [st] at hG ⊢
  refine h2 y a H G hy (hG H ha ?_)
  exact ⟨y, rfl, .ref a, rfl, a, C, rfl, ⟨_, _, _, _, T⟩, hno, .inl ⟨ha, q⟩⟩
end
/-! ### exceptions raised, at the level of data -/
abbrev TDX := DEnv → Mp → (List (Str × D) → Mp → Prop) → Prop
def lowX (K : PySem.W.Frag) (E0 : L2.St → XK) (Ee : DEnv → DXK) (C : Addr) (t : TDX) : L2.St → Hp → XK → Prop := fun σ H Q => ∃ F M ρ Qx, SS K E0 Ee σ H F M ρ ∧ t ρ M Qx ∧
  ∀ F' M' H' d xs ds, Step K F M H F' M' H' → XAt H' d xs → RpF K F' xs ds → Qx ds M' → Q (.ref C) d H'
def DX (X : Cx) (E0 : L2.St → XK) (Ee : DEnv → DXK) (C : Addr) (e : Expr) (t : TDX) : Prop := PMk X e (lowX X.K E0 Ee C t)
theorem PMimp {X : Cx} {e : Expr} {t u : L2.St → Hp → XK → Prop} (h : PMk X e t) (i : ∀ σ H Q, u σ H Q → t σ H Q) : PMk X e u := fun pins s σ H Q I q => h pins s σ H Q I (i _ _ _ q)
section
variable {X : Cx} {E0 : L2.St → XK} {Ee : DEnv → DXK} {x f : Str} {C fI : Addr} {k : Nat} {fd : FuncData} {ps : List Str} {e : Expr} {te : TDE} {p pos : Pos} {B newId initId : String} {bmB : List Value}
def dX0 : TDX := fun _ M Q => Q [] M
def dX1 (f : Str) (ok : D → Prop) (te : TDE) : TDX := fun ρ M Q => te ρ M fun d M1 => ok d ∧ Q [(f, d)] M1
theorem upd_upd_del {H : Hp} {a d : Addr} {o o1 o2 : HO} (ha : H a = none) (ne : d ≠ a) : upd (del (upd (upd (upd H a o) d o1) a o2) a) d (.xd fs) = upd H d (.xd fs) := by
  funext b
  by_cases h1 : b = d
  · subst h1; rw [upd_same, upd_same]
  · rw [upd_ne h1, upd_ne h1]
    by_cases h2 : b = a
    · subst h2; rw [del_same, ha]
    · rw [del_ne h2, upd_ne h2, upd_ne h1, upd_ne h2]
theorem del_upd {H : Hp} {a : Addr} {o : HO} (ha : H a = none) : del (upd H a o) a = H := by
  funext b
  by_cases h2 : b = a
  · subst h2; rw [del_same, ha]
  · rw [del_ne h2, upd_ne h2]
theorem dx_S0 (T : XCls X.K C B newId initId bmB) (iC : PySem.W.findIn X.K (.ref C) "__init__" = some (some (.ref fI))) (tI : PySem.W.typeIn X.K (.ref fI) = some (.type "function"))
    (F1 : FnOk X.prog X.w X.K X.mg X.base (L2.CX X.prog X.w) 1 fI fd ps (sp0 C)) (hr : Room k X.A) (hk : 2 ≤ k) (hb : Binds X.K fd ps []) (hg : Gl X x) (hm : X.mg x = some (.ref C)) (hdb : (x == ("__debug__" : Str)) = false := by decide) : DX X E0 Ee C (.Call (.Name x p) [] [] pos) dX0 :=
  PMimp (pmkX0 T iC tI F1 (hr.mono hk) hb (fun _ _ _ _ _ _ _ c => by obtain ⟨_, _, _, _, _, _, _, _, _, _, _, _, z⟩ := c; exact z.elim) hg hm hdb) fun σ H Q ⟨F, M, ρ, Qx, ss, q, kq⟩ => by
    refine ⟨Nat.zero_le _, fun a ha => ⟨a, rfl, upd_same, rfl, .inl ⟨upd_same, ?_⟩⟩⟩
    rw [del_upd ha]
    exact kq _ _ _ _ _ _ (.refl ss.hm) rfl .nil q
theorem dx_S1 {okV : V → Prop} {ok : D → Prop} (T : XCls X.K C B newId initId bmB) (iC : PySem.W.findIn X.K (.ref C) "__init__" = some (some (.ref fI))) (tI : PySem.W.typeIn X.K (.ref fI) = some (.type "function"))
    (F1 : FnOk X.prog X.w X.K X.mg X.base (L2.CX X.prog X.w) 1 fI fd ps (sp1 C f okV)) (hok : ∀ F v d, Rp X.K F v d → ok d → okV v) (hr : Room k X.A) (hk : 2 ≤ k) (hb : Binds X.K fd ps []) (hg : Gl X x) (hm : X.mg x = some (.ref C)) (he : DE X E0 Ee e te)
    (h1 : starEach [e] X.env = (false, eval e X.env) :: starEach [] X.env := by rfl) (hdb : (x == ("__debug__" : Str)) = false := by decide) (hpl : (backTo pos (starEach [] X.env)).any (·.1) = false := by rfl) : DX X E0 Ee C (.Call (.Name x p) [e] [] pos) (dX1 f ok te) :=
  PMimp (pmkX T iC tI F1 (hr.mono hk) hb (fun _ _ _ _ _ _ _ c => by obtain ⟨_, _, _, _, _, _, _, _, _, _, _, _, z⟩ := c; exact z.elim) hg hm (pa_cons he pa_nil h1) hdb h1 hpl) fun σ H Q ⟨F, M, ρ, Qx, ss, q, kq⟩ => by
    refine ⟨F, M, ρ, _, ss, q, fun v H1 F1 d M1 s1 r q1 => ?_⟩
    refine ⟨by simp, fun a ha => ⟨a, v, rfl, upd_same, hok _ _ _ r q1.1, fun dx hdx ne => ⟨rfl, .inr ⟨dx, [(f, v)], upd_same, ?_, ?_, ?_⟩⟩⟩⟩
    · rw [upd_ne ne, upd_same]
    · rw [upd_ne ne] at hdx; exact hdx
    · have hdx' : H1 dx = none := by rw [upd_ne ne] at hdx; exact hdx
      rw [upd_upd_del ha ne]
      obtain ⟨nM, nF⟩ := s1.hm.none hdx'
      have s2 := (Step.refl s1.hm).hset hdx' nF nM (.xd [(f, v)])
      exact kq _ _ _ _ _ _ (s1.trans s2) upd_same (.cons r .nil) q1.2
def dRaise (Ee : DEnv → DXK) (C : Addr) (t : TDX) : TDS := fun _ ρ M => t ρ M fun fs M' => Ee ρ C fs M'
theorem ds_raise {t : TDX} (hc : X.calm = true) (tk : Takes X fun cls d σ H => E0 σ cls d H) (he : DX X E0 Ee C e t) : DS X E0 Ee (.Raise (some e) none pos) (dRaise Ee C t) :=
  PSimp (ps_raise hc tk he) fun D0 σ H ⟨F, M, ρ, D, ss, q, k⟩ => ⟨F, M, ρ, _, ss, q, fun F' M' H' d xs ds s xa rf ed => ss.xc F' M' H' σ ρ C d xs ds s (ss.env.mono s.fle) xa rf ed⟩
end
/-! ### try -/
def imm : D → Bool
  | .non | .bl _ | .int _ | .str _ => true
  | _ => false
def ImmF (fs : List (Str × D)) : Prop := ∀ q ∈ fs, imm q.2 = true
theorem rpF_look {K : PySem.W.Frag} {F : Hp} {f : Str} {d : D} : ∀ {xs : List (Str × V)} {ds : List (Str × D)}, RpF K F xs ds → ds.lookup f = some d → ∃ v, xs.lookup f = some v ∧ Rp K F v d
  | _, _, .nil, h => nomatch (show (none : Option D) = _ from h)
  | _, _, .cons (k := g) (v := v) (d := d') (vs := vs) (ds := ds) a t, h => by
    have h' : (match f == g with | true => some d' | false => ds.lookup f) = some d := h
    show ∃ u, (match f == g with | true => some v | false => vs.lookup f) = some u ∧ _
    cases e : (f == g) with
    | true => rw [e] at h'; cases h'; exact ⟨v, rfl, a⟩
    | false => rw [e] at h'; exact rpF_look t h'
theorem rp_imm {K : PySem.W.Frag} {F F' : Hp} {v : V} {d : D} (r : Rp K F v d) (h : imm d = true) : Rp K F' v d := by
  cases r with
  | non => exact .non
  | bl b => exact .bl b
  | int i => exact .int i
  | str s => exact .str s
  | _ => cases h
theorem lookup_memF {f : Str} {d : D} : ∀ {ds : List (Str × D)}, ds.lookup f = some d → ∃ q ∈ ds, q.2 = d
  | [], h => nomatch (show (none : Option D) = _ from h)
  | (g, d') :: r, h => by
    have h' : (match f == g with | true => some d' | false => r.lookup f) = some d := h
    cases e : (f == g) with
    | true => rw [e] at h'; cases h'; exact ⟨_, List.mem_cons_self, rfl⟩
    | false =>
      rw [e] at h'
      obtain ⟨q, hq, z⟩ := lookup_memF h'
      exact ⟨q, List.mem_cons_of_mem _ hq, z⟩
abbrev ES (d : Option Addr) (xs : List (Str × V)) : L2.St → XK := fun _ _ _ H' => XAt H' d xs
abbrev ET : DEnv → DXK := fun _ _ _ _ => True
def dTryAs (exm : Addr → Option Bool) (i : Nat) (t : (DEnv → DXK) → TDS) (u : Addr → Addr → List (Str × D) → TDS) (Eo : DEnv → DXK) : TDS := fun D ρ M =>
  t (fun ρ' C fs M' => ∃ b, exm C = some b ∧ (b = true → ImmF fs ∧ ∀ a, M' a = none → u a C fs { nx := fun ρ2 M2 => D.nx (rset ρ2 i none) M2, rt := D.rt, bk := fun ρ2 M2 => D.bk (rset ρ2 i none) M2, ct := fun ρ2 M2 => D.ct (rset ρ2 i none) M2 } (rset ρ' i (some (.ref a))) M') ∧ (b = false → Eo ρ' C fs M')) D ρ M
def dTryOnly (exm : Addr → Option Bool) (t : (DEnv → DXK) → TDS) (u : TDS) (Eo : DEnv → DXK) : TDS := fun D ρ M =>
  t (fun ρ' C fs M' => ∃ b, exm C = some b ∧ (b = true → u D ρ' M') ∧ (b = false → Eo ρ' C fs M')) D ρ M
section
variable {X : Cx} {E0 : L2.St → XK} {Ee : DEnv → DXK} {x n : Str} {c : Value} {i : Nat} {body suite : List Stmt} {b₀ : Stmt} {np pos pos' : Pos} {t : (DEnv → DXK) → TDS}
theorem ds_tryAs {u : Addr → Addr → List (Str × D) → TDS} (hs : X.stack = X.env :: X.outer) (hf : X.env.frame = some X.env.locals) (hN : X.N.Nodup) (hi : X.N[i]? = some n) (hln : X.env.kindOf n = some .local) (hc : Names X x c) (tk : Takes X fun cls d σ H => E0 σ cls d H)
    (hb : ∀ (W : WX) (Ee' : DEnv → DXK) (pn : List (Addr × Obj)) (xe : Value → Shared → Prop), Takes (X.tr pn xe) W → PassesOwn (model X.prog X.w) X.A X.env xe → DSs (X.tr pn xe) (WE W) Ee' body (t Ee'))
    (hsu : ∀ (a C : Addr) (oe : Obj) (d : Option Addr) (xs : List (Str × V)) (ds : List (Str × D)) (F : Hp) (pn : List (Addr × Obj)), Zc (.ref C) d oe → (∃ vs, oe.data = .fields vs) → RpF X.K F xs ds → ImmF ds → DSs (X.suite a ((a, oe) :: pn)) (ES d xs) ET (b₀ :: suite) (u a C ds)) :
    DS X E0 Ee (.Try body [.ExceptHandler (some (.Name x np)) (some n) (b₀ :: suite) pos'] [] [] pos) (dTryAs (fun C => PySem.W.exmOne X.K (.ref C) c) i t u Ee) := by
  refine PSimp (ps_try_as (tb := fun W => fun D0 σ H => ∃ Ee', lowS X.K (WE W) Ee' (t Ee') D0 σ H) (ts := fun a cls d => fun D0 σ H => ∃ C xs ds F, cls = .ref C ∧ RpF X.K F xs ds ∧ ImmF ds ∧ lowS X.K (ES d xs) ET (u a C ds) D0 σ H) hs hf hN hi hln hc tk
    (fun W pn xe tk' po => ⟨fun pins s σ H D I ⟨Ee', q⟩ => (hb W Ee' pn xe tk' po).run pins s σ H D I q⟩)
    (fun a oe cls d pn hz hd => ⟨fun pins s σ H D I ⟨C, xs, ds, F, ec, rf, im, q⟩ => by subst ec; exact (hsu a C oe d xs ds F pn hz hd rf im).run pins s σ H D I q⟩)) fun D0 σ H ⟨F, M, ρ, D, ss, q, k⟩ => ?_
  refine ⟨_, F, M, ρ, D, ⟨ss.hm, ss.env, ?_⟩, q, k⟩
  intro F' M' H' σ' ρ' C d xs ds s en xa rf ⟨b, eb, hy, hn⟩
  refine ⟨b, eb, fun hb1 a ha => ?_, fun hb0 => ss.xc F' M' H' σ' ρ' C d xs ds s en xa rf (hn hb0)⟩
  obtain ⟨im, q1⟩ := hy hb1
  have ck := k.step s
  refine ⟨C, xs, ds, F', rfl, rf, im, F', M', _, _, ⟨s.hm, en.set i (.ref a), fun F2 M2 H2 σ2 ρ2 C2 d2 xs2 ds2 s2 _ _ _ _ => ?_⟩, q1 a (s.hm.none ha).1, ?_⟩
  · cases d with
    | none => exact xa
    | some dd =>
      have xa' : H' dd = some (.xd xs) := xa
      refine s2.frm dd _ xa' ?_
      cases q2 : M' dd with
      | none => rfl
      | some o =>
        have := (s.hm.mo dd o q2).2
        cases o with
        | lst _ => obtain ⟨_, e, _⟩ := this; rw [xa'] at e; cases e
        | dic _ => obtain ⟨_, e, _⟩ := this; rw [xa'] at e; cases e
        | dit _ => obtain ⟨_, e, _⟩ := this; rw [xa'] at e; cases e
        | ins _ _ => obtain ⟨_, _, e, _⟩ := this; rw [xa'] at e; cases e
        | src _ => obtain ⟨_, _, _, _, _, e, _⟩ := this; rw [xa'] at e; cases e
        | hid => obtain ⟨_, e⟩ := this; rw [xa'] at e; cases e
  · exact ⟨fun σ4 H4 F4 ρ4 M4 s4 e4 q4 => ck.nx _ _ _ _ _ s4 (e4.unset i) q4, ck.rt, fun σ4 H4 F4 ρ4 M4 s4 e4 q4 => ck.bk _ _ _ _ _ s4 (e4.unset i) q4, fun σ4 H4 F4 ρ4 M4 s4 e4 q4 => ck.ct _ _ _ _ _ s4 (e4.unset i) q4⟩
theorem ds_tryOnly {u : TDS} (hs : X.stack = X.env :: X.outer) (hf : X.env.frame = some X.env.locals) (hc : Names X x c) (tk : Takes X fun cls d σ H => E0 σ cls d H)
    (hb : ∀ (W : WX) (Ee' : DEnv → DXK) (pn : List (Addr × Obj)) (xe : Value → Shared → Prop), Takes (X.tr pn xe) W → PassesOwn (model X.prog X.w) X.A X.env xe → DSs (X.tr pn xe) (WE W) Ee' body (t Ee'))
    (hsu : ∀ (a : Addr) (oe : Obj) (cls : Value) (d : Option Addr) (pn : List (Addr × Obj)), Zc cls d oe → (∃ vs, oe.data = .fields vs) → DSs (X.suite a ((a, oe) :: pn)) EN NX (b₀ :: suite) u) :
    DS X E0 Ee (.Try body [.ExceptHandler (some (.Name x np)) none (b₀ :: suite) pos'] [] [] pos) (dTryOnly (fun C => PySem.W.exmOne X.K (.ref C) c) t u Ee) := by
  refine PSimp (ps_try_only (tb := fun W => fun D0 σ H => ∃ Ee', lowS X.K (WE W) Ee' (t Ee') D0 σ H) (ts := fun a cls d => lowS X.K EN NX u) hs hf hc tk
    (fun W pn xe tk' po => ⟨fun pins s σ H D I ⟨Ee', q⟩ => (hb W Ee' pn xe tk' po).run pins s σ H D I q⟩) hsu) fun D0 σ H ⟨F, M, ρ, D, ss, q, k⟩ => ?_
  refine ⟨_, F, M, ρ, D, ⟨ss.hm, ss.env, ?_⟩, q, k⟩
  intro F' M' H' σ' ρ' C d xs ds s en xa rf ⟨b, eb, hy, hn⟩
  exact ⟨b, eb, fun hb1 a ha => ⟨F', M', ρ', D, ⟨s.hm, en, xc_no⟩, hy hb1, k.step s⟩, fun hb0 => ss.xc F' M' H' σ' ρ' C d xs ds s en xa rf (hn hb0)⟩
/-- e.f in such a suite -/
def dXf (K : PySem.W.Frag) (a C : Addr) (fs : List (Str × D)) (f : Str) (te : TDE) : TDE := fun ρ M Q => te ρ M fun x M1 => x = .ref a ∧ (XfC K C ∧ PySem.W.findIn K (.ref C) f = some none) ∧ ∃ v, fs.lookup f = some v ∧ Q v M1
theorem de_xf {a C : Addr} {oe : Obj} {d : Option Addr} {xs : List (Str × V)} {ds : List (Str × D)} {F : Hp} {pn : List (Addr × Obj)} {e : Expr} {te : TDE} {f : Str} (hz : Zc (.ref C) d oe) (hd : ∃ vs, oe.data = .fields vs) (rf : RpF X.K F xs ds) (im : ImmF ds)
    (he : DE (X.suite a ((a, oe) :: pn)) (ES d xs) ET e te) (hb : attributeBase e f X.env (eval e X.env) = eval e X.env := by rfl) : DE (X.suite a ((a, oe) :: pn)) (ES d xs) ET (.Attribute e f pos) (dXf X.K a C ds f te) := by
  refine ⟨fun pins s σ H Q I ⟨F1, M, ρ, Q1, ss, q, k⟩ => ?_⟩
  by_cases hh : XfC X.K C ∧ PySem.W.findIn X.K (.ref C) f = some none
  · refine (pe_xf (X := X) hh.1 hh.2 hz hd he hb).run pins s σ H Q I ⟨F1, M, ρ, _, ss, q, fun x H1 F2 dd M1 s1 r q1 => ?_⟩
    obtain ⟨rfl, _, v, hv, q2⟩ := q1
    cases r
    obtain ⟨u, hu, ru⟩ := rpF_look rf hv
    obtain ⟨p, hp, ep⟩ := lookup_memF hv
    have iv : imm v = true := by rw [← ep]; exact im p hp
    have xa : XAt H1 d xs := ss.xc F2 M1 H1 σ ρ C none [] [] s1 (ss.env.mono s1.fle) rfl .nil trivial
    cases d with
    | none =>
      have : xs = [] := xa
      subst this
      cases hu
    | some d0 => exact ⟨rfl, rfl, d0, xs, u, rfl, xa, hu, k _ _ _ _ _ s1 (rp_imm ru iv) q2⟩
  · exact attr_of hb (thn (he.run pins s σ H (fun _ _ => False) I ⟨F1, M, ρ, _, ss, q, fun x H1 F2 dd M1 s1 r q1 => hh q1.2.1⟩) fun u s1 h => by obtain ⟨_, _, _, _, z⟩ := h; exact z.elim)
end
end DL


set_option Elab.async false
set_option linter.all false
set_option maxRecDepth 100000
set_option maxHeartbeats 1000000
namespace DL
open PySem PySem.Spec PyProof.Rows L2 He
/-! ### what the head tells of own exceptions -/
def leBase : List Value := [.type "LookupError", .type "Exception", .type "BaseException", .type "object"]
/-- an own exception's __init__ -/
structure IniD where
  cls : Str
  val : Bool
  qual : Str
  params : Arguments
  body : List Stmt
  scope : Scope
def IniD.B (d : IniD) : String := if d.val = true then "ValueError" else "LookupError"
def IniD.nw (d : IniD) : String := if d.val = true then "ValueError.__new__" else "LookupError.__new__"
def IniD.ii (d : IniD) : String := if d.val = true then "ValueError.__init__" else "LookupError.__init__"
def IniD.bm (d : IniD) : List Value := if d.val = true then veBase else leBase
abbrev FnV : Type := Option (Str × Str × Arguments × FuncBody × Scope × Addr × List Str × Addr)
def fnV (K : PySem.W.Frag) (p : Str × Option Str) : FnV := match K.lookup (fAd K p) with
  | some ⟨_, _, .func fd, _⟩ => some (fd.name, fd.qualname, fd.params, fd.body, fd.scope, fd.globals, fd.closure.map (·.1), fd.builtins)
  | _ => none
def IniD.v (d : IniD) : FnV := some ("__init__", d.qual, d.params, .stmts d.body, d.scope, mainGlobals, ["__class__"], builtinsNs)
def xclsB (K : PySem.W.Frag) (C : Addr) (bmB : List Value) (newId : String) : Bool := match K.lookup C with
  | some ⟨.type "type", _, .cls cd, sl⟩ => (match cd.mro, sl.toList with
    | .ref C' :: bm, [_, _, _, _, some (.builtin n), _] => decide (C' = C) && (decide (n = newId) && (!cd.hasDel && (cd.hasDict && PySem.W.excTail bmB bm)))
    | _, _ => false)
  | _ => false
theorem xclsB_ok {K : PySem.W.Frag} {C : Addr} {bmB : List Value} {newId : String} (q : xclsB K C bmB newId = true) :
    ∃ nm qn N bs bm sn sub ab col dd k0 k1 k2 k3 k5, K.lookup C = some (excClassObj nm qn C N bs bm true sn sub ab col dd k0 k1 k2 k3 k5 newId) ∧ PySem.W.excTail bmB bm = true := by
  unfold xclsB at q
  split at q
  · rename_i dd cd sl ho
    split at q
    · rename_i C' bm k0 k1 k2 k3 n k5 hm hs
      obtain ⟨h1, q⟩ := ba q
      obtain ⟨h2, q⟩ := ba q
      obtain ⟨h3, q⟩ := ba q
      obtain ⟨h4, h5⟩ := ba q
      have e1 := of_decide_eq_true h1
      have e2 := of_decide_eq_true h2
      subst e1 e2
      obtain ⟨nm, bs, mro, ns, qn, hd, sn, sub, ab, col, del⟩ := cd
      dsimp only at hm h3 h4
      have h3' : del = false := by simpa using h3
      subst hm h3' h4
      have hsl : sl = #[k0, k1, k2, k3, some (.builtin n), k5] := by
        obtain ⟨l⟩ := sl
        simp only at hs
        rw [hs]
      subst hsl
      exact ⟨nm, qn, ns, bs, bm, sn, sub, ab, col, dd, k0, k1, k2, k3, k5, ho, h5⟩
    · cases q
  · cases q
/-- the class alone -/
def clsXB (K : PySem.W.Frag) (d : IniD) : Bool := xclsB K (ga K d.cls) d.bm d.nw && (eqO (PySem.W.findIn K (.ref (ga K d.cls)) "__setattr__") (some (some (.builtin "object.__setattr__"))) && (decide (PySem.W.subIn K (.ref (ga K d.cls)) (.type "BaseException") = some true) &&
  (decide (PySem.W.subIn K (.ref (ga K d.cls)) (.type d.B) = some true) && (decide (PySem.W.typeIn K (.ref (ga K d.cls)) = some (.type "type")) && PySem.W.keepIn K (.ref (ga K d.cls))))))
def iniXB (K : PySem.W.Frag) (fl : Str) (d : IniD) : Bool := match K.lookup (fAd K (d.cls, some "__init__")) with
  | some ⟨_, _, .func fd, _⟩ => (match fd.closure, fd.code, fd.defaults with
    | [(_, cc)], .ref cda, .none => PySem.W.codeIn K (.ref cda) d.qual && ((match K.lookup cda with
        | some ⟨_, _, .fields vs, _⟩ => (match (vs[2]? : Option Value) with
          | some (Value.str file _) => fl == file
          | _ => false)
        | _ => false) && ((match K.lookup cc with
        | some ⟨_, _, .cell (some (.ref C')), _⟩ => decide (C' = ga K d.cls)
        | _ => false) && (eqO (PySem.W.ks_superIn K (ga K d.cls) (ga K d.cls) "__init__") (some (some (.builtin d.ii))) && (eqO (PySem.W.nsIn K PySem.cStatics "thirdparty.any") (some none) &&
          (eqO (PySem.W.findIn K (.ref (ga K d.cls)) "__init__") (some (some (.ref (fAd K (d.cls, some "__init__"))))) && (decide (PySem.W.typeIn K (.ref (fAd K (d.cls, some "__init__"))) = some (.type "function")) && decide (PySem.W.mroIn K (ga K d.cls) (.ref (ga K d.cls)) = some true)))))))
    | _, _, _ => false)
  | _ => false
theorem clsXB_ok {K : PySem.W.Frag} {d : IniD} (h : clsXB K d = true) : XCls K (ga K d.cls) d.B d.nw d.ii d.bm := by
  obtain ⟨h1, h⟩ := ba h
  obtain ⟨h2, h⟩ := ba h
  obtain ⟨h3, h⟩ := ba h
  obtain ⟨h4, h⟩ := ba h
  obtain ⟨h5, h6⟩ := ba h
  have c := xclsB_ok h1
  have sa := eqO_ok h2
  have e3 := of_decide_eq_true h3
  have e4 := of_decide_eq_true h4
  have e5 := of_decide_eq_true h5
  unfold IniD.B IniD.nw IniD.ii IniD.bm at *
  cases e : d.val with
  | true =>
    simp only [e, if_true] at c e4 ⊢
    exact ⟨F.excBase_ValueError, F.store_ValueError, PySem.W.kxs_ValueError, by decide +kernel, c, sa, e3, e4, e5, h6⟩
  | false =>
    simp only [e, Bool.false_eq_true, if_false] at c e4 ⊢
    exact ⟨F.excBase_LookupError, F.store_LookupError, PySem.W.kxs_LookupError, by decide +kernel, c, sa, e3, e4, e5, h6⟩
theorem iniXB_ok {P : Program} {K : PySem.W.Frag} {d : IniD} (e : fnV K (d.cls, some "__init__") = d.v) (h : iniXB K P.main.file d = true) (ht : (P.main.scope.names.lookup ("super" : Str)).isSome = false) :
    ∃ cda cc fd, XIni P K (ga K d.cls) (fAd K (d.cls, some "__init__")) d.ii "__init__" d.qual d.params d.body d.scope cda cc fd := by
  unfold fnV at e
  unfold iniXB at h
  cases q : K.lookup (fAd K (d.cls, some "__init__")) with
  | none => rw [q] at h; cases h
  | some o =>
    obtain ⟨oc, od, dt, osl⟩ := o
    rw [q] at h e
    cases dt with
    | func fd =>
      obtain ⟨n1, n2, n3, n4, n5, n6, n7, n8, n9, n10, n11, n12, n13, n14, n15⟩ := fd
      have e2 : (some (n1, n2, n3, n4, n5, n6, n7.map (·.1), n15) : FnV) = (some ("__init__", d.qual, d.params, .stmts d.body, d.scope, mainGlobals, ["__class__"], builtinsNs) : FnV) := e
      simp only [Option.some.injEq, Prod.mk.injEq] at e2
      obtain ⟨h1, h2, h3, h4, h5, h6, h7, h8⟩ := e2
      dsimp only at h
      split at h
      · rename_i nm cc cda
        have hnm : nm = ("__class__" : Str) := by simpa using h7
        subst h1 h2 h3 h4 h5 h6 h8 hnm
        obtain ⟨k1, h⟩ := ba h
        obtain ⟨k2, h⟩ := ba h
        obtain ⟨k3, h⟩ := ba h
        obtain ⟨k4, h⟩ := ba h
        obtain ⟨k5, h⟩ := ba h
        obtain ⟨k6, h⟩ := ba h
        obtain ⟨k7, k8⟩ := ba h
        refine ⟨cda, cc, _, ⟨oc, od, n9, n10, n11, n14, n12, osl, rfl, q⟩, k1, ?_, ?_, eqO_ok k4, eqO_ok k5, eqO_ok k6, of_decide_eq_true k7, of_decide_eq_true k8, ht⟩
        · split at k2
          · rename_i o1 o2 vs o3 hl
            split at k2
            · rename_i file tf hv
              exact ⟨_, _, vs, _, file, tf, hl, hv, k2⟩
            · cases k2
          · cases k2
        · split at k3
          · rename_i o1 o2 C' o3 hl
            have := of_decide_eq_true k3
            subst this
            exact ⟨_, _, _, hl⟩
          · cases k3
      · cases h
    | _ => cases h
/-! ### the Hook -/
def asE (g : Addr → Option Obj) (n : Nat) : List Addr := PySem.cStatics :: asD g n
abbrev AlE : Type := (Bool × List FnW) × List FnV
def obsE2 (fl : Str) (fa : List Fa) (fn : List DefD) (ix cx : List IniD) (ex : PySem.W.Frag → Bool) (K : PySem.W.Frag) : AlE := ((((fa.all fun f => f.ok K) && fn.all fun d => d.ok K) && ((ix.all fun d => clsXB K d && iniXB K fl d) && ((cx.all fun d => clsXB K d) && ex K)), fn.map fun d => fnW K d.at_), ix.map fun d => fnV K (d.cls, some "__init__"))
def valE2 (fn : List DefD) (ix : List IniD) : AlE := ((true, fn.map DefD.val), ix.map IniD.v)
def SaysE (fl : Str) (fa : List Fa) (fn : List DefD) (ix cx : List IniD) (ex : PySem.W.Frag → Bool) (K : PySem.W.Frag) : Prop := obsE2 fl fa fn ix cx ex K = valE2 fn ix
def obsEG (n : Nat) (fl : Str) (fa : List Fa) (fn : List DefD) (ix cx : List IniD) (ex : PySem.W.Frag → Bool) (g : Addr → Option Obj) : AlE := obsE2 fl fa fn ix cx ex (frG g (asE g n))
def hookE (n : Nat) (fl : Str) (fa : List Fa) (fn : List DefD) (ix cx : List IniD) (ex : PySem.W.Frag → Bool) : PySem.W.Hook where
  α := AlE
  obs := fun s => obsEG n fl fa fn ix cx ex s.heap.get?
  val := fun _ => valE2 fn ix
  says := fun _ h => ∃ K : PySem.W.Frag, K.In h ∧ SaysE fl fa fn ix cx ex K
  of := fun _ _ e => ⟨_, frG_in, e⟩
  keeps := fun _ _ _ ⟨K, hK, c⟩ k => ⟨K, PySem.W.Frag.In.keeps hK k, c⟩
theorem obsEG_eq {n : Nat} {fl : Str} {fa : List Fa} {fn : List DefD} {ix cx : List IniD} {ex : PySem.W.Frag → Bool} {g : Addr → Option Obj} {s : Shared} (h : ∀ a, g a = s.heap.get? a) : obsEG n fl fa fn ix cx ex g = (hookE n fl fa fn ix cx ex).obs s := by
  have e : g = s.heap.get? := funext h
  rw [e] <;> rfl
section
variable {fl : Str} {fa : List Fa} {fn : List DefD} {ix cx : List IniD} {ex : PySem.W.Frag → Bool} {K : PySem.W.Frag}
theorem SaysE.all (c : SaysE fl fa fn ix cx ex K) : (((fa.all fun f => f.ok K) && fn.all fun d => d.ok K) && ((ix.all fun d => clsXB K d && iniXB K fl d) && ((cx.all fun d => clsXB K d) && ex K))) = true := congrArg (fun z : AlE => z.1.1) c
theorem SaysE.fact (c : SaysE fl fa fn ix cx ex K) (i : Nat) {f : Fa} (h : fa[i]? = some f := by rfl) : f.ok K = true :=
  List.all_eq_true.mp (ba (ba c.all).1).1 f (List.mem_of_getElem? h)
theorem SaysE.def_ (c : SaysE fl fa fn ix cx ex K) (i : Nat) {d : DefD} (h : fn[i]? = some d := by rfl) : ∃ fd, FunD K d.name d.qual d.params d.body d.scope (d.dvs K) (d.kws K) (fAd K d.at_) fd := by
  have e : fn.map (fun d => fnW K d.at_) = fn.map DefD.val := congrArg (fun z : AlE => z.1.2) c
  have e2 : (fn.map fun d => fnW K d.at_)[i]? = (fn.map DefD.val)[i]? := by rw [e]
  rw [List.getElem?_map, List.getElem?_map, h] at e2
  exact DefD.funD (Option.some.inj e2) (List.all_eq_true.mp (ba (ba c.all).1).2 d (List.mem_of_getElem? h))
theorem SaysE.cls (c : SaysE fl fa fn ix cx ex K) (i : Nat) {d : IniD} (h : cx[i]? = some d := by rfl) : XCls K (ga K d.cls) d.B d.nw d.ii d.bm :=
  clsXB_ok (List.all_eq_true.mp (ba (ba (ba c.all).2).2).1 d (List.mem_of_getElem? h))
theorem SaysE.exB (c : SaysE fl fa fn ix cx ex K) : ex K = true := (ba (ba (ba c.all).2).2).2
theorem SaysE.ini {P : Program} (c : SaysE P.main.file fa fn ix cx ex K) (ht : (P.main.scope.names.lookup ("super" : Str)).isSome = false) (i : Nat) {d : IniD} (h : ix[i]? = some d := by rfl) :
    XCls K (ga K d.cls) d.B d.nw d.ii d.bm ∧ ∃ cda cc fd, XIni P K (ga K d.cls) (fAd K (d.cls, some "__init__")) d.ii "__init__" d.qual d.params d.body d.scope cda cc fd := by
  obtain ⟨h1, h2⟩ := ba (List.all_eq_true.mp (ba (ba c.all).2).1 d (List.mem_of_getElem? h))
  have e : ix.map (fun d => fnV K (d.cls, some "__init__")) = ix.map IniD.v := congrArg (fun z : AlE => z.2) c
  have e2 : (ix.map fun d => fnV K (d.cls, some "__init__"))[i]? = (ix.map IniD.v)[i]? := by rw [e]
  rw [List.getElem?_map, List.getElem?_map, h] at e2
  exact ⟨clsXB_ok h1, iniXB_ok (Option.some.inj e2) h2 ht⟩
end
end DL


set_option Elab.async false
set_option linter.all false
set_option maxRecDepth 100000
set_option maxHeartbeats 1000000
namespace DL
open PySem PySem.Spec PyProof.Rows L2
/-- an own exception of no field, of one -/
def EX0 (P : Program) (w : World) (K : PySem.W.Frag) (mg : Str → Option Value) (base : Heap) (x : Str) (C : Addr) : Prop := ∃ B nw ii bm fI fd ps, XCls K C B nw ii bm ∧ PySem.W.findIn K (.ref C) "__init__" = some (some (.ref fI)) ∧ PySem.W.typeIn K (.ref fI) = some (.type "function") ∧
  FnOk P w K mg base (L2.CX P w) 1 fI fd ps (sp0 C) ∧ Binds K fd ps [] ∧ mg x = some (.ref C)
def EX1 (P : Program) (w : World) (K : PySem.W.Frag) (mg : Str → Option Value) (base : Heap) (x : Str) (C : Addr) (f : Str) (okV : V → Prop) : Prop := ∃ B nw ii bm fI fd ps, XCls K C B nw ii bm ∧ PySem.W.findIn K (.ref C) "__init__" = some (some (.ref fI)) ∧ PySem.W.typeIn K (.ref fI) = some (.type "function") ∧
  FnOk P w K mg base (L2.CX P w) 1 fI fd ps (sp1 C f okV) ∧ Binds K fd ps [] ∧ mg x = some (.ref C)
section
variable {X : Cx} {E0 : L2.St → XK} {Ee : DEnv → DXK} {x f : Str} {C : Addr} {k : Nat} {e : Expr} {te : TDE} {p pos pos2 : Pos} {okV : V → Prop} {ok : D → Prop}
theorem rz0 (F : EX0 X.prog X.w X.K X.mg X.base x C) (hr : Room k X.A) (hk : 2 ≤ k) (tk : Takes X fun cls d σ H => E0 σ cls d H) (hc : X.calm = true) (hg : Gl X x) (hdb : (x == ("__debug__" : Str)) = false := by decide) :
    DS X E0 Ee (.Raise (some (.Call (.Name x p) [] [] pos)) none pos2) (dRaise Ee C dX0) := by
  obtain ⟨B, nw, ii, bm, fI, fd, ps, T, iC, tI, F1, hb, hm⟩ := F
  exact ds_raise hc tk (dx_S0 T iC tI F1 hr hk hb hg hm hdb)
theorem rz1 (F : EX1 X.prog X.w X.K X.mg X.base x C f okV) (hok : ∀ F v d, Rp X.K F v d → ok d → okV v) (hr : Room k X.A) (hk : 2 ≤ k) (tk : Takes X fun cls d σ H => E0 σ cls d H) (hc : X.calm = true) (hg : Gl X x) (he : DE X E0 Ee e te)
    (h1 : starEach [e] X.env = (false, eval e X.env) :: starEach [] X.env := by rfl) (hdb : (x == ("__debug__" : Str)) = false := by decide) (hpl : (backTo pos (starEach [] X.env)).any (·.1) = false := by rfl) :
    DS X E0 Ee (.Raise (some (.Call (.Name x p) [e] [] pos)) none pos2) (dRaise Ee C (dX1 f ok te)) := by
  obtain ⟨B, nw, ii, bm, fI, fd, ps, T, iC, tI, F1, hb, hm⟩ := F
  exact ds_raise hc tk (dx_S1 T iC tI F1 hok hr hk hb hg hm he h1 hdb hpl)
end
/-- f'a{x}b', x an int -/
def okI (v : V) : Prop := ∃ i : Int, v = .int i ∧ i.natAbs < 10 ^ 8
def okD (d : D) : Prop := ∃ i : Int, d = .int i ∧ i.natAbs < 10 ^ 8
theorem okD_I {K : PySem.W.Frag} : ∀ F v d, Rp K F v d → okD d → okI v := fun F v d r ⟨i, e, h⟩ => by subst e; cases r; exact ⟨i, rfl, h⟩
theorem log2_lt {n : Nat} (h : n < 10 ^ 8) : n.log2 < 1920 := by
  have : n.log2 ≤ n := Nat.log2_le_self n
  by_cases h0 : n = 0
  · subst h0; decide
  · have h1 := Nat.log2_lt (n := n) (k := 30) h0
    have h2 : n.log2 < 30 := h1.mpr (Nat.lt_trans h (by decide))
    omega
theorem txt_len {i : Int} (h : i.natAbs < 10 ^ 8) : ((toString i : Str)).length ≤ 1000 := by
  have e := PySem.int_text_length_le10 (k := 8) (a := i) (by decide) h
  rw [show ((toString i : Str)).length = (Str.ofString (toString i)).length from rfl, PySem.ofString_length]
  omega
theorem joinI {X : Cx} {a b : Str} {i : Nat} {te : TE} {e : Expr} {j1 j2} {q1 q2 q3 q4 : Pos} (he : PE X e (tVar 1)) (ha : a.length ≤ 1000) (hb : b.length ≤ 1000) :
    ∃ te, PE X (.JoinedStr [.Constant (.str a) j1 q1, .FormattedValue e (-1) none q2, .Constant (.str b) j2 q3] q4) te ∧ ∀ (y : V) (r : Addr) (H : Hp) (G : Hp → Prop), okI y → G H → te [some (.ref r), some y] H fun _ H2 => G H2 := by
  refine ⟨_, pe_joined (.cons pe_str (.cons (pe_fmt he) (.cons pe_str .nil))), fun y r H G ⟨i, ey, hi⟩ hG => ?_⟩
  subst ey
  have l := txt_len hi
  refine ⟨a, rfl, ?_, ⟨_, rfl, .inr ⟨i, rfl, log2_lt hi, ⟨_, rfl, ?_, ⟨b, rfl, ?_, hG⟩⟩⟩⟩⟩
  · rw [Str.length_append, sizeLine_eq]; have : (Str.empty).length = 0 := rfl; omega
  · rw [Str.length_append, Str.length_append, sizeLine_eq]; have : (Str.empty).length = 0 := rfl; omega
  · rw [Str.length_append, Str.length_append, Str.length_append, sizeLine_eq]; have : (Str.empty).length = 0 := rfl; omega
def dJoinE (to te : TDE) : TDE := fun ρ M Q => to ρ M fun x M1 => ∃ a, x = .str a ∧ te ρ M1 fun y M2 => ∃ ys, (vw M2 y = .lst (ys.map .str) ∨ vw M2 y = .tup (ys.map .str)) ∧ sumL ys + ys.length * a.length ≤ 16777216 ∧ Q (.str (joinD a ys)) M2
theorem de_joinE {X : Cx} {E0 : L2.St → XK} {Ee : DEnv → DXK} {o e : Expr} {to te : TDE} {apos pos : Pos} (ho : DE X E0 Ee o to) (he : DE X E0 Ee e te) (hs : starEach [e] X.env = [(false, eval e X.env)] := by rfl) (hbase : attributeBase o "join" X.env (eval o X.env) = eval o X.env := by rfl) (hline : (apos.endLine == pos.line) = true := by rfl) :
    DE X E0 Ee (.Call (.Attribute o "join" apos) [e] [] pos) (dJoinE to te) := by
  refine PEimp (pe_join ho he hs hbase hline) fun σ H Q0 ⟨F, M, ρ, Q, ss, q, k⟩ => ?_
  refine ⟨F, M, ρ, _, ss, q, fun x H1 F1 dx M1 s1 rx q1 => ?_⟩
  obtain ⟨a, rfl, q1⟩ := q1
  cases rx
  refine ⟨⟨_, rfl⟩, F1, M1, ρ, _, ss.step s1, q1, fun y H2 F2 dy M2 s2 ry q2 => ?_⟩
  obtain ⟨ys, hy, hz, q3⟩ := q2
  have c := Ct.vw s2.hm ry
  have z : (((ys.map mkS).map (·.length)).sum + (ys.map mkS).length * (mkS a).length ≤ 16777216) ∧ Q0 (.str (Txt.join (mkS a) (ys.map mkS))) H2 := by
    refine ⟨?_, ?_⟩
    · rw [sumL_eq, List.length_map, mkS_len]; exact hz
    · rw [join_eq]; exact (k.step (s1.trans s2)).end s2.hm (.str _) q3
  rcases hy with hy | hy
  · rw [hy] at c
    obtain ⟨p, xs, rfl, e, rl⟩ := c
    rw [RpL.of_strs rl] at e
    exact ⟨_, p, ys.map mkS, rfl, rfl, .inl (SqL.of e), z⟩
  · rw [hy] at c
    obtain ⟨p, xs, rfl, e, rl⟩ := c
    rw [RpL.of_strs rl] at e
    exact ⟨_, p, ys.map mkS, rfl, rfl, .inr (SqT.of e), z⟩
theorem dcut_take {α : Type} {l : List α} {i : Int} {k : Nat} (hi : i = (k : Int)) : dcut l none (some i) = l.take k := by
  subst hi
  unfold dcut
  rw [HT.sIx_nat, HT.sIx_none, List.drop_zero, Nat.sub_zero]
  by_cases h : k ≤ l.length
  · rw [Nat.min_eq_left h]
  · rw [Nat.min_eq_right (by omega), List.take_of_length_le (Nat.le_refl _), List.take_of_length_le (by omega)]
theorem dcut_drop {α : Type} {l : List α} {i : Int} {k : Nat} (hi : i = (k : Int)) : dcut l (some i) none = l.drop k := by
  subst hi
  unfold dcut
  rw [HT.sIx_nat, HT.sIx_none]
  by_cases h : k ≤ l.length
  · rw [Nat.min_eq_left h, List.take_of_length_le (by simp)]
  · rw [Nat.min_eq_right (by omega), Nat.sub_self, List.take_zero, List.drop_eq_nil_of_le (by omega)]
end DL


set_option Elab.async false
set_option linter.all false
set_option maxRecDepth 100000
set_option maxHeartbeats 400000
namespace K14
open PySem PySem.Spec PyProof.Rows L2 DL
def top (i : Nat) : Stmt := PySem.Challenge.pw_equalkin_k14_texts_that_tell_no_term.main.body.getD i (.Pass ⟨0, 0, 0, 0⟩)
abbrev s_write_term : Stmt := top 7
abbrev s_behind_blanks : Stmt := top 8
abbrev s_behind_word : Stmt := top 9
abbrev s_term_at : Stmt := top 10
abbrev s_read_term : Stmt := top 11
abbrev s__law_source : Stmt := top 13
abbrev s__law_pick : Stmt := top 14
abbrev s__law_text : Stmt := top 15
abbrev s__law_spoilt : Stmt := top 16
abbrev s__law_due : Stmt := top 17
abbrev s__law_said : Stmt := top 18
abbrev s_law : Stmt := top 19
theorem sc_write_term : FnScope ["term", "parts", "part"] ["term"] (defScope s_write_term) := ⟨rfl, rfl, rfl, by decide +kernel, rfl, by decide +kernel, by decide +kernel⟩
theorem sc_behind_blanks : FnScope ["text", "place"] ["text", "place"] (defScope s_behind_blanks) := ⟨rfl, rfl, rfl, by decide +kernel, rfl, by decide +kernel, by decide +kernel⟩
theorem sc_behind_word : FnScope ["text", "place", "end"] ["text", "place"] (defScope s_behind_word) := ⟨rfl, rfl, rfl, by decide +kernel, rfl, by decide +kernel, by decide +kernel⟩
theorem sc_term_at : FnScope ["text", "place", "end", "word", "after", "parts", "part"] ["text", "place"] (defScope s_term_at) := ⟨rfl, rfl, rfl, by decide +kernel, rfl, by decide +kernel, by decide +kernel⟩
theorem sc_read_term : FnScope ["text", "term", "after", "end"] ["text"] (defScope s_read_term) := ⟨rfl, rfl, rfl, by decide +kernel, rfl, by decide +kernel, by decide +kernel⟩
theorem sc__law_source : FnScope ["script", "mixed", "cell", "cells", "k"] ["script"] (defScope s__law_source) := ⟨rfl, rfl, rfl, by decide +kernel, rfl, by decide +kernel, by decide +kernel⟩
theorem sc__law_pick : FnScope ["source", "many", "cells", "left", "turn", "mixed"] ["source", "many"] (defScope s__law_pick) := ⟨rfl, rfl, rfl, by decide +kernel, rfl, by decide +kernel, by decide +kernel⟩
theorem sc__law_text : FnScope ["source", "deep", "signs", "word", "k", "parts", "blank"] ["source", "deep"] (defScope s__law_text) := ⟨rfl, rfl, rfl, by decide +kernel, rfl, by decide +kernel, by decide +kernel⟩
theorem sc__law_spoilt : FnScope ["source", "text", "spot", "sign", "pick"] ["source", "text"] (defScope s__law_spoilt) := ⟨rfl, rfl, rfl, by decide +kernel, rfl, by decide +kernel, by decide +kernel⟩
theorem sc__law_due : FnScope ["text", "letters", "stand", "deep", "word", "k", "sign"] ["text"] (defScope s__law_due) := ⟨rfl, rfl, rfl, by decide +kernel, rfl, by decide +kernel, by decide +kernel⟩
theorem sc__law_said : FnScope ["text", "said", "e"] ["text"] (defScope s__law_said) := ⟨rfl, rfl, rfl, by decide +kernel, rfl, by decide +kernel, by decide +kernel⟩
theorem sc_law : FnScope ["script", "source", "k", "text", "n", "due"] ["script"] (defScope s_law) := ⟨rfl, rfl, rfl, by decide +kernel, rfl, by decide +kernel, by decide +kernel⟩
def letters : Cd := [97, 98, 99, 100, 101, 102, 103, 104, 105, 106, 107, 108, 109, 110, 111, 112, 113, 114, 115, 116, 117, 118, 119, 120, 121, 122]
def chars : Cd := letters ++ [48, 49, 50, 51, 52, 53, 54, 55, 56, 57]
/-- what the module's names are -/
structure Mg (mg : Str → Option Value) : Prop where
  len : mg "len" = none
  int : mg "int" = none
  abs : mg "abs" = none
  str : mg "str" = none
  tuple : mg "tuple" = none
  isinstance : mg "isinstance" = none
  range : mg "range" = none
  LETTERS : GV mg "LETTERS" (.str (mkS letters))
  CHARACTERS : GV mg "CHARACTERS" (.str (mkS chars))
  MOST_CHARACTERS : GV mg "MOST_CHARACTERS" (.int 12)
section
variable {P : Program} {w : World} {K : PySem.W.Frag} {mg : Str → Option Value} {base : Heap}
abbrev FunT (K : PySem.W.Frag) (x : Str) (st : Stmt) (f : Addr) (fd : FuncData) : Prop := FunD K x x (defArgs st) (defBody st) (defScope st) [] [] f fd
/-- behind_blanks -/
def blank (b : Cd) : Prop := ∀ c ∈ b, c = 32
def bbSp : DSp := fun ds M Q _ => ∃ (l a b r : Cd) (i : Int), ds = [.str l, .int i] ∧ i = (a.length : Int) ∧ l = a ++ (b ++ r) ∧ l.length ≤ 1000000 ∧ blank b ∧ r.head? ≠ some 32 ∧ Q (.int ((a.length : Int) + b.length)) M
theorem ok_bb {f : Addr} {fd : FuncData} (m : Mg mg) (Fd : FunT K "behind_blanks" s_behind_blanks f fd) : FnOk P w K mg base (L2.CX P w) 1 f fd ["text", "place"] (lift K bbSp) := by
  refine dfn Fd sc_behind_blanks (fun ds M Q E h => ?_) fun cdv A outer s H E Ed hr => ⟨_, (dss_cons (ds_while (passes_of rfl) (DW.dt (dw_and (dt_lt (vr 1) (de_len rfl m.len (vr 0))) (dw_and1 (dt_eq (Rm64 hr) (de_ix (Rm1 hr) (vr 0) (vr 1)) (de_str [32] (by kernel_rfl)))))) (dss_one (sAdd 1 sc_behind_blanks.nd de_int))) (dss_one (ds_ret (vr 1)))), fun ds M Q cl h => ?_⟩
  · obtain ⟨l, a, b, r, i, rfl, _⟩ := h; rfl
  · obtain ⟨l, a, b, r, i, rfl, rfl, hl, hz, hb, hn, q⟩ := h
    have hzz : l.length ≤ sizeLine := by rw [sizeLine_eq]; omega
    refine ⟨fun m ρ M' => M' = M ∧ ∃ k : Nat, m = b.length - k ∧ k ≤ b.length ∧ ρ = [some (.str l), some (.int ((a.length : Int) + k))], ⟨_, rfl, 0, rfl, Nat.zero_le _, by simp [dstart]⟩, ?_⟩
    rintro m ρ M' ⟨rfl, k, rfl, hk, rfl⟩
    simp only [dVar, dC, dOp, dTest, dTru, dAnd, dOr, dNot, dAndV, dOrV, dNotV, dIfE, dNil, dCons, dStar, dTup, dLst, dLstM, dFrz, dNeg, oEq, oNe, dNoO, dSoO, dSl, dNext, dSeq, dBreak, dCont, dExpr, dRet, dRetN, dIf, gNm, gNl, gCn, gTp, dAsg, dSet, dAug, dIter, dRng1, dRng2, dYes, dCallB, f1, dIsi, dJoinAt, dFmt, dJs, dJoined, dCall, dstart, rget, rset, dwipe, gSb, dApp, dPop, fMax2, fMin2, dNever, dPairs, dDispG, dDisp, dDispM, dNewK, dNewT, keyD, if_true, if_false, decide_eq_true_eq, Bool.false_eq_true, List.map_cons, List.map_nil, List.length_cons, List.length_nil, List.cons_append, List.nil_append, Nat.reduceAdd, Nat.reduceSub, List.reduceReplicate, e_vw_non, e_vw_bl, e_vw_int, e_vw_str, e_vw_scr, e_vw_lst, e_vw_tup, e_vw_dic, e_vw_dit, e_vw_obj, e_vw_ty, e_flat_non, e_isn_non, e_ty_non, e_flat_bl, e_isn_bl, e_ty_bl, e_flat_int, e_isn_int, e_ty_int, e_flat_str, e_isn_str, e_ty_str, e_flat_scr, e_isn_scr, e_ty_scr, e_flat_lst, e_isn_lst, e_ty_lst, e_flat_tup, e_isn_tup, e_ty_tup, e_flat_dic, e_isn_dic, e_ty_dic, e_flat_dit, e_isn_dit, e_flat_obj, e_isn_obj, e_flat_ty, e_isn_ty, e_add_ii, e_add_ss, e_add_ll, e_add_tt, e_iadd_ii, e_iadd_ss, e_sub_ii, e_mul_ii, e_mul_li, e_mul_si, e_fdiv_ii, e_mod_ii, e_pow_ii, e_deq_nn, e_deq_ii, e_deq_ss, e_deq_bb, e_deq_tt, e_deq_ll, e_deq_st, e_deq_ts, e_deql_n, e_deql_c, e_deql_nc, e_deql_cn, e_isN, e_ix_l, e_ix_t, e_ix_c, e_ix_s, e_ix_d, e_ix_dt, e_in_l, e_in_t, e_in_s, e_in_d, e_in_dt, e_sl_l, e_sl_t, e_sl_s, e_len_lst, e_len_tup, e_len_s, e_len_c, e_len_d, e_int_i, e_abs_i, e_str_i, e_tup_l, e_tup_t, e_oLst0_l, e_oLst0_t, e_oLst0M_l, e_oLst0M_t, e_set_l, e_set_d, e_set_t, e_key_i, e_key_s, e_isT_non_bool, e_isT_non_int, e_isT_non_str, e_isT_non_list, e_isT_non_tuple, e_isT_non_dict, e_isT_bool_bool, e_isT_bool_int, e_isT_bool_str, e_isT_bool_list, e_isT_bool_tuple, e_isT_bool_dict, e_isT_int_bool, e_isT_int_int, e_isT_int_str, e_isT_int_list, e_isT_int_tuple, e_isT_int_dict, e_isT_str_bool, e_isT_str_int, e_isT_str_str, e_isT_str_list, e_isT_str_tuple, e_isT_str_dict, e_isT_list_bool, e_isT_list_int, e_isT_list_str, e_isT_list_list, e_isT_list_tuple, e_isT_list_dict, e_isT_tuple_bool, e_isT_tuple_int, e_isT_tuple_str, e_isT_tuple_list, e_isT_tuple_tuple, e_isT_tuple_dict, e_isT_dict_bool, e_isT_dict_int, e_isT_dict_str, e_isT_dict_list, e_isT_dict_tuple, e_isT_dict_dict, e_lt, e_le, e_gt, e_ge ]
    refine ⟨hzz, ?_⟩
    have len : l.length = a.length + (b.length + r.length) := by rw [hl]; simp
    by_cases hlt : k < b.length
    · rw [if_pos (by omega)]
      have hx : l[a.length + k]? = some 32 := by
        rw [hl, List.getElem?_append_right (by omega), Nat.add_sub_cancel_left, List.getElem?_append_left hlt, List.getElem?_eq_getElem hlt, hb _ (List.getElem_mem hlt)]
      refine ⟨hzz, 32, atI_n (j := a.length + k) (by simp) hx, .inl ⟨trivial, trivial⟩, ?_⟩
      rw [if_pos (by decide)]
      exact ⟨_, by omega, trivial, k + 1, rfl, by omega, by simp; omega⟩
    · have hk' : k = b.length := by omega
      subst hk'
      split
      · have hx : ∃ c, r.head? = some c ∧ l[a.length + b.length]? = some c := by
          cases r with
          | nil => simp at len; omega
          | cons c r => exact ⟨c, rfl, by rw [hl, List.getElem?_append_right (by omega), Nat.add_sub_cancel_left, List.getElem?_append_right (by omega)]; simp⟩
        obtain ⟨c, h1, h2⟩ := hx
        refine ⟨hzz, c, atI_n (j := a.length + b.length) (by simp) h2, .inl ⟨trivial, trivial⟩, ?_⟩
        rw [if_neg (by intro z; simp at z; subst z; exact hn h1)]
        exact ⟨_, cl, q⟩
      · exact ⟨_, cl, q⟩
/-- behind_word -/
structure Wd (w : Cd) : Prop where
  ne : w ≠ []
  hd : ∀ c, w.head? = some c → c ∈ letters
  al : ∀ c ∈ w, c ∈ chars
  le : w.length ≤ 12
inductive Rs (α : Type) where
  | ok (a : α) (r : Cd)
  | bad (r : Cd)
def isB (c : Nat) : Bool := c == 32
def isC (c : Nat) : Bool := decide (c ∈ chars)
def skip (s : Cd) : Cd := s.dropWhile isB
theorem tw_get {p : Nat → Bool} : ∀ {s : Cd} {k : Nat}, k < (s.takeWhile p).length → ∃ c, s[k]? = some c ∧ p c = true
  | [], k, h => by simp at h
  | x :: s, k, h => by
    cases hp : p x with
    | false => simp [List.takeWhile_cons, hp] at h
    | true =>
      cases k with
      | zero => exact ⟨x, rfl, hp⟩
      | succ k =>
        simp only [List.takeWhile_cons, hp, List.length_cons] at h
        exact tw_get (s := s) (k := k) (by simpa using h)
theorem tw_end {p : Nat → Bool} : ∀ {s : Cd} {c : Nat}, s[(s.takeWhile p).length]? = some c → p c = false
  | [], c, h => by simp at h
  | x :: s, c, h => by
    cases hp : p x with
    | false =>
      simp only [List.takeWhile_cons, hp] at h
      have : x = c := by simpa using h
      rw [← this]; exact hp
    | true =>
      simp only [List.takeWhile_cons, hp] at h
      exact tw_end (s := s) (by simpa using h)
theorem tw_app (p : Nat → Bool) (s : Cd) : s = s.takeWhile p ++ s.dropWhile p := (List.takeWhile_append_dropWhile ..).symm
theorem dw_drop (p : Nat → Bool) : ∀ s : Cd, s.dropWhile p = s.drop (s.takeWhile p).length
  | [] => rfl
  | x :: s => by
    cases hp : p x with
    | false => simp [List.takeWhile_cons, List.dropWhile_cons, hp]
    | true => simp [List.takeWhile_cons, List.dropWhile_cons, hp, dw_drop p s]
theorem skip_head (s : Cd) : (skip s).head? ≠ some 32 := fun h => by
  have h2 : (skip s)[0]? = some 32 := by rw [← List.head?_eq_getElem?]; exact h
  unfold skip at h2
  rw [dw_drop, List.getElem?_drop, Nat.add_zero] at h2
  have := tw_end h2
  simp [isB] at this
theorem tw_blank (s : Cd) : blank (s.takeWhile isB) := fun c hc => by
  obtain ⟨k, hk, e⟩ := List.getElem_of_mem hc
  obtain ⟨c2, h1, h2⟩ := tw_get hk
  have : (s.takeWhile isB)[k]? = some c2 := by
    conv at h1 => lhs; rw [tw_app isB s]
    rwa [List.getElem?_append_left hk] at h1
  rw [List.getElem?_eq_getElem hk, e] at this
  cases this
  simpa [isB] using h2
def bwf : Cd → Rs Cd
  | [] => .bad []
  | c :: z => if c ∈ letters then (if ((c :: z).takeWhile isC).length ≤ 12 then .ok ((c :: z).takeWhile isC) ((c :: z).dropWhile isC) else .bad ((c :: z).drop 12)) else .bad (c :: z)
def bad (cB : Addr) (L r : Cd) (E : DXK) (M : Mp) : Prop := E cB [("place", .int ((L.length : Int) - r.length))] M
def bwS (cB : Addr) : DSp := fun ds M Q E => ∃ (L pre s : Cd) (i : Int), ds = [.str L, .int i] ∧ i = (pre.length : Int) ∧ L = pre ++ s ∧ L.length ≤ 1000000 ∧
  (∀ w r, bwf s = .ok w r → Q (.int ((L.length : Int) - r.length)) M) ∧ (∀ r, bwf s = .bad r → bad cB L r E M)
theorem ok_bw {cB f : Addr} {fd : FuncData} (m : Mg mg) (X_BadText : EX1 P w K mg base "BadText" cB "place" okI) (Fd : FunT K "behind_word" s_behind_word f fd) : FnOk P w K mg base (L2.CX P w) 3 f fd ["text", "place"] (lift K (bwS cB)) := by
  refine dfn Fd sc_behind_word (fun ds M Q E h => ?_) fun cdv A outer s H E Ed hr => ⟨_, (dss_cons (ds_if (DW.dt (dw_or (dt_eq (Rm64 hr) (vr 1) (de_len rfl m.len (vr 0))) (dw_or1 (dt_notIn (Rm65 hr) (de_ix (Rm1 hr) (vr 0) (vr 1)) (gS letters m.LETTERS))))) (dss_one (rz1 X_BadText okD_I hr (by omega) (takes_of rfl rfl rfl rfl) rfl rfl (vr 1))) dss_nil) (dss_cons (sSet 2 sc_behind_word.nd (vr 1)) (dss_cons (ds_while (passes_of rfl) (DW.dt (dw_and (dt_lt (vr 2) (de_len rfl m.len (vr 0))) (dw_and1 (dt_in (Rm65 hr) (de_ix (Rm1 hr) (vr 0) (vr 2)) (gS chars m.CHARACTERS))))) (dss_cons (ds_if (dt_eq (Rm64 hr) (de_sub (vr 2) (vr 1)) (gI 12 m.MOST_CHARACTERS)) (dss_one (rz1 X_BadText okD_I hr (by omega) (takes_of rfl rfl rfl rfl) rfl rfl (vr 2))) dss_nil) (dss_one (sAdd 2 sc_behind_word.nd de_int)))) (dss_one (ds_ret (vr 2)))))), fun ds M Q cl h => ?_⟩
  · obtain ⟨L, a, b, i, rfl, _⟩ := h; rfl
  · obtain ⟨L, pre, s, i, rfl, rfl, hL, hz, hok, hbad⟩ := h
    have hzz : L.length ≤ sizeLine := by rw [sizeLine_eq]; omega
    have len : L.length = pre.length + s.length := by rw [hL]; simp
    have get : ∀ k, L[pre.length + k]? = s[k]? := fun k => by rw [hL, List.getElem?_append_right (by omega), Nat.add_sub_cancel_left]
    have raise : ∀ {r : Cd} {k : Nat}, bwf s = .bad r → k + r.length = s.length → okD (.int ((pre.length : Int) + k)) ∧ ∃ M'', DL.Sub M'' M ∧ Ed cB [("place", .int ((pre.length : Int) + k))] M'' := fun {r k} e hk => by
      refine ⟨⟨_, rfl, by omega⟩, M, cl, ?_⟩
      have := hbad r e
      unfold bad at this
      rwa [show (L.length : Int) - r.length = (pre.length : Int) + k by omega] at this
    have raise0 : bwf s = .bad s → okD (.int (pre.length : Int)) ∧ ∃ M'', DL.Sub M'' M ∧ Ed cB [("place", .int (pre.length : Int))] M'' := fun e => by
      have := raise (k := 0) e (by simp)
      simpa using this
    simp only [dRaise, dX1, dVar, dC, dOp, dTest, dTru, dAnd, dOr, dNot, dAndV, dOrV, dNotV, dIfE, dNil, dCons, dStar, dTup, dLst, dLstM, dFrz, dNeg, oEq, oNe, dNoO, dSoO, dSl, dNext, dSeq, dBreak, dCont, dExpr, dRet, dRetN, dIf, gNm, gNl, gCn, gTp, dAsg, dSet, dAug, dIter, dRng1, dRng2, dYes, dCallB, f1, dIsi, dJoinAt, dFmt, dJs, dJoined, dCall, dstart, rget, rset, dwipe, gSb, dApp, dPop, fMax2, fMin2, dNever, dPairs, dDispG, dDisp, dDispM, dNewK, dNewT, keyD, if_true, if_false, decide_eq_true_eq, Bool.false_eq_true, List.map_cons, List.map_nil, List.length_cons, List.length_nil, List.cons_append, List.nil_append, Nat.reduceAdd, Nat.reduceSub, List.reduceReplicate, e_vw_non, e_vw_bl, e_vw_int, e_vw_str, e_vw_scr, e_vw_lst, e_vw_tup, e_vw_dic, e_vw_dit, e_vw_obj, e_vw_ty, e_flat_non, e_isn_non, e_ty_non, e_flat_bl, e_isn_bl, e_ty_bl, e_flat_int, e_isn_int, e_ty_int, e_flat_str, e_isn_str, e_ty_str, e_flat_scr, e_isn_scr, e_ty_scr, e_flat_lst, e_isn_lst, e_ty_lst, e_flat_tup, e_isn_tup, e_ty_tup, e_flat_dic, e_isn_dic, e_ty_dic, e_flat_dit, e_isn_dit, e_flat_obj, e_isn_obj, e_flat_ty, e_isn_ty, e_add_ii, e_add_ss, e_add_ll, e_add_tt, e_iadd_ii, e_iadd_ss, e_sub_ii, e_mul_ii, e_mul_li, e_mul_si, e_fdiv_ii, e_mod_ii, e_pow_ii, e_deq_nn, e_deq_ii, e_deq_ss, e_deq_bb, e_deq_tt, e_deq_ll, e_deq_st, e_deq_ts, e_deql_n, e_deql_c, e_deql_nc, e_deql_cn, e_isN, e_ix_l, e_ix_t, e_ix_c, e_ix_s, e_ix_d, e_ix_dt, e_in_l, e_in_t, e_in_s, e_in_d, e_in_dt, e_sl_l, e_sl_t, e_sl_s, e_len_lst, e_len_tup, e_len_s, e_len_c, e_len_d, e_int_i, e_abs_i, e_str_i, e_tup_l, e_tup_t, e_oLst0_l, e_oLst0_t, e_oLst0M_l, e_oLst0M_t, e_set_l, e_set_d, e_set_t, e_key_i, e_key_s, e_isT_non_bool, e_isT_non_int, e_isT_non_str, e_isT_non_list, e_isT_non_tuple, e_isT_non_dict, e_isT_bool_bool, e_isT_bool_int, e_isT_bool_str, e_isT_bool_list, e_isT_bool_tuple, e_isT_bool_dict, e_isT_int_bool, e_isT_int_int, e_isT_int_str, e_isT_int_list, e_isT_int_tuple, e_isT_int_dict, e_isT_str_bool, e_isT_str_int, e_isT_str_str, e_isT_str_list, e_isT_str_tuple, e_isT_str_dict, e_isT_list_bool, e_isT_list_int, e_isT_list_str, e_isT_list_list, e_isT_list_tuple, e_isT_list_dict, e_isT_tuple_bool, e_isT_tuple_int, e_isT_tuple_str, e_isT_tuple_list, e_isT_tuple_tuple, e_isT_tuple_dict, e_isT_dict_bool, e_isT_dict_int, e_isT_dict_str, e_isT_dict_list, e_isT_dict_tuple, e_isT_dict_dict, e_lt, e_le, e_gt, e_ge ]
    refine ⟨hzz, .inl ⟨trivial, trivial⟩, ?_⟩
    cases s with
    | nil =>
      rw [if_pos (by simp at len ⊢; omega)]
      exact raise0 rfl
    | cons c0 z =>
      simp only [List.length_cons] at len
      rw [if_neg (by simp; omega)]
      refine ⟨hzz, c0, atI_n (j := pre.length) rfl (get 0), ?_⟩
      by_cases hc0 : c0 ∈ letters
      · rw [if_neg (by simp [hc0])]
        have e0 : bwf (c0 :: z) = if ((c0 :: z).takeWhile isC).length ≤ 12 then .ok ((c0 :: z).takeWhile isC) ((c0 :: z).dropWhile isC) else .bad ((c0 :: z).drop 12) := by simp only [bwf, if_pos hc0]
        generalize hw : (c0 :: z).takeWhile isC = v at e0
        have happ := tw_app isC (c0 :: z)
        rw [hw] at happ
        have hlen2 : z.length + 1 = v.length + ((c0 :: z).dropWhile isC).length := by have := congrArg List.length happ; simpa using this
        refine ⟨fun m ρ M' => M' = M ∧ ∃ k : Nat, m = v.length - k ∧ k ≤ v.length ∧ k ≤ 12 ∧ ρ = [some (.str L), some (.int pre.length), some (.int ((pre.length : Int) + k))], ⟨_, rfl, 0, rfl, Nat.zero_le _, Nat.zero_le _, by simp⟩, ?_⟩
        rintro m ρ M' ⟨rfl, k, rfl, hk, hk12, rfl⟩
        simp only [dRaise, dX1, dVar, dC, dOp, dTest, dTru, dAnd, dOr, dNot, dAndV, dOrV, dNotV, dIfE, dNil, dCons, dStar, dTup, dLst, dLstM, dFrz, dNeg, oEq, oNe, dNoO, dSoO, dSl, dNext, dSeq, dBreak, dCont, dExpr, dRet, dRetN, dIf, gNm, gNl, gCn, gTp, dAsg, dSet, dAug, dIter, dRng1, dRng2, dYes, dCallB, f1, dIsi, dJoinAt, dFmt, dJs, dJoined, dCall, dstart, rget, rset, dwipe, gSb, dApp, dPop, fMax2, fMin2, dNever, dPairs, dDispG, dDisp, dDispM, dNewK, dNewT, keyD, if_true, if_false, decide_eq_true_eq, Bool.false_eq_true, List.map_cons, List.map_nil, List.length_cons, List.length_nil, List.cons_append, List.nil_append, Nat.reduceAdd, Nat.reduceSub, List.reduceReplicate, e_vw_non, e_vw_bl, e_vw_int, e_vw_str, e_vw_scr, e_vw_lst, e_vw_tup, e_vw_dic, e_vw_dit, e_vw_obj, e_vw_ty, e_flat_non, e_isn_non, e_ty_non, e_flat_bl, e_isn_bl, e_ty_bl, e_flat_int, e_isn_int, e_ty_int, e_flat_str, e_isn_str, e_ty_str, e_flat_scr, e_isn_scr, e_ty_scr, e_flat_lst, e_isn_lst, e_ty_lst, e_flat_tup, e_isn_tup, e_ty_tup, e_flat_dic, e_isn_dic, e_ty_dic, e_flat_dit, e_isn_dit, e_flat_obj, e_isn_obj, e_flat_ty, e_isn_ty, e_add_ii, e_add_ss, e_add_ll, e_add_tt, e_iadd_ii, e_iadd_ss, e_sub_ii, e_mul_ii, e_mul_li, e_mul_si, e_fdiv_ii, e_mod_ii, e_pow_ii, e_deq_nn, e_deq_ii, e_deq_ss, e_deq_bb, e_deq_tt, e_deq_ll, e_deq_st, e_deq_ts, e_deql_n, e_deql_c, e_deql_nc, e_deql_cn, e_isN, e_ix_l, e_ix_t, e_ix_c, e_ix_s, e_ix_d, e_ix_dt, e_in_l, e_in_t, e_in_s, e_in_d, e_in_dt, e_sl_l, e_sl_t, e_sl_s, e_len_lst, e_len_tup, e_len_s, e_len_c, e_len_d, e_int_i, e_abs_i, e_str_i, e_tup_l, e_tup_t, e_oLst0_l, e_oLst0_t, e_oLst0M_l, e_oLst0M_t, e_set_l, e_set_d, e_set_t, e_key_i, e_key_s, e_isT_non_bool, e_isT_non_int, e_isT_non_str, e_isT_non_list, e_isT_non_tuple, e_isT_non_dict, e_isT_bool_bool, e_isT_bool_int, e_isT_bool_str, e_isT_bool_list, e_isT_bool_tuple, e_isT_bool_dict, e_isT_int_bool, e_isT_int_int, e_isT_int_str, e_isT_int_list, e_isT_int_tuple, e_isT_int_dict, e_isT_str_bool, e_isT_str_int, e_isT_str_str, e_isT_str_list, e_isT_str_tuple, e_isT_str_dict, e_isT_list_bool, e_isT_list_int, e_isT_list_str, e_isT_list_list, e_isT_list_tuple, e_isT_list_dict, e_isT_tuple_bool, e_isT_tuple_int, e_isT_tuple_str, e_isT_tuple_list, e_isT_tuple_tuple, e_isT_tuple_dict, e_isT_dict_bool, e_isT_dict_int, e_isT_dict_str, e_isT_dict_list, e_isT_dict_tuple, e_isT_dict_dict, e_lt, e_le, e_gt, e_ge ]
        refine ⟨hzz, ?_⟩
        by_cases hlt : k < v.length
        · rw [if_pos (by omega)]
          obtain ⟨c, e1, e2⟩ := tw_get (p := isC) (s := c0 :: z) (k := k) (by rw [hw]; exact hlt)
          refine ⟨hzz, c, atI_n (j := pre.length + k) (by simp) (by rw [get]; exact e1), ?_⟩
          have hc : c ∈ chars := by simpa [isC] using e2
          rw [if_pos (by simp [hc])]
          refine ⟨.inl ⟨trivial, trivial⟩, ?_⟩
          by_cases h12 : k = 12
          · subst h12
            rw [if_pos (by simp <;> omega)]
            exact raise (k := 12) (by rw [e0, if_neg (by omega)]) (by simp <;> omega)
          · rw [if_neg (by simp <;> omega)]
            exact ⟨_, by omega, trivial, k + 1, rfl, by omega, by omega, by simp <;> omega⟩
        · have hkv : k = v.length := by omega
          subst hkv
          have fin : ∃ M'', DL.Sub M'' M' ∧ Q (.int ((pre.length : Int) + v.length)) M'' := ⟨_, cl, by
            have := hok _ _ (by rw [e0, if_pos (by omega)])
            rwa [show (L.length : Int) - ((c0 :: z).dropWhile isC).length = (pre.length : Int) + v.length by omega] at this⟩
          split
          · obtain ⟨c, hc⟩ : ∃ c, (c0 :: z)[v.length]? = some c := ⟨_, List.getElem?_eq_getElem (by simp <;> omega)⟩
            refine ⟨hzz, c, atI_n (j := pre.length + v.length) (by simp) (by rw [get]; exact hc), ?_⟩
            have := tw_end (p := isC) (s := c0 :: z) (c := c) (by rw [hw]; exact hc)
            have hn : c ∉ chars := by simpa [isC] using this
            rw [if_neg (by simp [hn])]
            exact fin
          · exact fin
      · rw [if_pos (by simp [hc0])]
        exact raise0 (by simp only [bwf, if_neg hc0])
/-! the source -/
theorem ok_pkO {f : Addr} {fd : FuncData} (m : Mg mg) (Fd : FunT K "_law_pick" s__law_pick f fd) : FnOk P w K mg base (L2.CX P w) 1 f fd ["source", "many"] (lift K pkO) := by
  refine dfn Fd sc__law_pick (fun ds M Q E h => ?_) fun cdv A outer s H E Ed hr => ⟨_, (dss_cons (ds_if (dt_lt (vr 1) de_int) (dss_one (ds_ret de_int)) dss_nil) (dss_cons (sSet 2 sc__law_pick.nd (de_ix (Rm1 hr) (vr 0) (de_str [99, 101, 108, 108, 115] (by kernel_rfl)))) (dss_cons (ds_while (passes_of rfl) (DW.dt (dw_and (dt_lt (de_ix (Rm1 hr) (vr 0) (de_str [108, 101, 102, 116] (by kernel_rfl))) de_int) (dw_and1 (dt_gt (de_len rfl m.len (vr 2)) de_int)))) (dss_one (ds_asg (de_pop (vr 2)) (gSub (Rm1 hr) (vr 0) (de_str [108, 101, 102, 116] (by kernel_rfl)))))) (dss_cons (sSet 3 sc__law_pick.nd (de_ix (Rm1 hr) (vr 0) (de_str [108, 101, 102, 116] (by kernel_rfl)))) (dss_cons (ds_if (dt_gt (vr 3) de_int) (dss_cons (ds_asg (de_fdiv (vr 3) (vr 1)) (gSub (Rm1 hr) (vr 0) (de_str [108, 101, 102, 116] (by kernel_rfl)))) (dss_one (ds_ret (de_mod (de_int1 rfl m.int (vr 3)) (vr 1))))) dss_nil) (dss_cons (ds_asg (de_add (de_ix (Rm1 hr) (vr 0) (de_str [116, 117, 114, 110] (by kernel_rfl))) de_int) (gSub (Rm1 hr) (vr 0) (de_str [116, 117, 114, 110] (by kernel_rfl)))) (dss_cons (sSet 4 sc__law_pick.nd (de_ix (Rm1 hr) (vr 0) (de_str [116, 117, 114, 110] (by kernel_rfl)))) (dss_cons (sSet 5 sc__law_pick.nd (de_mod (de_int1 rfl m.int (de_add (de_ix (Rm1 hr) (vr 0) (de_str [109, 105, 120, 101, 100] (by kernel_rfl))) (de_mul (vr 4) de_int))) de_int)) (dss_cons (sSet 5 sc__law_pick.nd (de_mod (de_int1 rfl m.int (de_add (de_mul (vr 5) (vr 5)) (de_mul (vr 4) de_int))) de_int)) (dss_cons (ds_if (dt_gt (vr 1) (de_pow de_int de_int)) (dss_one (sSet 5 sc__law_pick.nd (de_pow (de_int1 rfl m.int (de_add (de_mul (vr 5) de_int) (vr 4))) de_int))) dss_nil) (dss_one (ds_ret (de_mod (de_int1 rfl m.int (de_fdiv (vr 5) de_int)) (vr 1)))))))))))))), fun ds M Q cl h => ?_⟩
  · obtain ⟨_, _, _, _, _, _, _, _, rfl, _⟩ := h; rfl
  · obtain ⟨M0, p, c, l, mx, t, ns, many, rfl, ne, rfl, hz, q⟩ := h
    simp only [dVar, dC, dOp, dTest, dTru, dAnd, dOr, dNot, dAndV, dOrV, dNotV, dIfE, dNil, dCons, dStar, dTup, dLst, dLstM, dFrz, dNeg, oEq, oNe, dNoO, dSoO, dSl, dNext, dSeq, dBreak, dCont, dExpr, dRet, dRetN, dIf, gNm, gNl, gCn, gTp, dAsg, dSet, dAug, dIter, dRng1, dRng2, dYes, dCallB, f1, dIsi, dJoinAt, dFmt, dJs, dJoined, dCall, dstart, rget, rset, dwipe, gSb, dApp, dPop, fMax2, fMin2, dNever, dPairs, dDispG, dDisp, dDispM, dNewK, dNewT, keyD, if_true, if_false, decide_eq_true_eq, Bool.false_eq_true, List.map_cons, List.map_nil, List.length_cons, List.length_nil, List.cons_append, List.nil_append, Nat.reduceAdd, Nat.reduceSub, List.reduceReplicate, e_vw_non, e_vw_bl, e_vw_int, e_vw_str, e_vw_scr, e_vw_lst, e_vw_tup, e_vw_dic, e_vw_dit, e_vw_obj, e_vw_ty, e_flat_non, e_isn_non, e_ty_non, e_flat_bl, e_isn_bl, e_ty_bl, e_flat_int, e_isn_int, e_ty_int, e_flat_str, e_isn_str, e_ty_str, e_flat_scr, e_isn_scr, e_ty_scr, e_flat_lst, e_isn_lst, e_ty_lst, e_flat_tup, e_isn_tup, e_ty_tup, e_flat_dic, e_isn_dic, e_ty_dic, e_flat_dit, e_isn_dit, e_flat_obj, e_isn_obj, e_flat_ty, e_isn_ty, e_add_ii, e_add_ss, e_add_ll, e_add_tt, e_iadd_ii, e_iadd_ss, e_sub_ii, e_mul_ii, e_mul_li, e_mul_si, e_fdiv_ii, e_mod_ii, e_pow_ii, e_deq_nn, e_deq_ii, e_deq_ss, e_deq_bb, e_deq_tt, e_deq_ll, e_deq_st, e_deq_ts, e_deql_n, e_deql_c, e_deql_nc, e_deql_cn, e_isN, e_ix_l, e_ix_t, e_ix_c, e_ix_s, e_ix_d, e_ix_dt, e_in_l, e_in_t, e_in_s, e_in_d, e_in_dt, e_sl_l, e_sl_t, e_sl_s, e_len_lst, e_len_tup, e_len_s, e_len_c, e_len_d, e_int_i, e_abs_i, e_str_i, e_tup_l, e_tup_t, e_oLst0_l, e_oLst0_t, e_oLst0M_l, e_oLst0M_t, e_set_l, e_set_d, e_set_t, e_key_i, e_key_s, e_isT_non_bool, e_isT_non_int, e_isT_non_str, e_isT_non_list, e_isT_non_tuple, e_isT_non_dict, e_isT_bool_bool, e_isT_bool_int, e_isT_bool_str, e_isT_bool_list, e_isT_bool_tuple, e_isT_bool_dict, e_isT_int_bool, e_isT_int_int, e_isT_int_str, e_isT_int_list, e_isT_int_tuple, e_isT_int_dict, e_isT_str_bool, e_isT_str_int, e_isT_str_str, e_isT_str_list, e_isT_str_tuple, e_isT_str_dict, e_isT_list_bool, e_isT_list_int, e_isT_list_str, e_isT_list_list, e_isT_list_tuple, e_isT_list_dict, e_isT_tuple_bool, e_isT_tuple_int, e_isT_tuple_str, e_isT_tuple_list, e_isT_tuple_tuple, e_isT_tuple_dict, e_isT_dict_bool, e_isT_dict_int, e_isT_dict_str, e_isT_dict_list, e_isT_dict_tuple, e_isT_dict_dict, e_lt, e_le, e_gt, e_ge , vw_d opn_p]
    split
    · exact ⟨_, cl, q 0 l mx t ns (.inl rfl)⟩
    rename_i hm
    refine ⟨_, fd_cells, ?_⟩
    refine gen_nx (t := dWhile _ _) fun R hR => ?_
    refine ⟨fun k ρ M' => ∃ l1 ns1, k = List.length ns1 ∧ M' = opn M0 p c l1 mx t ns1 ∧ ρ = [some (.ref p), some (.int many), some (.ref c), none, none, none], ⟨_, l, ns, rfl, rfl, rfl⟩, ?_⟩
    rintro k ρ M' ⟨l1, ns1, rfl, rfl, rfl⟩
    simp only [dVar, dC, dOp, dTest, dTru, dAnd, dOr, dNot, dAndV, dOrV, dNotV, dIfE, dNil, dCons, dStar, dTup, dLst, dLstM, dFrz, dNeg, oEq, oNe, dNoO, dSoO, dSl, dNext, dSeq, dBreak, dCont, dExpr, dRet, dRetN, dIf, gNm, gNl, gCn, gTp, dAsg, dSet, dAug, dIter, dRng1, dRng2, dYes, dCallB, f1, dIsi, dJoinAt, dFmt, dJs, dJoined, dCall, dstart, rget, rset, dwipe, gSb, dApp, dPop, fMax2, fMin2, dNever, dPairs, dDispG, dDisp, dDispM, dNewK, dNewT, keyD, if_true, if_false, decide_eq_true_eq, Bool.false_eq_true, List.map_cons, List.map_nil, List.length_cons, List.length_nil, List.cons_append, List.nil_append, Nat.reduceAdd, Nat.reduceSub, List.reduceReplicate, e_vw_non, e_vw_bl, e_vw_int, e_vw_str, e_vw_scr, e_vw_lst, e_vw_tup, e_vw_dic, e_vw_dit, e_vw_obj, e_vw_ty, e_flat_non, e_isn_non, e_ty_non, e_flat_bl, e_isn_bl, e_ty_bl, e_flat_int, e_isn_int, e_ty_int, e_flat_str, e_isn_str, e_ty_str, e_flat_scr, e_isn_scr, e_ty_scr, e_flat_lst, e_isn_lst, e_ty_lst, e_flat_tup, e_isn_tup, e_ty_tup, e_flat_dic, e_isn_dic, e_ty_dic, e_flat_dit, e_isn_dit, e_flat_obj, e_isn_obj, e_flat_ty, e_isn_ty, e_add_ii, e_add_ss, e_add_ll, e_add_tt, e_iadd_ii, e_iadd_ss, e_sub_ii, e_mul_ii, e_mul_li, e_mul_si, e_fdiv_ii, e_mod_ii, e_pow_ii, e_deq_nn, e_deq_ii, e_deq_ss, e_deq_bb, e_deq_tt, e_deq_ll, e_deq_st, e_deq_ts, e_deql_n, e_deql_c, e_deql_nc, e_deql_cn, e_isN, e_ix_l, e_ix_t, e_ix_c, e_ix_s, e_ix_d, e_ix_dt, e_in_l, e_in_t, e_in_s, e_in_d, e_in_dt, e_sl_l, e_sl_t, e_sl_s, e_len_lst, e_len_tup, e_len_s, e_len_c, e_len_d, e_int_i, e_abs_i, e_str_i, e_tup_l, e_tup_t, e_oLst0_l, e_oLst0_t, e_oLst0M_l, e_oLst0M_t, e_set_l, e_set_d, e_set_t, e_key_i, e_key_s, e_isT_non_bool, e_isT_non_int, e_isT_non_str, e_isT_non_list, e_isT_non_tuple, e_isT_non_dict, e_isT_bool_bool, e_isT_bool_int, e_isT_bool_str, e_isT_bool_list, e_isT_bool_tuple, e_isT_bool_dict, e_isT_int_bool, e_isT_int_int, e_isT_int_str, e_isT_int_list, e_isT_int_tuple, e_isT_int_dict, e_isT_str_bool, e_isT_str_int, e_isT_str_str, e_isT_str_list, e_isT_str_tuple, e_isT_str_dict, e_isT_list_bool, e_isT_list_int, e_isT_list_str, e_isT_list_list, e_isT_list_tuple, e_isT_list_dict, e_isT_tuple_bool, e_isT_tuple_int, e_isT_tuple_str, e_isT_tuple_list, e_isT_tuple_tuple, e_isT_tuple_dict, e_isT_dict_bool, e_isT_dict_int, e_isT_dict_str, e_isT_dict_list, e_isT_dict_tuple, e_isT_dict_dict, e_lt, e_le, e_gt, e_ge , vw_d opn_p, vw_l (opn_c ne)]
    refine ⟨_, fd_left, ?_⟩
    simp only [dVar, dC, dOp, dTest, dTru, dAnd, dOr, dNot, dAndV, dOrV, dNotV, dIfE, dNil, dCons, dStar, dTup, dLst, dLstM, dFrz, dNeg, oEq, oNe, dNoO, dSoO, dSl, dNext, dSeq, dBreak, dCont, dExpr, dRet, dRetN, dIf, gNm, gNl, gCn, gTp, dAsg, dSet, dAug, dIter, dRng1, dRng2, dYes, dCallB, f1, dIsi, dJoinAt, dFmt, dJs, dJoined, dCall, dstart, rget, rset, dwipe, gSb, dApp, dPop, fMax2, fMin2, dNever, dPairs, dDispG, dDisp, dDispM, dNewK, dNewT, keyD, if_true, if_false, decide_eq_true_eq, Bool.false_eq_true, List.map_cons, List.map_nil, List.length_cons, List.length_nil, List.cons_append, List.nil_append, Nat.reduceAdd, Nat.reduceSub, List.reduceReplicate, e_vw_non, e_vw_bl, e_vw_int, e_vw_str, e_vw_scr, e_vw_lst, e_vw_tup, e_vw_dic, e_vw_dit, e_vw_obj, e_vw_ty, e_flat_non, e_isn_non, e_ty_non, e_flat_bl, e_isn_bl, e_ty_bl, e_flat_int, e_isn_int, e_ty_int, e_flat_str, e_isn_str, e_ty_str, e_flat_scr, e_isn_scr, e_ty_scr, e_flat_lst, e_isn_lst, e_ty_lst, e_flat_tup, e_isn_tup, e_ty_tup, e_flat_dic, e_isn_dic, e_ty_dic, e_flat_dit, e_isn_dit, e_flat_obj, e_isn_obj, e_flat_ty, e_isn_ty, e_add_ii, e_add_ss, e_add_ll, e_add_tt, e_iadd_ii, e_iadd_ss, e_sub_ii, e_mul_ii, e_mul_li, e_mul_si, e_fdiv_ii, e_mod_ii, e_pow_ii, e_deq_nn, e_deq_ii, e_deq_ss, e_deq_bb, e_deq_tt, e_deq_ll, e_deq_st, e_deq_ts, e_deql_n, e_deql_c, e_deql_nc, e_deql_cn, e_isN, e_ix_l, e_ix_t, e_ix_c, e_ix_s, e_ix_d, e_ix_dt, e_in_l, e_in_t, e_in_s, e_in_d, e_in_dt, e_sl_l, e_sl_t, e_sl_s, e_len_lst, e_len_tup, e_len_s, e_len_c, e_len_d, e_int_i, e_abs_i, e_str_i, e_tup_l, e_tup_t, e_oLst0_l, e_oLst0_t, e_oLst0M_l, e_oLst0M_t, e_set_l, e_set_d, e_set_t, e_key_i, e_key_s, e_isT_non_bool, e_isT_non_int, e_isT_non_str, e_isT_non_list, e_isT_non_tuple, e_isT_non_dict, e_isT_bool_bool, e_isT_bool_int, e_isT_bool_str, e_isT_bool_list, e_isT_bool_tuple, e_isT_bool_dict, e_isT_int_bool, e_isT_int_int, e_isT_int_str, e_isT_int_list, e_isT_int_tuple, e_isT_int_dict, e_isT_str_bool, e_isT_str_int, e_isT_str_str, e_isT_str_list, e_isT_str_tuple, e_isT_str_dict, e_isT_list_bool, e_isT_list_int, e_isT_list_str, e_isT_list_list, e_isT_list_tuple, e_isT_list_dict, e_isT_tuple_bool, e_isT_tuple_int, e_isT_tuple_str, e_isT_tuple_list, e_isT_tuple_tuple, e_isT_tuple_dict, e_isT_dict_bool, e_isT_dict_int, e_isT_dict_str, e_isT_dict_list, e_isT_dict_tuple, e_isT_dict_dict, e_lt, e_le, e_gt, e_ge , vw_d opn_p, vw_l (opn_c ne), List.length_map]
    have rest : ∀ l1 ns1, R [some (.ref p), some (.int many), some (.ref c), none, none, none] (opn M0 p c l1 mx t ns1) := by
      intro l1 ns1
      have md : ∀ x : Int, ∃ k : Nat, x % many = (k : Int) ∧ (k : Int) < many := fun x => ⟨(x % many).toNat, by
        have := Int.emod_nonneg x (b := many) (by omega); omega, by
        have := Int.emod_nonneg x (b := many) (by omega)
        have := Int.emod_lt_of_pos x (b := many) (by omega); omega⟩
      refine hR _ _ ?_
      simp only [dVar, dC, dOp, dTest, dTru, dAnd, dOr, dNot, dAndV, dOrV, dNotV, dIfE, dNil, dCons, dStar, dTup, dLst, dLstM, dFrz, dNeg, oEq, oNe, dNoO, dSoO, dSl, dNext, dSeq, dBreak, dCont, dExpr, dRet, dRetN, dIf, gNm, gNl, gCn, gTp, dAsg, dSet, dAug, dIter, dRng1, dRng2, dYes, dCallB, f1, dIsi, dJoinAt, dFmt, dJs, dJoined, dCall, dstart, rget, rset, dwipe, gSb, dApp, dPop, fMax2, fMin2, dNever, dPairs, dDispG, dDisp, dDispM, dNewK, dNewT, keyD, if_true, if_false, decide_eq_true_eq, Bool.false_eq_true, List.map_cons, List.map_nil, List.length_cons, List.length_nil, List.cons_append, List.nil_append, Nat.reduceAdd, Nat.reduceSub, List.reduceReplicate, e_vw_non, e_vw_bl, e_vw_int, e_vw_str, e_vw_scr, e_vw_lst, e_vw_tup, e_vw_dic, e_vw_dit, e_vw_obj, e_vw_ty, e_flat_non, e_isn_non, e_ty_non, e_flat_bl, e_isn_bl, e_ty_bl, e_flat_int, e_isn_int, e_ty_int, e_flat_str, e_isn_str, e_ty_str, e_flat_scr, e_isn_scr, e_ty_scr, e_flat_lst, e_isn_lst, e_ty_lst, e_flat_tup, e_isn_tup, e_ty_tup, e_flat_dic, e_isn_dic, e_ty_dic, e_flat_dit, e_isn_dit, e_flat_obj, e_isn_obj, e_flat_ty, e_isn_ty, e_add_ii, e_add_ss, e_add_ll, e_add_tt, e_iadd_ii, e_iadd_ss, e_sub_ii, e_mul_ii, e_mul_li, e_mul_si, e_fdiv_ii, e_mod_ii, e_pow_ii, e_deq_nn, e_deq_ii, e_deq_ss, e_deq_bb, e_deq_tt, e_deq_ll, e_deq_st, e_deq_ts, e_deql_n, e_deql_c, e_deql_nc, e_deql_cn, e_isN, e_ix_l, e_ix_t, e_ix_c, e_ix_s, e_ix_d, e_ix_dt, e_in_l, e_in_t, e_in_s, e_in_d, e_in_dt, e_sl_l, e_sl_t, e_sl_s, e_len_lst, e_len_tup, e_len_s, e_len_c, e_len_d, e_int_i, e_abs_i, e_str_i, e_tup_l, e_tup_t, e_oLst0_l, e_oLst0_t, e_oLst0M_l, e_oLst0M_t, e_set_l, e_set_d, e_set_t, e_key_i, e_key_s, e_isT_non_bool, e_isT_non_int, e_isT_non_str, e_isT_non_list, e_isT_non_tuple, e_isT_non_dict, e_isT_bool_bool, e_isT_bool_int, e_isT_bool_str, e_isT_bool_list, e_isT_bool_tuple, e_isT_bool_dict, e_isT_int_bool, e_isT_int_int, e_isT_int_str, e_isT_int_list, e_isT_int_tuple, e_isT_int_dict, e_isT_str_bool, e_isT_str_int, e_isT_str_str, e_isT_str_list, e_isT_str_tuple, e_isT_str_dict, e_isT_list_bool, e_isT_list_int, e_isT_list_str, e_isT_list_list, e_isT_list_tuple, e_isT_list_dict, e_isT_tuple_bool, e_isT_tuple_int, e_isT_tuple_str, e_isT_tuple_list, e_isT_tuple_tuple, e_isT_tuple_dict, e_isT_dict_bool, e_isT_dict_int, e_isT_dict_str, e_isT_dict_list, e_isT_dict_tuple, e_isT_dict_dict, e_lt, e_le, e_gt, e_ge , vw_d opn_p]
      refine ⟨_, fd_left, ?_⟩
      simp only [dVar, dC, dOp, dTest, dTru, dAnd, dOr, dNot, dAndV, dOrV, dNotV, dIfE, dNil, dCons, dStar, dTup, dLst, dLstM, dFrz, dNeg, oEq, oNe, dNoO, dSoO, dSl, dNext, dSeq, dBreak, dCont, dExpr, dRet, dRetN, dIf, gNm, gNl, gCn, gTp, dAsg, dSet, dAug, dIter, dRng1, dRng2, dYes, dCallB, f1, dIsi, dJoinAt, dFmt, dJs, dJoined, dCall, dstart, rget, rset, dwipe, gSb, dApp, dPop, fMax2, fMin2, dNever, dPairs, dDispG, dDisp, dDispM, dNewK, dNewT, keyD, if_true, if_false, decide_eq_true_eq, Bool.false_eq_true, List.map_cons, List.map_nil, List.length_cons, List.length_nil, List.cons_append, List.nil_append, Nat.reduceAdd, Nat.reduceSub, List.reduceReplicate, e_vw_non, e_vw_bl, e_vw_int, e_vw_str, e_vw_scr, e_vw_lst, e_vw_tup, e_vw_dic, e_vw_dit, e_vw_obj, e_vw_ty, e_flat_non, e_isn_non, e_ty_non, e_flat_bl, e_isn_bl, e_ty_bl, e_flat_int, e_isn_int, e_ty_int, e_flat_str, e_isn_str, e_ty_str, e_flat_scr, e_isn_scr, e_ty_scr, e_flat_lst, e_isn_lst, e_ty_lst, e_flat_tup, e_isn_tup, e_ty_tup, e_flat_dic, e_isn_dic, e_ty_dic, e_flat_dit, e_isn_dit, e_flat_obj, e_isn_obj, e_flat_ty, e_isn_ty, e_add_ii, e_add_ss, e_add_ll, e_add_tt, e_iadd_ii, e_iadd_ss, e_sub_ii, e_mul_ii, e_mul_li, e_mul_si, e_fdiv_ii, e_mod_ii, e_pow_ii, e_deq_nn, e_deq_ii, e_deq_ss, e_deq_bb, e_deq_tt, e_deq_ll, e_deq_st, e_deq_ts, e_deql_n, e_deql_c, e_deql_nc, e_deql_cn, e_isN, e_ix_l, e_ix_t, e_ix_c, e_ix_s, e_ix_d, e_ix_dt, e_in_l, e_in_t, e_in_s, e_in_d, e_in_dt, e_sl_l, e_sl_t, e_sl_s, e_len_lst, e_len_tup, e_len_s, e_len_c, e_len_d, e_int_i, e_abs_i, e_str_i, e_tup_l, e_tup_t, e_oLst0_l, e_oLst0_t, e_oLst0M_l, e_oLst0M_t, e_set_l, e_set_d, e_set_t, e_key_i, e_key_s, e_isT_non_bool, e_isT_non_int, e_isT_non_str, e_isT_non_list, e_isT_non_tuple, e_isT_non_dict, e_isT_bool_bool, e_isT_bool_int, e_isT_bool_str, e_isT_bool_list, e_isT_bool_tuple, e_isT_bool_dict, e_isT_int_bool, e_isT_int_int, e_isT_int_str, e_isT_int_list, e_isT_int_tuple, e_isT_int_dict, e_isT_str_bool, e_isT_str_int, e_isT_str_str, e_isT_str_list, e_isT_str_tuple, e_isT_str_dict, e_isT_list_bool, e_isT_list_int, e_isT_list_str, e_isT_list_list, e_isT_list_tuple, e_isT_list_dict, e_isT_tuple_bool, e_isT_tuple_int, e_isT_tuple_str, e_isT_tuple_list, e_isT_tuple_tuple, e_isT_tuple_dict, e_isT_dict_bool, e_isT_dict_int, e_isT_dict_str, e_isT_dict_list, e_isT_dict_tuple, e_isT_dict_dict, e_lt, e_le, e_gt, e_ge , vw_d opn_p]
      split
      · refine ⟨⟨by omega, by omega⟩, ?_⟩
        refine ⟨p, _, rfl, opn_p, ?_⟩
        simp only [dVar, dC, dOp, dTest, dTru, dAnd, dOr, dNot, dAndV, dOrV, dNotV, dIfE, dNil, dCons, dStar, dTup, dLst, dLstM, dFrz, dNeg, oEq, oNe, dNoO, dSoO, dSl, dNext, dSeq, dBreak, dCont, dExpr, dRet, dRetN, dIf, gNm, gNl, gCn, gTp, dAsg, dSet, dAug, dIter, dRng1, dRng2, dYes, dCallB, f1, dIsi, dJoinAt, dFmt, dJs, dJoined, dCall, dstart, rget, rset, dwipe, gSb, dApp, dPop, fMax2, fMin2, dNever, dPairs, dDispG, dDisp, dDispM, dNewK, dNewT, keyD, if_true, if_false, decide_eq_true_eq, Bool.false_eq_true, List.map_cons, List.map_nil, List.length_cons, List.length_nil, List.cons_append, List.nil_append, Nat.reduceAdd, Nat.reduceSub, List.reduceReplicate, e_vw_non, e_vw_bl, e_vw_int, e_vw_str, e_vw_scr, e_vw_lst, e_vw_tup, e_vw_dic, e_vw_dit, e_vw_obj, e_vw_ty, e_flat_non, e_isn_non, e_ty_non, e_flat_bl, e_isn_bl, e_ty_bl, e_flat_int, e_isn_int, e_ty_int, e_flat_str, e_isn_str, e_ty_str, e_flat_scr, e_isn_scr, e_ty_scr, e_flat_lst, e_isn_lst, e_ty_lst, e_flat_tup, e_isn_tup, e_ty_tup, e_flat_dic, e_isn_dic, e_ty_dic, e_flat_dit, e_isn_dit, e_flat_obj, e_isn_obj, e_flat_ty, e_isn_ty, e_add_ii, e_add_ss, e_add_ll, e_add_tt, e_iadd_ii, e_iadd_ss, e_sub_ii, e_mul_ii, e_mul_li, e_mul_si, e_fdiv_ii, e_mod_ii, e_pow_ii, e_deq_nn, e_deq_ii, e_deq_ss, e_deq_bb, e_deq_tt, e_deq_ll, e_deq_st, e_deq_ts, e_deql_n, e_deql_c, e_deql_nc, e_deql_cn, e_isN, e_ix_l, e_ix_t, e_ix_c, e_ix_s, e_ix_d, e_ix_dt, e_in_l, e_in_t, e_in_s, e_in_d, e_in_dt, e_sl_l, e_sl_t, e_sl_s, e_len_lst, e_len_tup, e_len_s, e_len_c, e_len_d, e_int_i, e_abs_i, e_str_i, e_tup_l, e_tup_t, e_oLst0_l, e_oLst0_t, e_oLst0M_l, e_oLst0M_t, e_set_l, e_set_d, e_set_t, e_key_i, e_key_s, e_isT_non_bool, e_isT_non_int, e_isT_non_str, e_isT_non_list, e_isT_non_tuple, e_isT_non_dict, e_isT_bool_bool, e_isT_bool_int, e_isT_bool_str, e_isT_bool_list, e_isT_bool_tuple, e_isT_bool_dict, e_isT_int_bool, e_isT_int_int, e_isT_int_str, e_isT_int_list, e_isT_int_tuple, e_isT_int_dict, e_isT_str_bool, e_isT_str_int, e_isT_str_str, e_isT_str_list, e_isT_str_tuple, e_isT_str_dict, e_isT_list_bool, e_isT_list_int, e_isT_list_str, e_isT_list_list, e_isT_list_tuple, e_isT_list_dict, e_isT_tuple_bool, e_isT_tuple_int, e_isT_tuple_str, e_isT_tuple_list, e_isT_tuple_tuple, e_isT_tuple_dict, e_isT_dict_bool, e_isT_dict_int, e_isT_dict_str, e_isT_dict_list, e_isT_dict_tuple, e_isT_dict_dict, e_lt, e_le, e_gt, e_ge ]
        refine ⟨_, rfl, srcL_len, ?_⟩
        simp only [pu_left, opn_p_set]
        refine ⟨by omega, ?_⟩
        obtain ⟨k, e, hk⟩ := md l1
        rw [e]
        exact ⟨_, opn_cl cl, q k _ _ _ _ (.inr hk)⟩
      · refine ⟨_, fd_turn, p, _, rfl, opn_p, ?_⟩
        simp only [dVar, dC, dOp, dTest, dTru, dAnd, dOr, dNot, dAndV, dOrV, dNotV, dIfE, dNil, dCons, dStar, dTup, dLst, dLstM, dFrz, dNeg, oEq, oNe, dNoO, dSoO, dSl, dNext, dSeq, dBreak, dCont, dExpr, dRet, dRetN, dIf, gNm, gNl, gCn, gTp, dAsg, dSet, dAug, dIter, dRng1, dRng2, dYes, dCallB, f1, dIsi, dJoinAt, dFmt, dJs, dJoined, dCall, dstart, rget, rset, dwipe, gSb, dApp, dPop, fMax2, fMin2, dNever, dPairs, dDispG, dDisp, dDispM, dNewK, dNewT, keyD, if_true, if_false, decide_eq_true_eq, Bool.false_eq_true, List.map_cons, List.map_nil, List.length_cons, List.length_nil, List.cons_append, List.nil_append, Nat.reduceAdd, Nat.reduceSub, List.reduceReplicate, e_vw_non, e_vw_bl, e_vw_int, e_vw_str, e_vw_scr, e_vw_lst, e_vw_tup, e_vw_dic, e_vw_dit, e_vw_obj, e_vw_ty, e_flat_non, e_isn_non, e_ty_non, e_flat_bl, e_isn_bl, e_ty_bl, e_flat_int, e_isn_int, e_ty_int, e_flat_str, e_isn_str, e_ty_str, e_flat_scr, e_isn_scr, e_ty_scr, e_flat_lst, e_isn_lst, e_ty_lst, e_flat_tup, e_isn_tup, e_ty_tup, e_flat_dic, e_isn_dic, e_ty_dic, e_flat_dit, e_isn_dit, e_flat_obj, e_isn_obj, e_flat_ty, e_isn_ty, e_add_ii, e_add_ss, e_add_ll, e_add_tt, e_iadd_ii, e_iadd_ss, e_sub_ii, e_mul_ii, e_mul_li, e_mul_si, e_fdiv_ii, e_mod_ii, e_pow_ii, e_deq_nn, e_deq_ii, e_deq_ss, e_deq_bb, e_deq_tt, e_deq_ll, e_deq_st, e_deq_ts, e_deql_n, e_deql_c, e_deql_nc, e_deql_cn, e_isN, e_ix_l, e_ix_t, e_ix_c, e_ix_s, e_ix_d, e_ix_dt, e_in_l, e_in_t, e_in_s, e_in_d, e_in_dt, e_sl_l, e_sl_t, e_sl_s, e_len_lst, e_len_tup, e_len_s, e_len_c, e_len_d, e_int_i, e_abs_i, e_str_i, e_tup_l, e_tup_t, e_oLst0_l, e_oLst0_t, e_oLst0M_l, e_oLst0M_t, e_set_l, e_set_d, e_set_t, e_key_i, e_key_s, e_isT_non_bool, e_isT_non_int, e_isT_non_str, e_isT_non_list, e_isT_non_tuple, e_isT_non_dict, e_isT_bool_bool, e_isT_bool_int, e_isT_bool_str, e_isT_bool_list, e_isT_bool_tuple, e_isT_bool_dict, e_isT_int_bool, e_isT_int_int, e_isT_int_str, e_isT_int_list, e_isT_int_tuple, e_isT_int_dict, e_isT_str_bool, e_isT_str_int, e_isT_str_str, e_isT_str_list, e_isT_str_tuple, e_isT_str_dict, e_isT_list_bool, e_isT_list_int, e_isT_list_str, e_isT_list_list, e_isT_list_tuple, e_isT_list_dict, e_isT_tuple_bool, e_isT_tuple_int, e_isT_tuple_str, e_isT_tuple_list, e_isT_tuple_tuple, e_isT_tuple_dict, e_isT_dict_bool, e_isT_dict_int, e_isT_dict_str, e_isT_dict_list, e_isT_dict_tuple, e_isT_dict_dict, e_lt, e_le, e_gt, e_ge ]
        refine ⟨_, rfl, srcL_len, ?_⟩
        simp only [pu_turn, opn_p_set, vw_d opn_p, dVar, dC, dOp, dTest, dTru, dAnd, dOr, dNot, dAndV, dOrV, dNotV, dIfE, dNil, dCons, dStar, dTup, dLst, dLstM, dFrz, dNeg, oEq, oNe, dNoO, dSoO, dSl, dNext, dSeq, dBreak, dCont, dExpr, dRet, dRetN, dIf, gNm, gNl, gCn, gTp, dAsg, dSet, dAug, dIter, dRng1, dRng2, dYes, dCallB, f1, dIsi, dJoinAt, dFmt, dJs, dJoined, dCall, dstart, rget, rset, dwipe, gSb, dApp, dPop, fMax2, fMin2, dNever, dPairs, dDispG, dDisp, dDispM, dNewK, dNewT, keyD, if_true, if_false, decide_eq_true_eq, Bool.false_eq_true, List.map_cons, List.map_nil, List.length_cons, List.length_nil, List.cons_append, List.nil_append, Nat.reduceAdd, Nat.reduceSub, List.reduceReplicate, e_vw_non, e_vw_bl, e_vw_int, e_vw_str, e_vw_scr, e_vw_lst, e_vw_tup, e_vw_dic, e_vw_dit, e_vw_obj, e_vw_ty, e_flat_non, e_isn_non, e_ty_non, e_flat_bl, e_isn_bl, e_ty_bl, e_flat_int, e_isn_int, e_ty_int, e_flat_str, e_isn_str, e_ty_str, e_flat_scr, e_isn_scr, e_ty_scr, e_flat_lst, e_isn_lst, e_ty_lst, e_flat_tup, e_isn_tup, e_ty_tup, e_flat_dic, e_isn_dic, e_ty_dic, e_flat_dit, e_isn_dit, e_flat_obj, e_isn_obj, e_flat_ty, e_isn_ty, e_add_ii, e_add_ss, e_add_ll, e_add_tt, e_iadd_ii, e_iadd_ss, e_sub_ii, e_mul_ii, e_mul_li, e_mul_si, e_fdiv_ii, e_mod_ii, e_pow_ii, e_deq_nn, e_deq_ii, e_deq_ss, e_deq_bb, e_deq_tt, e_deq_ll, e_deq_st, e_deq_ts, e_deql_n, e_deql_c, e_deql_nc, e_deql_cn, e_isN, e_ix_l, e_ix_t, e_ix_c, e_ix_s, e_ix_d, e_ix_dt, e_in_l, e_in_t, e_in_s, e_in_d, e_in_dt, e_sl_l, e_sl_t, e_sl_s, e_len_lst, e_len_tup, e_len_s, e_len_c, e_len_d, e_int_i, e_abs_i, e_str_i, e_tup_l, e_tup_t, e_oLst0_l, e_oLst0_t, e_oLst0M_l, e_oLst0M_t, e_set_l, e_set_d, e_set_t, e_key_i, e_key_s, e_isT_non_bool, e_isT_non_int, e_isT_non_str, e_isT_non_list, e_isT_non_tuple, e_isT_non_dict, e_isT_bool_bool, e_isT_bool_int, e_isT_bool_str, e_isT_bool_list, e_isT_bool_tuple, e_isT_bool_dict, e_isT_int_bool, e_isT_int_int, e_isT_int_str, e_isT_int_list, e_isT_int_tuple, e_isT_int_dict, e_isT_str_bool, e_isT_str_int, e_isT_str_str, e_isT_str_list, e_isT_str_tuple, e_isT_str_dict, e_isT_list_bool, e_isT_list_int, e_isT_list_str, e_isT_list_list, e_isT_list_tuple, e_isT_list_dict, e_isT_tuple_bool, e_isT_tuple_int, e_isT_tuple_str, e_isT_tuple_list, e_isT_tuple_tuple, e_isT_tuple_dict, e_isT_dict_bool, e_isT_dict_int, e_isT_dict_str, e_isT_dict_list, e_isT_dict_tuple, e_isT_dict_dict, e_lt, e_le, e_gt, e_ge ]
        refine ⟨_, fd_turn, ?_⟩
        simp only [dVar, dC, dOp, dTest, dTru, dAnd, dOr, dNot, dAndV, dOrV, dNotV, dIfE, dNil, dCons, dStar, dTup, dLst, dLstM, dFrz, dNeg, oEq, oNe, dNoO, dSoO, dSl, dNext, dSeq, dBreak, dCont, dExpr, dRet, dRetN, dIf, gNm, gNl, gCn, gTp, dAsg, dSet, dAug, dIter, dRng1, dRng2, dYes, dCallB, f1, dIsi, dJoinAt, dFmt, dJs, dJoined, dCall, dstart, rget, rset, dwipe, gSb, dApp, dPop, fMax2, fMin2, dNever, dPairs, dDispG, dDisp, dDispM, dNewK, dNewT, keyD, if_true, if_false, decide_eq_true_eq, Bool.false_eq_true, List.map_cons, List.map_nil, List.length_cons, List.length_nil, List.cons_append, List.nil_append, Nat.reduceAdd, Nat.reduceSub, List.reduceReplicate, e_vw_non, e_vw_bl, e_vw_int, e_vw_str, e_vw_scr, e_vw_lst, e_vw_tup, e_vw_dic, e_vw_dit, e_vw_obj, e_vw_ty, e_flat_non, e_isn_non, e_ty_non, e_flat_bl, e_isn_bl, e_ty_bl, e_flat_int, e_isn_int, e_ty_int, e_flat_str, e_isn_str, e_ty_str, e_flat_scr, e_isn_scr, e_ty_scr, e_flat_lst, e_isn_lst, e_ty_lst, e_flat_tup, e_isn_tup, e_ty_tup, e_flat_dic, e_isn_dic, e_ty_dic, e_flat_dit, e_isn_dit, e_flat_obj, e_isn_obj, e_flat_ty, e_isn_ty, e_add_ii, e_add_ss, e_add_ll, e_add_tt, e_iadd_ii, e_iadd_ss, e_sub_ii, e_mul_ii, e_mul_li, e_mul_si, e_fdiv_ii, e_mod_ii, e_pow_ii, e_deq_nn, e_deq_ii, e_deq_ss, e_deq_bb, e_deq_tt, e_deq_ll, e_deq_st, e_deq_ts, e_deql_n, e_deql_c, e_deql_nc, e_deql_cn, e_isN, e_ix_l, e_ix_t, e_ix_c, e_ix_s, e_ix_d, e_ix_dt, e_in_l, e_in_t, e_in_s, e_in_d, e_in_dt, e_sl_l, e_sl_t, e_sl_s, e_len_lst, e_len_tup, e_len_s, e_len_c, e_len_d, e_int_i, e_abs_i, e_str_i, e_tup_l, e_tup_t, e_oLst0_l, e_oLst0_t, e_oLst0M_l, e_oLst0M_t, e_set_l, e_set_d, e_set_t, e_key_i, e_key_s, e_isT_non_bool, e_isT_non_int, e_isT_non_str, e_isT_non_list, e_isT_non_tuple, e_isT_non_dict, e_isT_bool_bool, e_isT_bool_int, e_isT_bool_str, e_isT_bool_list, e_isT_bool_tuple, e_isT_bool_dict, e_isT_int_bool, e_isT_int_int, e_isT_int_str, e_isT_int_list, e_isT_int_tuple, e_isT_int_dict, e_isT_str_bool, e_isT_str_int, e_isT_str_str, e_isT_str_list, e_isT_str_tuple, e_isT_str_dict, e_isT_list_bool, e_isT_list_int, e_isT_list_str, e_isT_list_list, e_isT_list_tuple, e_isT_list_dict, e_isT_tuple_bool, e_isT_tuple_int, e_isT_tuple_str, e_isT_tuple_list, e_isT_tuple_tuple, e_isT_tuple_dict, e_isT_dict_bool, e_isT_dict_int, e_isT_dict_str, e_isT_dict_list, e_isT_dict_tuple, e_isT_dict_dict, e_lt, e_le, e_gt, e_ge , vw_d opn_p]
        refine ⟨_, fd_mixed, .inr (by decide), ?_⟩
        simp only [dVar, dC, dOp, dTest, dTru, dAnd, dOr, dNot, dAndV, dOrV, dNotV, dIfE, dNil, dCons, dStar, dTup, dLst, dLstM, dFrz, dNeg, oEq, oNe, dNoO, dSoO, dSl, dNext, dSeq, dBreak, dCont, dExpr, dRet, dRetN, dIf, gNm, gNl, gCn, gTp, dAsg, dSet, dAug, dIter, dRng1, dRng2, dYes, dCallB, f1, dIsi, dJoinAt, dFmt, dJs, dJoined, dCall, dstart, rget, rset, dwipe, gSb, dApp, dPop, fMax2, fMin2, dNever, dPairs, dDispG, dDisp, dDispM, dNewK, dNewT, keyD, if_true, if_false, decide_eq_true_eq, Bool.false_eq_true, List.map_cons, List.map_nil, List.length_cons, List.length_nil, List.cons_append, List.nil_append, Nat.reduceAdd, Nat.reduceSub, List.reduceReplicate, e_vw_non, e_vw_bl, e_vw_int, e_vw_str, e_vw_scr, e_vw_lst, e_vw_tup, e_vw_dic, e_vw_dit, e_vw_obj, e_vw_ty, e_flat_non, e_isn_non, e_ty_non, e_flat_bl, e_isn_bl, e_ty_bl, e_flat_int, e_isn_int, e_ty_int, e_flat_str, e_isn_str, e_ty_str, e_flat_scr, e_isn_scr, e_ty_scr, e_flat_lst, e_isn_lst, e_ty_lst, e_flat_tup, e_isn_tup, e_ty_tup, e_flat_dic, e_isn_dic, e_ty_dic, e_flat_dit, e_isn_dit, e_flat_obj, e_isn_obj, e_flat_ty, e_isn_ty, e_add_ii, e_add_ss, e_add_ll, e_add_tt, e_iadd_ii, e_iadd_ss, e_sub_ii, e_mul_ii, e_mul_li, e_mul_si, e_fdiv_ii, e_mod_ii, e_pow_ii, e_deq_nn, e_deq_ii, e_deq_ss, e_deq_bb, e_deq_tt, e_deq_ll, e_deq_st, e_deq_ts, e_deql_n, e_deql_c, e_deql_nc, e_deql_cn, e_isN, e_ix_l, e_ix_t, e_ix_c, e_ix_s, e_ix_d, e_ix_dt, e_in_l, e_in_t, e_in_s, e_in_d, e_in_dt, e_sl_l, e_sl_t, e_sl_s, e_len_lst, e_len_tup, e_len_s, e_len_c, e_len_d, e_int_i, e_abs_i, e_str_i, e_tup_l, e_tup_t, e_oLst0_l, e_oLst0_t, e_oLst0M_l, e_oLst0M_t, e_set_l, e_set_d, e_set_t, e_key_i, e_key_s, e_isT_non_bool, e_isT_non_int, e_isT_non_str, e_isT_non_list, e_isT_non_tuple, e_isT_non_dict, e_isT_bool_bool, e_isT_bool_int, e_isT_bool_str, e_isT_bool_list, e_isT_bool_tuple, e_isT_bool_dict, e_isT_int_bool, e_isT_int_int, e_isT_int_str, e_isT_int_list, e_isT_int_tuple, e_isT_int_dict, e_isT_str_bool, e_isT_str_int, e_isT_str_str, e_isT_str_list, e_isT_str_tuple, e_isT_str_dict, e_isT_list_bool, e_isT_list_int, e_isT_list_str, e_isT_list_list, e_isT_list_tuple, e_isT_list_dict, e_isT_tuple_bool, e_isT_tuple_int, e_isT_tuple_str, e_isT_tuple_list, e_isT_tuple_tuple, e_isT_tuple_dict, e_isT_dict_bool, e_isT_dict_int, e_isT_dict_str, e_isT_dict_list, e_isT_dict_tuple, e_isT_dict_dict, e_lt, e_le, e_gt, e_ge ]
        refine ⟨by decide, ?_⟩
        refine ⟨.inl ?_, .inr (by decide), by decide, ⟨by decide, by decide, by decide⟩, ?_⟩
        · generalize (mx + (t + 1) * 104729) = z
          have h1 := Int.emod_nonneg z (b := 998244353) (by omega)
          have h2 := Int.emod_lt_of_pos z (b := 998244353) (by omega)
          omega
        rw [if_neg (by show ¬ (10 : Int) ^ 7 < many; omega)]
        refine ⟨⟨by decide, by decide⟩, by omega, ?_⟩
        generalize ((mx + (t + 1) * 104729) % 998244353 * ((mx + (t + 1) * 104729) % 998244353) + (t + 1) * 17) % 2147483647 / 16 = z
        obtain ⟨k, e, hk⟩ := md z
        rw [e]
        exact ⟨_, opn_cl cl, q k _ _ _ _ (.inr hk)⟩
    split
    · split
      · rename_i h0
        have : ∃ ns2 y, ns1 = ns2 ++ [y] := ⟨ns1.dropLast, ns1.getLast (by intro z; subst z; simp at h0), (List.dropLast_concat_getLast _).symm⟩
        obtain ⟨ns2, y, rfl⟩ := this
        refine ⟨c, ns2.map .int, .int y, rfl, by rw [opn_c ne]; simp, ?_⟩
        rw [opn_c_set ne]
        refine ⟨p, _, rfl, opn_p, ?_⟩
        simp only [dVar, dC, dOp, dTest, dTru, dAnd, dOr, dNot, dAndV, dOrV, dNotV, dIfE, dNil, dCons, dStar, dTup, dLst, dLstM, dFrz, dNeg, oEq, oNe, dNoO, dSoO, dSl, dNext, dSeq, dBreak, dCont, dExpr, dRet, dRetN, dIf, gNm, gNl, gCn, gTp, dAsg, dSet, dAug, dIter, dRng1, dRng2, dYes, dCallB, f1, dIsi, dJoinAt, dFmt, dJs, dJoined, dCall, dstart, rget, rset, dwipe, gSb, dApp, dPop, fMax2, fMin2, dNever, dPairs, dDispG, dDisp, dDispM, dNewK, dNewT, keyD, if_true, if_false, decide_eq_true_eq, Bool.false_eq_true, List.map_cons, List.map_nil, List.length_cons, List.length_nil, List.cons_append, List.nil_append, Nat.reduceAdd, Nat.reduceSub, List.reduceReplicate, e_vw_non, e_vw_bl, e_vw_int, e_vw_str, e_vw_scr, e_vw_lst, e_vw_tup, e_vw_dic, e_vw_dit, e_vw_obj, e_vw_ty, e_flat_non, e_isn_non, e_ty_non, e_flat_bl, e_isn_bl, e_ty_bl, e_flat_int, e_isn_int, e_ty_int, e_flat_str, e_isn_str, e_ty_str, e_flat_scr, e_isn_scr, e_ty_scr, e_flat_lst, e_isn_lst, e_ty_lst, e_flat_tup, e_isn_tup, e_ty_tup, e_flat_dic, e_isn_dic, e_ty_dic, e_flat_dit, e_isn_dit, e_flat_obj, e_isn_obj, e_flat_ty, e_isn_ty, e_add_ii, e_add_ss, e_add_ll, e_add_tt, e_iadd_ii, e_iadd_ss, e_sub_ii, e_mul_ii, e_mul_li, e_mul_si, e_fdiv_ii, e_mod_ii, e_pow_ii, e_deq_nn, e_deq_ii, e_deq_ss, e_deq_bb, e_deq_tt, e_deq_ll, e_deq_st, e_deq_ts, e_deql_n, e_deql_c, e_deql_nc, e_deql_cn, e_isN, e_ix_l, e_ix_t, e_ix_c, e_ix_s, e_ix_d, e_ix_dt, e_in_l, e_in_t, e_in_s, e_in_d, e_in_dt, e_sl_l, e_sl_t, e_sl_s, e_len_lst, e_len_tup, e_len_s, e_len_c, e_len_d, e_int_i, e_abs_i, e_str_i, e_tup_l, e_tup_t, e_oLst0_l, e_oLst0_t, e_oLst0M_l, e_oLst0M_t, e_set_l, e_set_d, e_set_t, e_key_i, e_key_s, e_isT_non_bool, e_isT_non_int, e_isT_non_str, e_isT_non_list, e_isT_non_tuple, e_isT_non_dict, e_isT_bool_bool, e_isT_bool_int, e_isT_bool_str, e_isT_bool_list, e_isT_bool_tuple, e_isT_bool_dict, e_isT_int_bool, e_isT_int_int, e_isT_int_str, e_isT_int_list, e_isT_int_tuple, e_isT_int_dict, e_isT_str_bool, e_isT_str_int, e_isT_str_str, e_isT_str_list, e_isT_str_tuple, e_isT_str_dict, e_isT_list_bool, e_isT_list_int, e_isT_list_str, e_isT_list_list, e_isT_list_tuple, e_isT_list_dict, e_isT_tuple_bool, e_isT_tuple_int, e_isT_tuple_str, e_isT_tuple_list, e_isT_tuple_tuple, e_isT_tuple_dict, e_isT_dict_bool, e_isT_dict_int, e_isT_dict_str, e_isT_dict_list, e_isT_dict_tuple, e_isT_dict_dict, e_lt, e_le, e_gt, e_ge ]
        refine ⟨_, rfl, srcL_len, ?_⟩
        simp only [pu_left, opn_p_set]
        exact ⟨ns2.length, by simp, y, ns2, rfl, rfl, by trivial⟩
      · exact rest l1 ns1
    · exact rest l1 ns1
theorem ok_srO {f : Addr} {fd : FuncData} (m : Mg mg) (Fd : FunT K "_law_source" s__law_source f fd) : FnOk P w K mg base (L2.CX P w) 1 f fd ["script"] (lift K srO) := by
  refine dfn Fd sc__law_source (fun ds M Q E h => ?_) fun cdv A outer s H E Ed hr => ⟨_, (dss_cons (sSet 1 sc__law_source.nd de_int) (dss_cons (dFor1 (passes_of rfl) (di_seq (vr 0)) (gN 2 sc__law_source.nd) (dss_one (sSet 1 sc__law_source.nd (de_mod (de_int1 rfl m.int (de_add (de_add (de_mul (vr 1) de_int) (de_mul (vr 2) de_int)) de_int)) de_int)))) (dss_cons (sSet 3 sc__law_source.nd (de_lc rfl sc__law_source.nd (di_seq (vr 0)) (blkOk_by (own := [("cell", 2)]) (N := ["script", "mixed", "cell", "cells", "k"]) (sc := defScope s__law_source) (by decide +kernel)) (fun _ _ _ _ _ => (gN 2 sc__law_source.nd)) (fun _ _ _ _ _ => dts_nil) (fun _ _ _ _ _ => (de_abs rfl m.abs (vr 2))) (by decide))) (dss_one (ds_ret (de_dispM (.cons (de_str [99, 101, 108, 108, 115] (by kernel_rfl)) (de_lcM rfl sc__law_source.nd (di_range1 rfl m.range (de_len rfl m.len (vr 3))) (blkOk_by (own := [("k", 4)]) (N := ["script", "mixed", "cell", "cells", "k"]) (sc := defScope s__law_source) (by decide +kernel)) (fun _ _ _ _ _ => (gN 4 sc__law_source.nd)) (fun _ _ _ _ _ => dts_nil) (fun _ _ _ _ _ => (de_ix (Rm1 hr) (vr 3) (de_sub (de_sub (de_len rfl m.len (vr 3)) de_int) (vr 4)))) (by decide)) (.cons (de_str [108, 101, 102, 116] (by kernel_rfl)) de_int (.cons (de_str [109, 105, 120, 101, 100] (by kernel_rfl)) (vr 1) (.cons (de_str [116, 117, 114, 110] (by kernel_rfl)) de_int .nil)))))))))), fun ds M Q cl h => ?_⟩
  · obtain ⟨_, rfl, _⟩ := h; rfl
  · obtain ⟨ns, rfl, hz, q⟩ := h
    simp only [dVar, dC, dOp, dTest, dTru, dAnd, dOr, dNot, dAndV, dOrV, dNotV, dIfE, dNil, dCons, dStar, dTup, dLst, dLstM, dFrz, dNeg, oEq, oNe, dNoO, dSoO, dSl, dNext, dSeq, dBreak, dCont, dExpr, dRet, dRetN, dIf, gNm, gNl, gCn, gTp, dAsg, dSet, dAug, dIter, dRng1, dRng2, dYes, dCallB, f1, dIsi, dJoinAt, dFmt, dJs, dJoined, dCall, dstart, rget, rset, dwipe, gSb, dApp, dPop, fMax2, fMin2, dNever, dPairs, dDispG, dDisp, dDispM, dNewK, dNewT, keyD, if_true, if_false, decide_eq_true_eq, Bool.false_eq_true, List.map_cons, List.map_nil, List.length_cons, List.length_nil, List.cons_append, List.nil_append, Nat.reduceAdd, Nat.reduceSub, List.reduceReplicate, e_vw_non, e_vw_bl, e_vw_int, e_vw_str, e_vw_scr, e_vw_lst, e_vw_tup, e_vw_dic, e_vw_dit, e_vw_obj, e_vw_ty, e_flat_non, e_isn_non, e_ty_non, e_flat_bl, e_isn_bl, e_ty_bl, e_flat_int, e_isn_int, e_ty_int, e_flat_str, e_isn_str, e_ty_str, e_flat_scr, e_isn_scr, e_ty_scr, e_flat_lst, e_isn_lst, e_ty_lst, e_flat_tup, e_isn_tup, e_ty_tup, e_flat_dic, e_isn_dic, e_ty_dic, e_flat_dit, e_isn_dit, e_flat_obj, e_isn_obj, e_flat_ty, e_isn_ty, e_add_ii, e_add_ss, e_add_ll, e_add_tt, e_iadd_ii, e_iadd_ss, e_sub_ii, e_mul_ii, e_mul_li, e_mul_si, e_fdiv_ii, e_mod_ii, e_pow_ii, e_deq_nn, e_deq_ii, e_deq_ss, e_deq_bb, e_deq_tt, e_deq_ll, e_deq_st, e_deq_ts, e_deql_n, e_deql_c, e_deql_nc, e_deql_cn, e_isN, e_ix_l, e_ix_t, e_ix_c, e_ix_s, e_ix_d, e_ix_dt, e_in_l, e_in_t, e_in_s, e_in_d, e_in_dt, e_sl_l, e_sl_t, e_sl_s, e_len_lst, e_len_tup, e_len_s, e_len_c, e_len_d, e_int_i, e_abs_i, e_str_i, e_tup_l, e_tup_t, e_oLst0_l, e_oLst0_t, e_oLst0M_l, e_oLst0M_t, e_set_l, e_set_d, e_set_t, e_key_i, e_key_s, e_isT_non_bool, e_isT_non_int, e_isT_non_str, e_isT_non_list, e_isT_non_tuple, e_isT_non_dict, e_isT_bool_bool, e_isT_bool_int, e_isT_bool_str, e_isT_bool_list, e_isT_bool_tuple, e_isT_bool_dict, e_isT_int_bool, e_isT_int_int, e_isT_int_str, e_isT_int_list, e_isT_int_tuple, e_isT_int_dict, e_isT_str_bool, e_isT_str_int, e_isT_str_str, e_isT_str_list, e_isT_str_tuple, e_isT_str_dict, e_isT_list_bool, e_isT_list_int, e_isT_list_str, e_isT_list_list, e_isT_list_tuple, e_isT_list_dict, e_isT_tuple_bool, e_isT_tuple_int, e_isT_tuple_str, e_isT_tuple_list, e_isT_tuple_tuple, e_isT_tuple_dict, e_isT_dict_bool, e_isT_dict_int, e_isT_dict_str, e_isT_dict_list, e_isT_dict_tuple, e_isT_dict_dict, e_lt, e_le, e_gt, e_ge ]
    refine gen_nx (t := dFor _ _ _) fun R hR => ?_
    simp only [dFor, dVar, dC, dOp, dTest, dTru, dAnd, dOr, dNot, dAndV, dOrV, dNotV, dIfE, dNil, dCons, dStar, dTup, dLst, dLstM, dFrz, dNeg, oEq, oNe, dNoO, dSoO, dSl, dNext, dSeq, dBreak, dCont, dExpr, dRet, dRetN, dIf, gNm, gNl, gCn, gTp, dAsg, dSet, dAug, dIter, dRng1, dRng2, dYes, dCallB, f1, dIsi, dJoinAt, dFmt, dJs, dJoined, dCall, dstart, rget, rset, dwipe, gSb, dApp, dPop, fMax2, fMin2, dNever, dPairs, dDispG, dDisp, dDispM, dNewK, dNewT, keyD, if_true, if_false, decide_eq_true_eq, Bool.false_eq_true, List.map_cons, List.map_nil, List.length_cons, List.length_nil, List.cons_append, List.nil_append, Nat.reduceAdd, Nat.reduceSub, List.reduceReplicate, e_vw_non, e_vw_bl, e_vw_int, e_vw_str, e_vw_scr, e_vw_lst, e_vw_tup, e_vw_dic, e_vw_dit, e_vw_obj, e_vw_ty, e_flat_non, e_isn_non, e_ty_non, e_flat_bl, e_isn_bl, e_ty_bl, e_flat_int, e_isn_int, e_ty_int, e_flat_str, e_isn_str, e_ty_str, e_flat_scr, e_isn_scr, e_ty_scr, e_flat_lst, e_isn_lst, e_ty_lst, e_flat_tup, e_isn_tup, e_ty_tup, e_flat_dic, e_isn_dic, e_ty_dic, e_flat_dit, e_isn_dit, e_flat_obj, e_isn_obj, e_flat_ty, e_isn_ty, e_add_ii, e_add_ss, e_add_ll, e_add_tt, e_iadd_ii, e_iadd_ss, e_sub_ii, e_mul_ii, e_mul_li, e_mul_si, e_fdiv_ii, e_mod_ii, e_pow_ii, e_deq_nn, e_deq_ii, e_deq_ss, e_deq_bb, e_deq_tt, e_deq_ll, e_deq_st, e_deq_ts, e_deql_n, e_deql_c, e_deql_nc, e_deql_cn, e_isN, e_ix_l, e_ix_t, e_ix_c, e_ix_s, e_ix_d, e_ix_dt, e_in_l, e_in_t, e_in_s, e_in_d, e_in_dt, e_sl_l, e_sl_t, e_sl_s, e_len_lst, e_len_tup, e_len_s, e_len_c, e_len_d, e_int_i, e_abs_i, e_str_i, e_tup_l, e_tup_t, e_oLst0_l, e_oLst0_t, e_oLst0M_l, e_oLst0M_t, e_set_l, e_set_d, e_set_t, e_key_i, e_key_s, e_isT_non_bool, e_isT_non_int, e_isT_non_str, e_isT_non_list, e_isT_non_tuple, e_isT_non_dict, e_isT_bool_bool, e_isT_bool_int, e_isT_bool_str, e_isT_bool_list, e_isT_bool_tuple, e_isT_bool_dict, e_isT_int_bool, e_isT_int_int, e_isT_int_str, e_isT_int_list, e_isT_int_tuple, e_isT_int_dict, e_isT_str_bool, e_isT_str_int, e_isT_str_str, e_isT_str_list, e_isT_str_tuple, e_isT_str_dict, e_isT_list_bool, e_isT_list_int, e_isT_list_str, e_isT_list_list, e_isT_list_tuple, e_isT_list_dict, e_isT_tuple_bool, e_isT_tuple_int, e_isT_tuple_str, e_isT_tuple_list, e_isT_tuple_tuple, e_isT_tuple_dict, e_isT_dict_bool, e_isT_dict_int, e_isT_dict_str, e_isT_dict_list, e_isT_dict_tuple, e_isT_dict_dict, e_lt, e_le, e_gt, e_ge ]
    refine ⟨fun i ρ M' => M' = M ∧ ∃ x y, ρ = [some (.scr ns), some (.int x), y, none, none], ⟨rfl, 11, none, rfl⟩, ?_, ?_⟩
    · rintro i d ρ M' hi ⟨rfl, x, y, rfl⟩
      rw [List.getElem?_map] at hi
      cases e : ns[i]? with
      | none => rw [e] at hi; cases hi
      | some n =>
        rw [e] at hi; cases hi
        simp only [dVar, dC, dOp, dTest, dTru, dAnd, dOr, dNot, dAndV, dOrV, dNotV, dIfE, dNil, dCons, dStar, dTup, dLst, dLstM, dFrz, dNeg, oEq, oNe, dNoO, dSoO, dSl, dNext, dSeq, dBreak, dCont, dExpr, dRet, dRetN, dIf, gNm, gNl, gCn, gTp, dAsg, dSet, dAug, dIter, dRng1, dRng2, dYes, dCallB, f1, dIsi, dJoinAt, dFmt, dJs, dJoined, dCall, dstart, rget, rset, dwipe, gSb, dApp, dPop, fMax2, fMin2, dNever, dPairs, dDispG, dDisp, dDispM, dNewK, dNewT, keyD, if_true, if_false, decide_eq_true_eq, Bool.false_eq_true, List.map_cons, List.map_nil, List.length_cons, List.length_nil, List.cons_append, List.nil_append, Nat.reduceAdd, Nat.reduceSub, List.reduceReplicate, e_vw_non, e_vw_bl, e_vw_int, e_vw_str, e_vw_scr, e_vw_lst, e_vw_tup, e_vw_dic, e_vw_dit, e_vw_obj, e_vw_ty, e_flat_non, e_isn_non, e_ty_non, e_flat_bl, e_isn_bl, e_ty_bl, e_flat_int, e_isn_int, e_ty_int, e_flat_str, e_isn_str, e_ty_str, e_flat_scr, e_isn_scr, e_ty_scr, e_flat_lst, e_isn_lst, e_ty_lst, e_flat_tup, e_isn_tup, e_ty_tup, e_flat_dic, e_isn_dic, e_ty_dic, e_flat_dit, e_isn_dit, e_flat_obj, e_isn_obj, e_flat_ty, e_isn_ty, e_add_ii, e_add_ss, e_add_ll, e_add_tt, e_iadd_ii, e_iadd_ss, e_sub_ii, e_mul_ii, e_mul_li, e_mul_si, e_fdiv_ii, e_mod_ii, e_pow_ii, e_deq_nn, e_deq_ii, e_deq_ss, e_deq_bb, e_deq_tt, e_deq_ll, e_deq_st, e_deq_ts, e_deql_n, e_deql_c, e_deql_nc, e_deql_cn, e_isN, e_ix_l, e_ix_t, e_ix_c, e_ix_s, e_ix_d, e_ix_dt, e_in_l, e_in_t, e_in_s, e_in_d, e_in_dt, e_sl_l, e_sl_t, e_sl_s, e_len_lst, e_len_tup, e_len_s, e_len_c, e_len_d, e_int_i, e_abs_i, e_str_i, e_tup_l, e_tup_t, e_oLst0_l, e_oLst0_t, e_oLst0M_l, e_oLst0M_t, e_set_l, e_set_d, e_set_t, e_key_i, e_key_s, e_isT_non_bool, e_isT_non_int, e_isT_non_str, e_isT_non_list, e_isT_non_tuple, e_isT_non_dict, e_isT_bool_bool, e_isT_bool_int, e_isT_bool_str, e_isT_bool_list, e_isT_bool_tuple, e_isT_bool_dict, e_isT_int_bool, e_isT_int_int, e_isT_int_str, e_isT_int_list, e_isT_int_tuple, e_isT_int_dict, e_isT_str_bool, e_isT_str_int, e_isT_str_str, e_isT_str_list, e_isT_str_tuple, e_isT_str_dict, e_isT_list_bool, e_isT_list_int, e_isT_list_str, e_isT_list_list, e_isT_list_tuple, e_isT_list_dict, e_isT_tuple_bool, e_isT_tuple_int, e_isT_tuple_str, e_isT_tuple_list, e_isT_tuple_tuple, e_isT_tuple_dict, e_isT_dict_bool, e_isT_dict_int, e_isT_dict_str, e_isT_dict_list, e_isT_dict_tuple, e_isT_dict_dict, e_lt, e_le, e_gt, e_ge ]
        exact ⟨.inr (by decide), .inr (by decide), by decide, trivial, _, _, rfl⟩
    · rintro ρ M' ⟨rfl, x, y, rfl⟩
      refine hR _ _ ?_
      simp only [dLc, dLcM, dLcG, dVar, dC, dOp, dTest, dTru, dAnd, dOr, dNot, dAndV, dOrV, dNotV, dIfE, dNil, dCons, dStar, dTup, dLst, dLstM, dFrz, dNeg, oEq, oNe, dNoO, dSoO, dSl, dNext, dSeq, dBreak, dCont, dExpr, dRet, dRetN, dIf, gNm, gNl, gCn, gTp, dAsg, dSet, dAug, dIter, dRng1, dRng2, dYes, dCallB, f1, dIsi, dJoinAt, dFmt, dJs, dJoined, dCall, dstart, rget, rset, dwipe, gSb, dApp, dPop, fMax2, fMin2, dNever, dPairs, dDispG, dDisp, dDispM, dNewK, dNewT, keyD, if_true, if_false, decide_eq_true_eq, Bool.false_eq_true, List.map_cons, List.map_nil, List.length_cons, List.length_nil, List.cons_append, List.nil_append, Nat.reduceAdd, Nat.reduceSub, List.reduceReplicate, e_vw_non, e_vw_bl, e_vw_int, e_vw_str, e_vw_scr, e_vw_lst, e_vw_tup, e_vw_dic, e_vw_dit, e_vw_obj, e_vw_ty, e_flat_non, e_isn_non, e_ty_non, e_flat_bl, e_isn_bl, e_ty_bl, e_flat_int, e_isn_int, e_ty_int, e_flat_str, e_isn_str, e_ty_str, e_flat_scr, e_isn_scr, e_ty_scr, e_flat_lst, e_isn_lst, e_ty_lst, e_flat_tup, e_isn_tup, e_ty_tup, e_flat_dic, e_isn_dic, e_ty_dic, e_flat_dit, e_isn_dit, e_flat_obj, e_isn_obj, e_flat_ty, e_isn_ty, e_add_ii, e_add_ss, e_add_ll, e_add_tt, e_iadd_ii, e_iadd_ss, e_sub_ii, e_mul_ii, e_mul_li, e_mul_si, e_fdiv_ii, e_mod_ii, e_pow_ii, e_deq_nn, e_deq_ii, e_deq_ss, e_deq_bb, e_deq_tt, e_deq_ll, e_deq_st, e_deq_ts, e_deql_n, e_deql_c, e_deql_nc, e_deql_cn, e_isN, e_ix_l, e_ix_t, e_ix_c, e_ix_s, e_ix_d, e_ix_dt, e_in_l, e_in_t, e_in_s, e_in_d, e_in_dt, e_sl_l, e_sl_t, e_sl_s, e_len_lst, e_len_tup, e_len_s, e_len_c, e_len_d, e_int_i, e_abs_i, e_str_i, e_tup_l, e_tup_t, e_oLst0_l, e_oLst0_t, e_oLst0M_l, e_oLst0M_t, e_set_l, e_set_d, e_set_t, e_key_i, e_key_s, e_isT_non_bool, e_isT_non_int, e_isT_non_str, e_isT_non_list, e_isT_non_tuple, e_isT_non_dict, e_isT_bool_bool, e_isT_bool_int, e_isT_bool_str, e_isT_bool_list, e_isT_bool_tuple, e_isT_bool_dict, e_isT_int_bool, e_isT_int_int, e_isT_int_str, e_isT_int_list, e_isT_int_tuple, e_isT_int_dict, e_isT_str_bool, e_isT_str_int, e_isT_str_str, e_isT_str_list, e_isT_str_tuple, e_isT_str_dict, e_isT_list_bool, e_isT_list_int, e_isT_list_str, e_isT_list_list, e_isT_list_tuple, e_isT_list_dict, e_isT_tuple_bool, e_isT_tuple_int, e_isT_tuple_str, e_isT_tuple_list, e_isT_tuple_tuple, e_isT_tuple_dict, e_isT_dict_bool, e_isT_dict_int, e_isT_dict_str, e_isT_dict_list, e_isT_dict_tuple, e_isT_dict_dict, e_lt, e_le, e_gt, e_ge ]
      refine ⟨fun i acc M1 => M1 = M' ∧ ∃ cs : List Int, acc = cs.map .int ∧ cs.length = i, ⟨rfl, [], rfl, rfl⟩, ?_, ?_⟩
      · rintro i d acc M1 hi ⟨rfl, cs, rfl, hcs⟩
        rw [List.getElem?_map] at hi
        cases e : ns[i]? with
        | none => rw [e] at hi; cases hi
        | some n =>
          rw [e] at hi; cases hi
          have hin : i < ns.length := (List.getElem?_eq_some_iff.mp e).1
          simp only [dVar, dC, dOp, dTest, dTru, dAnd, dOr, dNot, dAndV, dOrV, dNotV, dIfE, dNil, dCons, dStar, dTup, dLst, dLstM, dFrz, dNeg, oEq, oNe, dNoO, dSoO, dSl, dNext, dSeq, dBreak, dCont, dExpr, dRet, dRetN, dIf, gNm, gNl, gCn, gTp, dAsg, dSet, dAug, dIter, dRng1, dRng2, dYes, dCallB, f1, dIsi, dJoinAt, dFmt, dJs, dJoined, dCall, dstart, rget, rset, dwipe, gSb, dApp, dPop, fMax2, fMin2, dNever, dPairs, dDispG, dDisp, dDispM, dNewK, dNewT, keyD, if_true, if_false, decide_eq_true_eq, Bool.false_eq_true, List.map_cons, List.map_nil, List.length_cons, List.length_nil, List.cons_append, List.nil_append, Nat.reduceAdd, Nat.reduceSub, List.reduceReplicate, e_vw_non, e_vw_bl, e_vw_int, e_vw_str, e_vw_scr, e_vw_lst, e_vw_tup, e_vw_dic, e_vw_dit, e_vw_obj, e_vw_ty, e_flat_non, e_isn_non, e_ty_non, e_flat_bl, e_isn_bl, e_ty_bl, e_flat_int, e_isn_int, e_ty_int, e_flat_str, e_isn_str, e_ty_str, e_flat_scr, e_isn_scr, e_ty_scr, e_flat_lst, e_isn_lst, e_ty_lst, e_flat_tup, e_isn_tup, e_ty_tup, e_flat_dic, e_isn_dic, e_ty_dic, e_flat_dit, e_isn_dit, e_flat_obj, e_isn_obj, e_flat_ty, e_isn_ty, e_add_ii, e_add_ss, e_add_ll, e_add_tt, e_iadd_ii, e_iadd_ss, e_sub_ii, e_mul_ii, e_mul_li, e_mul_si, e_fdiv_ii, e_mod_ii, e_pow_ii, e_deq_nn, e_deq_ii, e_deq_ss, e_deq_bb, e_deq_tt, e_deq_ll, e_deq_st, e_deq_ts, e_deql_n, e_deql_c, e_deql_nc, e_deql_cn, e_isN, e_ix_l, e_ix_t, e_ix_c, e_ix_s, e_ix_d, e_ix_dt, e_in_l, e_in_t, e_in_s, e_in_d, e_in_dt, e_sl_l, e_sl_t, e_sl_s, e_len_lst, e_len_tup, e_len_s, e_len_c, e_len_d, e_int_i, e_abs_i, e_str_i, e_tup_l, e_tup_t, e_oLst0_l, e_oLst0_t, e_oLst0M_l, e_oLst0M_t, e_set_l, e_set_d, e_set_t, e_key_i, e_key_s, e_isT_non_bool, e_isT_non_int, e_isT_non_str, e_isT_non_list, e_isT_non_tuple, e_isT_non_dict, e_isT_bool_bool, e_isT_bool_int, e_isT_bool_str, e_isT_bool_list, e_isT_bool_tuple, e_isT_bool_dict, e_isT_int_bool, e_isT_int_int, e_isT_int_str, e_isT_int_list, e_isT_int_tuple, e_isT_int_dict, e_isT_str_bool, e_isT_str_int, e_isT_str_str, e_isT_str_list, e_isT_str_tuple, e_isT_str_dict, e_isT_list_bool, e_isT_list_int, e_isT_list_str, e_isT_list_list, e_isT_list_tuple, e_isT_list_dict, e_isT_tuple_bool, e_isT_tuple_int, e_isT_tuple_str, e_isT_tuple_list, e_isT_tuple_tuple, e_isT_tuple_dict, e_isT_dict_bool, e_isT_dict_int, e_isT_dict_str, e_isT_dict_list, e_isT_dict_tuple, e_isT_dict_dict, e_lt, e_le, e_gt, e_ge ]
          exact ⟨by rw [List.length_map, sizeLine_eq]; omega, trivial, cs ++ [_], by rw [List.map_append]; rfl, by simp [hcs]⟩
      · rintro acc M1 ⟨rfl, cs, rfl, hcs⟩
        rw [List.length_map] at hcs
        simp only [dVar, dC, dOp, dTest, dTru, dAnd, dOr, dNot, dAndV, dOrV, dNotV, dIfE, dNil, dCons, dStar, dTup, dLst, dLstM, dFrz, dNeg, oEq, oNe, dNoO, dSoO, dSl, dNext, dSeq, dBreak, dCont, dExpr, dRet, dRetN, dIf, gNm, gNl, gCn, gTp, dAsg, dSet, dAug, dIter, dRng1, dRng2, dYes, dCallB, f1, dIsi, dJoinAt, dFmt, dJs, dJoined, dCall, dstart, rget, rset, dwipe, gSb, dApp, dPop, fMax2, fMin2, dNever, dPairs, dDispG, dDisp, dDispM, dNewK, dNewT, keyD, if_true, if_false, decide_eq_true_eq, Bool.false_eq_true, List.map_cons, List.map_nil, List.length_cons, List.length_nil, List.cons_append, List.nil_append, Nat.reduceAdd, Nat.reduceSub, List.reduceReplicate, e_vw_non, e_vw_bl, e_vw_int, e_vw_str, e_vw_scr, e_vw_lst, e_vw_tup, e_vw_dic, e_vw_dit, e_vw_obj, e_vw_ty, e_flat_non, e_isn_non, e_ty_non, e_flat_bl, e_isn_bl, e_ty_bl, e_flat_int, e_isn_int, e_ty_int, e_flat_str, e_isn_str, e_ty_str, e_flat_scr, e_isn_scr, e_ty_scr, e_flat_lst, e_isn_lst, e_ty_lst, e_flat_tup, e_isn_tup, e_ty_tup, e_flat_dic, e_isn_dic, e_ty_dic, e_flat_dit, e_isn_dit, e_flat_obj, e_isn_obj, e_flat_ty, e_isn_ty, e_add_ii, e_add_ss, e_add_ll, e_add_tt, e_iadd_ii, e_iadd_ss, e_sub_ii, e_mul_ii, e_mul_li, e_mul_si, e_fdiv_ii, e_mod_ii, e_pow_ii, e_deq_nn, e_deq_ii, e_deq_ss, e_deq_bb, e_deq_tt, e_deq_ll, e_deq_st, e_deq_ts, e_deql_n, e_deql_c, e_deql_nc, e_deql_cn, e_isN, e_ix_l, e_ix_t, e_ix_c, e_ix_s, e_ix_d, e_ix_dt, e_in_l, e_in_t, e_in_s, e_in_d, e_in_dt, e_sl_l, e_sl_t, e_sl_s, e_len_lst, e_len_tup, e_len_s, e_len_c, e_len_d, e_int_i, e_abs_i, e_str_i, e_tup_l, e_tup_t, e_oLst0_l, e_oLst0_t, e_oLst0M_l, e_oLst0M_t, e_set_l, e_set_d, e_set_t, e_key_i, e_key_s, e_isT_non_bool, e_isT_non_int, e_isT_non_str, e_isT_non_list, e_isT_non_tuple, e_isT_non_dict, e_isT_bool_bool, e_isT_bool_int, e_isT_bool_str, e_isT_bool_list, e_isT_bool_tuple, e_isT_bool_dict, e_isT_int_bool, e_isT_int_int, e_isT_int_str, e_isT_int_list, e_isT_int_tuple, e_isT_int_dict, e_isT_str_bool, e_isT_str_int, e_isT_str_str, e_isT_str_list, e_isT_str_tuple, e_isT_str_dict, e_isT_list_bool, e_isT_list_int, e_isT_list_str, e_isT_list_list, e_isT_list_tuple, e_isT_list_dict, e_isT_tuple_bool, e_isT_tuple_int, e_isT_tuple_str, e_isT_tuple_list, e_isT_tuple_tuple, e_isT_tuple_dict, e_isT_dict_bool, e_isT_dict_int, e_isT_dict_str, e_isT_dict_list, e_isT_dict_tuple, e_isT_dict_dict, e_lt, e_le, e_gt, e_ge , List.length_map]
        refine ⟨by omega, by omega, ?_⟩
        refine ⟨fun i acc M2 => M2 = M1 ∧ ∃ es : List Int, acc = es.map .int ∧ es.length = i, ⟨rfl, [], rfl, rfl⟩, ?_, ?_⟩
        · rintro i d acc M2 hi ⟨rfl, es, rfl, hes⟩
          have hlt : i < cs.length := by
            have := (List.getElem?_eq_some_iff.mp hi).1
            simp only [rngD, List.length_map, List.length_range] at this; omega
          simp only [rngD, List.getElem?_map, List.getElem?_range (show i < (Int.toNat (cs.length : Int)) by omega), Option.map_some, Option.some.injEq] at hi
          subst hi
          simp only [dVar, dC, dOp, dTest, dTru, dAnd, dOr, dNot, dAndV, dOrV, dNotV, dIfE, dNil, dCons, dStar, dTup, dLst, dLstM, dFrz, dNeg, oEq, oNe, dNoO, dSoO, dSl, dNext, dSeq, dBreak, dCont, dExpr, dRet, dRetN, dIf, gNm, gNl, gCn, gTp, dAsg, dSet, dAug, dIter, dRng1, dRng2, dYes, dCallB, f1, dIsi, dJoinAt, dFmt, dJs, dJoined, dCall, dstart, rget, rset, dwipe, gSb, dApp, dPop, fMax2, fMin2, dNever, dPairs, dDispG, dDisp, dDispM, dNewK, dNewT, keyD, if_true, if_false, decide_eq_true_eq, Bool.false_eq_true, List.map_cons, List.map_nil, List.length_cons, List.length_nil, List.cons_append, List.nil_append, Nat.reduceAdd, Nat.reduceSub, List.reduceReplicate, e_vw_non, e_vw_bl, e_vw_int, e_vw_str, e_vw_scr, e_vw_lst, e_vw_tup, e_vw_dic, e_vw_dit, e_vw_obj, e_vw_ty, e_flat_non, e_isn_non, e_ty_non, e_flat_bl, e_isn_bl, e_ty_bl, e_flat_int, e_isn_int, e_ty_int, e_flat_str, e_isn_str, e_ty_str, e_flat_scr, e_isn_scr, e_ty_scr, e_flat_lst, e_isn_lst, e_ty_lst, e_flat_tup, e_isn_tup, e_ty_tup, e_flat_dic, e_isn_dic, e_ty_dic, e_flat_dit, e_isn_dit, e_flat_obj, e_isn_obj, e_flat_ty, e_isn_ty, e_add_ii, e_add_ss, e_add_ll, e_add_tt, e_iadd_ii, e_iadd_ss, e_sub_ii, e_mul_ii, e_mul_li, e_mul_si, e_fdiv_ii, e_mod_ii, e_pow_ii, e_deq_nn, e_deq_ii, e_deq_ss, e_deq_bb, e_deq_tt, e_deq_ll, e_deq_st, e_deq_ts, e_deql_n, e_deql_c, e_deql_nc, e_deql_cn, e_isN, e_ix_l, e_ix_t, e_ix_c, e_ix_s, e_ix_d, e_ix_dt, e_in_l, e_in_t, e_in_s, e_in_d, e_in_dt, e_sl_l, e_sl_t, e_sl_s, e_len_lst, e_len_tup, e_len_s, e_len_c, e_len_d, e_int_i, e_abs_i, e_str_i, e_tup_l, e_tup_t, e_oLst0_l, e_oLst0_t, e_oLst0M_l, e_oLst0M_t, e_set_l, e_set_d, e_set_t, e_key_i, e_key_s, e_isT_non_bool, e_isT_non_int, e_isT_non_str, e_isT_non_list, e_isT_non_tuple, e_isT_non_dict, e_isT_bool_bool, e_isT_bool_int, e_isT_bool_str, e_isT_bool_list, e_isT_bool_tuple, e_isT_bool_dict, e_isT_int_bool, e_isT_int_int, e_isT_int_str, e_isT_int_list, e_isT_int_tuple, e_isT_int_dict, e_isT_str_bool, e_isT_str_int, e_isT_str_str, e_isT_str_list, e_isT_str_tuple, e_isT_str_dict, e_isT_list_bool, e_isT_list_int, e_isT_list_str, e_isT_list_list, e_isT_list_tuple, e_isT_list_dict, e_isT_tuple_bool, e_isT_tuple_int, e_isT_tuple_str, e_isT_tuple_list, e_isT_tuple_tuple, e_isT_tuple_dict, e_isT_dict_bool, e_isT_dict_int, e_isT_dict_str, e_isT_dict_list, e_isT_dict_tuple, e_isT_dict_dict, e_lt, e_le, e_gt, e_ge , List.length_map]
          have hg : ∃ z, cs[cs.length - 1 - i]? = some z := ⟨_, List.getElem?_eq_getElem (by omega)⟩
          obtain ⟨z, hg⟩ := hg
          refine ⟨.int z, atI_n (j := cs.length - 1 - i) (by omega) (by rw [List.getElem?_map, hg]; rfl), ?_⟩
          exact ⟨by rw [sizeLine_eq]; omega, trivial, es ++ [z], by rw [List.map_append]; rfl, by simp [hes]⟩
        · rintro acc M2 ⟨rfl, es, rfl, hes⟩
          intro c hc
          refine ⟨_, rfl, by simp, fun p hp => ?_⟩
          have ne : c ≠ p := fun z => by subst z; rw [mset_same] at hp; cases hp
          have hp' : M2 p = none := by rw [mset_ne (Ne.symm ne)] at hp; exact hp
          refine ⟨_, ?_, q p c 1 x 0 es ne hp' hc⟩
          show DL.Sub _ (mset (mset M2 c (.lst (es.map .int))) p (.dic (srcL c 1 x 0)))
          refine ⟨fun a o h => h, fun a c' h => ?_⟩
          have h1 : a ≠ p := fun z => by subst z; rw [mset_same] at h; cases h
          rw [mset_ne h1] at h
          have h2 : a ≠ c := fun z => by subst z; rw [mset_same] at h; cases h
          rw [mset_ne h2] at h
          have h3 := cl.cl a c' h
          rw [mset_ne (fun z => by subst z; rw [hp'] at h3; cases h3), mset_ne (fun z => by subst z; rw [hc] at h3; cases h3)]
          exact h3
theorem fn_pk {f : Addr} {fd : FuncData} (m : Mg mg) (Fd : FunT K "_law_pick" s__law_pick f fd) (h : mg "_law_pick" = some (.ref f)) : Fn P w K mg base 1 "_law_pick" ["source", "many"] pkS :=
  ⟨f, fd, (ok_pkO m Fd).imp fun vs H Q E h => pk_imp h, h, Fd.kp, Fd.bindsN fun _ _ _ _ _ _ us hl => match us, hl with | [_, _], _ => rfl⟩
theorem fn_sr {f : Addr} {fd : FuncData} (m : Mg mg) (Fd : FunT K "_law_source" s__law_source f fd) (h : mg "_law_source" = some (.ref f)) : Fn P w K mg base 1 "_law_source" ["script"] srS :=
  ⟨f, fd, (ok_srO m Fd).imp fun vs H Q E h => sr_imp h, h, Fd.kp, Fd.bindsN fun _ _ _ _ _ _ us hl => match us, hl with | [_], _ => rfl⟩
theorem fn_bb {f : Addr} {fd : FuncData} (m : Mg mg) (Fd : FunT K "behind_blanks" s_behind_blanks f fd) (h : mg "behind_blanks" = some (.ref f)) : Fn P w K mg base 1 "behind_blanks" ["text", "place"] bbSp :=
  ⟨f, fd, ok_bb m Fd, h, Fd.kp, Fd.bindsN fun _ _ _ _ _ _ us hl => match us, hl with | [_, _], _ => rfl⟩
theorem fn_bw {cB f : Addr} {fd : FuncData} (m : Mg mg) (X_BadText : EX1 P w K mg base "BadText" cB "place" okI) (Fd : FunT K "behind_word" s_behind_word f fd) (h : mg "behind_word" = some (.ref f)) : Fn P w K mg base 3 "behind_word" ["text", "place"] (bwS cB) :=
  ⟨f, fd, ok_bw m X_BadText Fd, h, Fd.kp, Fd.bindsN fun _ _ _ _ _ _ us hl => match us, hl with | [_, _], _ => rfl⟩
/-! ### terms -/
inductive Tm where
  | leaf (w : Cd)
  | node (w : Cd) (ts : List Tm)
mutual
def toD : Tm → D
  | .leaf w => .str w
  | .node w ts => .tup (.str w :: toDs ts)
def toDs : List Tm → List D
  | [] => []
  | t :: r => toD t :: toDs r
end
mutual
def wr : Tm → Cd
  | .leaf w => w
  | .node w ts => w ++ [40] ++ joinD [44, 32] (wrs ts) ++ [41]
def wrs : List Tm → List Cd
  | [] => []
  | t :: r => wr t :: wrs r
end
theorem toDs_eq : ∀ ts : List Tm, toDs ts = ts.map toD
  | [] => by simp [toDs]
  | t :: r => by simp [toDs, toDs_eq r]
theorem wrs_eq : ∀ ts : List Tm, wrs ts = ts.map wr
  | [] => by simp [wrs]
  | t :: r => by simp [wrs, wrs_eq r]
theorem toD_leaf {w : Cd} : toD (.leaf w) = .str w := by simp [toD]
theorem toD_node {w : Cd} {ts : List Tm} : toD (.node w ts) = .tup (.str w :: ts.map toD) := by simp [toD, toDs_eq]
theorem wr_leaf {w : Cd} : wr (.leaf w) = w := by simp [wr]
theorem wr_node {w : Cd} {ts : List Tm} : wr (.node w ts) = w ++ [40] ++ joinD [44, 32] (ts.map wr) ++ [41] := by simp [wr, wrs_eq]
def Ok : Nat → Tm → Prop
  | _, .leaf w => Wd w
  | 0, .node _ _ => False
  | n + 1, .node w ts => Wd w ∧ ts.length ≤ 1000000 ∧ ∀ t ∈ ts, Ok n t
theorem sumL_app : ∀ a b : List Cd, sumL (a ++ b) = sumL a + sumL b
  | [], b => by simp [sumL]
  | x :: a, b => by simp only [List.cons_append, sumL, sumL_app a b]; omega
theorem join_len (s : Cd) : ∀ xs : List Cd, xs ≠ [] → (joinD s xs).length + s.length = sumL xs + xs.length * s.length
  | [], h => absurd rfl h
  | [x], _ => by simp [joinD, sumL]
  | x :: y :: r, _ => by
    have h := join_len s (y :: r) (by simp)
    rw [joinD_cons]
    simp only [List.length_append, sumL, List.length_cons, Nat.succ_mul, Nat.add_mul] at h ⊢
    omega
theorem sumL_mem : ∀ {xs : List Cd} {x : Cd}, x ∈ xs → x.length ≤ sumL xs
  | y :: r, x, h => by
    rcases List.mem_cons.mp h with h | h
    · subst h; simp only [sumL]; omega
    · have := sumL_mem h; simp only [sumL]; omega
theorem wr_len {w : Cd} {ts : List Tm} : sumL (ts.map wr) + ts.length * 2 ≤ (wr (.node w ts)).length + 2 := by
  rw [wr_node]
  cases ts with
  | nil => simp [sumL]
  | cons t r =>
    have h := join_len [44, 32] ((t :: r).map wr) (by simp)
    simp only [List.length_append, List.length_cons, List.length_nil, List.length_map] at h ⊢
    omega
/-- write_term, _law_text -/
def wtS (n : Nat) : DSp := fun ds M Q _ => ∃ t, ds = [toD t] ∧ Ok n t ∧ (wr t).length ≤ 1000000 ∧ Q (.str (wr t)) M
theorem ok_wt (m : Mg mg) {f : Addr} {fd : FuncData} (Fd : FunT K "write_term" s_write_term f fd) (h : mg "write_term" = some (.ref f)) : ∀ n, Fn P w K mg base (n + 1) "write_term" ["term"] (wtS n) := by
  intro n
  refine ⟨f, fd, ?_, h, Fd.kp, Fd.bindsN fun _ _ _ _ _ _ us hl => match us, hl with | [_], _ => rfl⟩
  have go : ∀ (n : Nat) (G : ∀ k, n = k + 1 → Fn P w K mg base (k + 1) "write_term" ["term"] (wtS k)), FnOk P w K mg base (L2.CX P w) (n + 1) f fd ["term"] (lift K (wtS n)) := by
    intro n G
    cases n with
    | zero =>
      refine dfn Fd sc_write_term (fun ds M Q E h => ?_) fun cdv A outer s H E Ed hr => ⟨_, dss_cons (ds_if (dt_isi .str (by decide) rfl m.isinstance rfl m.str boot_str (vr 0)) (dss_one (ds_ret (vr 0))) dss_nil) dss_never, fun ds M Q cl h => ?_⟩
      · obtain ⟨_, rfl, _⟩ := h; rfl
      · obtain ⟨t, rfl, ok, hz, q⟩ := h
        cases t with
        | node w ts => exact ok.elim
        | leaf w =>
          rw [toD_leaf]
          rw [wr_leaf] at q
          simp only [dVar, dC, dOp, dTest, dTru, dAnd, dOr, dNot, dAndV, dOrV, dNotV, dIfE, dNil, dCons, dStar, dTup, dLst, dLstM, dFrz, dNeg, oEq, oNe, dNoO, dSoO, dSl, dNext, dSeq, dBreak, dCont, dExpr, dRet, dRetN, dIf, gNm, gNl, gCn, gTp, dAsg, dSet, dAug, dIter, dRng1, dRng2, dYes, dCallB, f1, dIsi, dJoinAt, dFmt, dJs, dJoined, dCall, dstart, rget, rset, dwipe, gSb, dApp, dPop, fMax2, fMin2, dNever, dPairs, dDispG, dDisp, dDispM, dNewK, dNewT, keyD, if_true, if_false, decide_eq_true_eq, Bool.false_eq_true, List.map_cons, List.map_nil, List.length_cons, List.length_nil, List.cons_append, List.nil_append, Nat.reduceAdd, Nat.reduceSub, List.reduceReplicate, e_vw_non, e_vw_bl, e_vw_int, e_vw_str, e_vw_scr, e_vw_lst, e_vw_tup, e_vw_dic, e_vw_dit, e_vw_obj, e_vw_ty, e_flat_non, e_isn_non, e_ty_non, e_flat_bl, e_isn_bl, e_ty_bl, e_flat_int, e_isn_int, e_ty_int, e_flat_str, e_isn_str, e_ty_str, e_flat_scr, e_isn_scr, e_ty_scr, e_flat_lst, e_isn_lst, e_ty_lst, e_flat_tup, e_isn_tup, e_ty_tup, e_flat_dic, e_isn_dic, e_ty_dic, e_flat_dit, e_isn_dit, e_flat_obj, e_isn_obj, e_flat_ty, e_isn_ty, e_add_ii, e_add_ss, e_add_ll, e_add_tt, e_iadd_ii, e_iadd_ss, e_sub_ii, e_mul_ii, e_mul_li, e_mul_si, e_fdiv_ii, e_mod_ii, e_pow_ii, e_deq_nn, e_deq_ii, e_deq_ss, e_deq_bb, e_deq_tt, e_deq_ll, e_deq_st, e_deq_ts, e_deql_n, e_deql_c, e_deql_nc, e_deql_cn, e_isN, e_ix_l, e_ix_t, e_ix_c, e_ix_s, e_ix_d, e_ix_dt, e_in_l, e_in_t, e_in_s, e_in_d, e_in_dt, e_sl_l, e_sl_t, e_sl_s, e_len_lst, e_len_tup, e_len_s, e_len_c, e_len_d, e_int_i, e_abs_i, e_str_i, e_tup_l, e_tup_t, e_oLst0_l, e_oLst0_t, e_oLst0M_l, e_oLst0M_t, e_set_l, e_set_d, e_set_t, e_key_i, e_key_s, e_isT_non_bool, e_isT_non_int, e_isT_non_str, e_isT_non_list, e_isT_non_tuple, e_isT_non_dict, e_isT_bool_bool, e_isT_bool_int, e_isT_bool_str, e_isT_bool_list, e_isT_bool_tuple, e_isT_bool_dict, e_isT_int_bool, e_isT_int_int, e_isT_int_str, e_isT_int_list, e_isT_int_tuple, e_isT_int_dict, e_isT_str_bool, e_isT_str_int, e_isT_str_str, e_isT_str_list, e_isT_str_tuple, e_isT_str_dict, e_isT_list_bool, e_isT_list_int, e_isT_list_str, e_isT_list_list, e_isT_list_tuple, e_isT_list_dict, e_isT_tuple_bool, e_isT_tuple_int, e_isT_tuple_str, e_isT_tuple_list, e_isT_tuple_tuple, e_isT_tuple_dict, e_isT_dict_bool, e_isT_dict_int, e_isT_dict_str, e_isT_dict_list, e_isT_dict_tuple, e_isT_dict_dict, e_lt, e_le, e_gt, e_ge ]
          exact ⟨_, cl, q⟩
    | succ n =>
      have F_write_term := G n rfl
      refine dfn Fd sc_write_term (fun ds M Q E h => ?_) fun cdv A outer s H E Ed hr => ⟨_, (dss_cons (ds_if (dt_isi .str (by decide) rfl m.isinstance rfl m.str boot_str (vr 0)) (dss_one (ds_ret (vr 0))) dss_nil) (dss_cons (sSet 1 sc_write_term.nd (de_join (l := [44, 32]) (by kernel_rfl) (de_lc rfl sc_write_term.nd (di_seq (de_sl (vr 0) (do_some de_int) do_none)) (blkOk_by (own := [("part", 2)]) (N := ["term", "parts", "part"]) (sc := defScope s_write_term) (by decide +kernel)) (fun _ _ _ _ _ => (gN 2 sc_write_term.nd)) (fun _ _ _ _ _ => dts_nil) (fun _ _ _ _ _ => (cF F_write_term hr (by omega) rfl no_pass (da_cons (vr 2) da_nil))) (by decide)))) (dss_one (ds_ret (de_joined (.cons (de_fmt (de_ix (Rm1 hr) (vr 0) de_int)) (.cons (de_str [40] (by kernel_rfl)) (.cons (de_fmt (vr 1)) (.cons (de_str [41] (by kernel_rfl)) .nil))))))))), fun ds M Q cl h => ?_⟩
      · obtain ⟨_, rfl, _⟩ := h; rfl
      · obtain ⟨t, rfl, ok, hz, q⟩ := h
        cases t with
        | leaf w =>
          rw [toD_leaf]
          rw [wr_leaf] at q
          simp only [dVar, dC, dOp, dTest, dTru, dAnd, dOr, dNot, dAndV, dOrV, dNotV, dIfE, dNil, dCons, dStar, dTup, dLst, dLstM, dFrz, dNeg, oEq, oNe, dNoO, dSoO, dSl, dNext, dSeq, dBreak, dCont, dExpr, dRet, dRetN, dIf, gNm, gNl, gCn, gTp, dAsg, dSet, dAug, dIter, dRng1, dRng2, dYes, dCallB, f1, dIsi, dJoinAt, dFmt, dJs, dJoined, dCall, dstart, rget, rset, dwipe, gSb, dApp, dPop, fMax2, fMin2, dNever, dPairs, dDispG, dDisp, dDispM, dNewK, dNewT, keyD, if_true, if_false, decide_eq_true_eq, Bool.false_eq_true, List.map_cons, List.map_nil, List.length_cons, List.length_nil, List.cons_append, List.nil_append, Nat.reduceAdd, Nat.reduceSub, List.reduceReplicate, e_vw_non, e_vw_bl, e_vw_int, e_vw_str, e_vw_scr, e_vw_lst, e_vw_tup, e_vw_dic, e_vw_dit, e_vw_obj, e_vw_ty, e_flat_non, e_isn_non, e_ty_non, e_flat_bl, e_isn_bl, e_ty_bl, e_flat_int, e_isn_int, e_ty_int, e_flat_str, e_isn_str, e_ty_str, e_flat_scr, e_isn_scr, e_ty_scr, e_flat_lst, e_isn_lst, e_ty_lst, e_flat_tup, e_isn_tup, e_ty_tup, e_flat_dic, e_isn_dic, e_ty_dic, e_flat_dit, e_isn_dit, e_flat_obj, e_isn_obj, e_flat_ty, e_isn_ty, e_add_ii, e_add_ss, e_add_ll, e_add_tt, e_iadd_ii, e_iadd_ss, e_sub_ii, e_mul_ii, e_mul_li, e_mul_si, e_fdiv_ii, e_mod_ii, e_pow_ii, e_deq_nn, e_deq_ii, e_deq_ss, e_deq_bb, e_deq_tt, e_deq_ll, e_deq_st, e_deq_ts, e_deql_n, e_deql_c, e_deql_nc, e_deql_cn, e_isN, e_ix_l, e_ix_t, e_ix_c, e_ix_s, e_ix_d, e_ix_dt, e_in_l, e_in_t, e_in_s, e_in_d, e_in_dt, e_sl_l, e_sl_t, e_sl_s, e_len_lst, e_len_tup, e_len_s, e_len_c, e_len_d, e_int_i, e_abs_i, e_str_i, e_tup_l, e_tup_t, e_oLst0_l, e_oLst0_t, e_oLst0M_l, e_oLst0M_t, e_set_l, e_set_d, e_set_t, e_key_i, e_key_s, e_isT_non_bool, e_isT_non_int, e_isT_non_str, e_isT_non_list, e_isT_non_tuple, e_isT_non_dict, e_isT_bool_bool, e_isT_bool_int, e_isT_bool_str, e_isT_bool_list, e_isT_bool_tuple, e_isT_bool_dict, e_isT_int_bool, e_isT_int_int, e_isT_int_str, e_isT_int_list, e_isT_int_tuple, e_isT_int_dict, e_isT_str_bool, e_isT_str_int, e_isT_str_str, e_isT_str_list, e_isT_str_tuple, e_isT_str_dict, e_isT_list_bool, e_isT_list_int, e_isT_list_str, e_isT_list_list, e_isT_list_tuple, e_isT_list_dict, e_isT_tuple_bool, e_isT_tuple_int, e_isT_tuple_str, e_isT_tuple_list, e_isT_tuple_tuple, e_isT_tuple_dict, e_isT_dict_bool, e_isT_dict_int, e_isT_dict_str, e_isT_dict_list, e_isT_dict_tuple, e_isT_dict_dict, e_lt, e_le, e_gt, e_ge ]
          exact ⟨_, cl, q⟩
        | node w ts =>
          obtain ⟨hw, hk, hts⟩ := ok
          rw [toD_node]
          simp only [dLc, dLcG, dVar, dC, dOp, dTest, dTru, dAnd, dOr, dNot, dAndV, dOrV, dNotV, dIfE, dNil, dCons, dStar, dTup, dLst, dLstM, dFrz, dNeg, oEq, oNe, dNoO, dSoO, dSl, dNext, dSeq, dBreak, dCont, dExpr, dRet, dRetN, dIf, gNm, gNl, gCn, gTp, dAsg, dSet, dAug, dIter, dRng1, dRng2, dYes, dCallB, f1, dIsi, dJoinAt, dFmt, dJs, dJoined, dCall, dstart, rget, rset, dwipe, gSb, dApp, dPop, fMax2, fMin2, dNever, dPairs, dDispG, dDisp, dDispM, dNewK, dNewT, keyD, if_true, if_false, decide_eq_true_eq, Bool.false_eq_true, List.map_cons, List.map_nil, List.length_cons, List.length_nil, List.cons_append, List.nil_append, Nat.reduceAdd, Nat.reduceSub, List.reduceReplicate, e_vw_non, e_vw_bl, e_vw_int, e_vw_str, e_vw_scr, e_vw_lst, e_vw_tup, e_vw_dic, e_vw_dit, e_vw_obj, e_vw_ty, e_flat_non, e_isn_non, e_ty_non, e_flat_bl, e_isn_bl, e_ty_bl, e_flat_int, e_isn_int, e_ty_int, e_flat_str, e_isn_str, e_ty_str, e_flat_scr, e_isn_scr, e_ty_scr, e_flat_lst, e_isn_lst, e_ty_lst, e_flat_tup, e_isn_tup, e_ty_tup, e_flat_dic, e_isn_dic, e_ty_dic, e_flat_dit, e_isn_dit, e_flat_obj, e_isn_obj, e_flat_ty, e_isn_ty, e_add_ii, e_add_ss, e_add_ll, e_add_tt, e_iadd_ii, e_iadd_ss, e_sub_ii, e_mul_ii, e_mul_li, e_mul_si, e_fdiv_ii, e_mod_ii, e_pow_ii, e_deq_nn, e_deq_ii, e_deq_ss, e_deq_bb, e_deq_tt, e_deq_ll, e_deq_st, e_deq_ts, e_deql_n, e_deql_c, e_deql_nc, e_deql_cn, e_isN, e_ix_l, e_ix_t, e_ix_c, e_ix_s, e_ix_d, e_ix_dt, e_in_l, e_in_t, e_in_s, e_in_d, e_in_dt, e_sl_l, e_sl_t, e_sl_s, e_len_lst, e_len_tup, e_len_s, e_len_c, e_len_d, e_int_i, e_abs_i, e_str_i, e_tup_l, e_tup_t, e_oLst0_l, e_oLst0_t, e_oLst0M_l, e_oLst0M_t, e_set_l, e_set_d, e_set_t, e_key_i, e_key_s, e_isT_non_bool, e_isT_non_int, e_isT_non_str, e_isT_non_list, e_isT_non_tuple, e_isT_non_dict, e_isT_bool_bool, e_isT_bool_int, e_isT_bool_str, e_isT_bool_list, e_isT_bool_tuple, e_isT_bool_dict, e_isT_int_bool, e_isT_int_int, e_isT_int_str, e_isT_int_list, e_isT_int_tuple, e_isT_int_dict, e_isT_str_bool, e_isT_str_int, e_isT_str_str, e_isT_str_list, e_isT_str_tuple, e_isT_str_dict, e_isT_list_bool, e_isT_list_int, e_isT_list_str, e_isT_list_list, e_isT_list_tuple, e_isT_list_dict, e_isT_tuple_bool, e_isT_tuple_int, e_isT_tuple_str, e_isT_tuple_list, e_isT_tuple_tuple, e_isT_tuple_dict, e_isT_dict_bool, e_isT_dict_int, e_isT_dict_str, e_isT_dict_list, e_isT_dict_tuple, e_isT_dict_dict, e_lt, e_le, e_gt, e_ge ]
          refine ⟨dcut_tl' (x := D.str w), ?_⟩
          rw [dcut_tl, List.tail_cons]
          have hl := wr_len (w := w) (ts := ts)
          refine ⟨fun i acc M1 => M1 = M ∧ i ≤ ts.length ∧ acc = (ts.take i).map fun t => D.str (wr t), ⟨rfl, Nat.zero_le _, by simp⟩, ?_, ?_⟩
          · rintro i d acc M1 hi ⟨rfl, _, rfl⟩
            rw [List.getElem?_map] at hi
            cases e : ts[i]? with
            | none => rw [e] at hi; cases hi
            | some t =>
              rw [e] at hi; cases hi
              have hin : i < ts.length := (List.getElem?_eq_some_iff.mp e).1
              have hm : t ∈ ts := List.mem_of_getElem? e
              have h1 := sumL_mem (List.mem_map_of_mem (f := wr) hm)
              simp only [dVar, dC, dOp, dTest, dTru, dAnd, dOr, dNot, dAndV, dOrV, dNotV, dIfE, dNil, dCons, dStar, dTup, dLst, dLstM, dFrz, dNeg, oEq, oNe, dNoO, dSoO, dSl, dNext, dSeq, dBreak, dCont, dExpr, dRet, dRetN, dIf, gNm, gNl, gCn, gTp, dAsg, dSet, dAug, dIter, dRng1, dRng2, dYes, dCallB, f1, dIsi, dJoinAt, dFmt, dJs, dJoined, dCall, dstart, rget, rset, dwipe, gSb, dApp, dPop, fMax2, fMin2, dNever, dPairs, dDispG, dDisp, dDispM, dNewK, dNewT, keyD, if_true, if_false, decide_eq_true_eq, Bool.false_eq_true, List.map_cons, List.map_nil, List.length_cons, List.length_nil, List.cons_append, List.nil_append, Nat.reduceAdd, Nat.reduceSub, List.reduceReplicate, e_vw_non, e_vw_bl, e_vw_int, e_vw_str, e_vw_scr, e_vw_lst, e_vw_tup, e_vw_dic, e_vw_dit, e_vw_obj, e_vw_ty, e_flat_non, e_isn_non, e_ty_non, e_flat_bl, e_isn_bl, e_ty_bl, e_flat_int, e_isn_int, e_ty_int, e_flat_str, e_isn_str, e_ty_str, e_flat_scr, e_isn_scr, e_ty_scr, e_flat_lst, e_isn_lst, e_ty_lst, e_flat_tup, e_isn_tup, e_ty_tup, e_flat_dic, e_isn_dic, e_ty_dic, e_flat_dit, e_isn_dit, e_flat_obj, e_isn_obj, e_flat_ty, e_isn_ty, e_add_ii, e_add_ss, e_add_ll, e_add_tt, e_iadd_ii, e_iadd_ss, e_sub_ii, e_mul_ii, e_mul_li, e_mul_si, e_fdiv_ii, e_mod_ii, e_pow_ii, e_deq_nn, e_deq_ii, e_deq_ss, e_deq_bb, e_deq_tt, e_deq_ll, e_deq_st, e_deq_ts, e_deql_n, e_deql_c, e_deql_nc, e_deql_cn, e_isN, e_ix_l, e_ix_t, e_ix_c, e_ix_s, e_ix_d, e_ix_dt, e_in_l, e_in_t, e_in_s, e_in_d, e_in_dt, e_sl_l, e_sl_t, e_sl_s, e_len_lst, e_len_tup, e_len_s, e_len_c, e_len_d, e_int_i, e_abs_i, e_str_i, e_tup_l, e_tup_t, e_oLst0_l, e_oLst0_t, e_oLst0M_l, e_oLst0M_t, e_set_l, e_set_d, e_set_t, e_key_i, e_key_s, e_isT_non_bool, e_isT_non_int, e_isT_non_str, e_isT_non_list, e_isT_non_tuple, e_isT_non_dict, e_isT_bool_bool, e_isT_bool_int, e_isT_bool_str, e_isT_bool_list, e_isT_bool_tuple, e_isT_bool_dict, e_isT_int_bool, e_isT_int_int, e_isT_int_str, e_isT_int_list, e_isT_int_tuple, e_isT_int_dict, e_isT_str_bool, e_isT_str_int, e_isT_str_str, e_isT_str_list, e_isT_str_tuple, e_isT_str_dict, e_isT_list_bool, e_isT_list_int, e_isT_list_str, e_isT_list_list, e_isT_list_tuple, e_isT_list_dict, e_isT_tuple_bool, e_isT_tuple_int, e_isT_tuple_str, e_isT_tuple_list, e_isT_tuple_tuple, e_isT_tuple_dict, e_isT_dict_bool, e_isT_dict_int, e_isT_dict_str, e_isT_dict_list, e_isT_dict_tuple, e_isT_dict_dict, e_lt, e_le, e_gt, e_ge ]
              refine ⟨t, rfl, hts t hm, by omega, by simp only [List.length_map, List.length_take, sizeLine_eq]; omega, rfl, hin, ?_⟩
              rw [List.take_add_one, e, List.map_append]; rfl
          · rintro acc M1 ⟨rfl, _, rfl⟩
            rw [List.length_map, List.take_length]
            refine ⟨_, ts.map wr, rfl, .inl (by simp only [vw, List.map_map]; rfl), by simp only [List.length_map]; simp only [List.length_cons, List.length_nil]; omega, ?_⟩
            rw [wr_node] at q hz
            refine ⟨_, atI0, ?_⟩
            simp only [dVar, dC, dOp, dTest, dTru, dAnd, dOr, dNot, dAndV, dOrV, dNotV, dIfE, dNil, dCons, dStar, dTup, dLst, dLstM, dFrz, dNeg, oEq, oNe, dNoO, dSoO, dSl, dNext, dSeq, dBreak, dCont, dExpr, dRet, dRetN, dIf, gNm, gNl, gCn, gTp, dAsg, dSet, dAug, dIter, dRng1, dRng2, dYes, dCallB, f1, dIsi, dJoinAt, dFmt, dJs, dJoined, dCall, dstart, rget, rset, dwipe, gSb, dApp, dPop, fMax2, fMin2, dNever, dPairs, dDispG, dDisp, dDispM, dNewK, dNewT, keyD, if_true, if_false, decide_eq_true_eq, Bool.false_eq_true, List.map_cons, List.map_nil, List.length_cons, List.length_nil, List.cons_append, List.nil_append, Nat.reduceAdd, Nat.reduceSub, List.reduceReplicate, e_vw_non, e_vw_bl, e_vw_int, e_vw_str, e_vw_scr, e_vw_lst, e_vw_tup, e_vw_dic, e_vw_dit, e_vw_obj, e_vw_ty, e_flat_non, e_isn_non, e_ty_non, e_flat_bl, e_isn_bl, e_ty_bl, e_flat_int, e_isn_int, e_ty_int, e_flat_str, e_isn_str, e_ty_str, e_flat_scr, e_isn_scr, e_ty_scr, e_flat_lst, e_isn_lst, e_ty_lst, e_flat_tup, e_isn_tup, e_ty_tup, e_flat_dic, e_isn_dic, e_ty_dic, e_flat_dit, e_isn_dit, e_flat_obj, e_isn_obj, e_flat_ty, e_isn_ty, e_add_ii, e_add_ss, e_add_ll, e_add_tt, e_iadd_ii, e_iadd_ss, e_sub_ii, e_mul_ii, e_mul_li, e_mul_si, e_fdiv_ii, e_mod_ii, e_pow_ii, e_deq_nn, e_deq_ii, e_deq_ss, e_deq_bb, e_deq_tt, e_deq_ll, e_deq_st, e_deq_ts, e_deql_n, e_deql_c, e_deql_nc, e_deql_cn, e_isN, e_ix_l, e_ix_t, e_ix_c, e_ix_s, e_ix_d, e_ix_dt, e_in_l, e_in_t, e_in_s, e_in_d, e_in_dt, e_sl_l, e_sl_t, e_sl_s, e_len_lst, e_len_tup, e_len_s, e_len_c, e_len_d, e_int_i, e_abs_i, e_str_i, e_tup_l, e_tup_t, e_oLst0_l, e_oLst0_t, e_oLst0M_l, e_oLst0M_t, e_set_l, e_set_d, e_set_t, e_key_i, e_key_s, e_isT_non_bool, e_isT_non_int, e_isT_non_str, e_isT_non_list, e_isT_non_tuple, e_isT_non_dict, e_isT_bool_bool, e_isT_bool_int, e_isT_bool_str, e_isT_bool_list, e_isT_bool_tuple, e_isT_bool_dict, e_isT_int_bool, e_isT_int_int, e_isT_int_str, e_isT_int_list, e_isT_int_tuple, e_isT_int_dict, e_isT_str_bool, e_isT_str_int, e_isT_str_str, e_isT_str_list, e_isT_str_tuple, e_isT_str_dict, e_isT_list_bool, e_isT_list_int, e_isT_list_str, e_isT_list_list, e_isT_list_tuple, e_isT_list_dict, e_isT_tuple_bool, e_isT_tuple_int, e_isT_tuple_str, e_isT_tuple_list, e_isT_tuple_tuple, e_isT_tuple_dict, e_isT_dict_bool, e_isT_dict_int, e_isT_dict_str, e_isT_dict_list, e_isT_dict_tuple, e_isT_dict_dict, e_lt, e_le, e_gt, e_ge ]
            simp only [List.length_append, List.length_cons, List.length_nil] at hz
            simp only [sizeLine_eq, List.length_append, List.length_cons, List.length_nil]
            exact ⟨by omega, by omega, by omega, by omega, by omega, by omega, _, cl, q⟩
  induction n with
  | zero => exact go 0 fun k e => nomatch e
  | succ n ih => exact go (n + 1) fun k e => by cases e; exact ⟨f, fd, ih, h, Fd.kp, Fd.bindsN fun _ _ _ _ _ _ us hl => match us, hl with | [_], _ => rfl⟩
end
end K14


set_option Elab.async false
set_option linter.all false
set_option maxRecDepth 100000
set_option maxHeartbeats 400000
namespace K14
open PySem PySem.Spec PyProof.Rows L2 DL
section
variable {P : Program} {w : World} {K : PySem.W.Frag} {mg : Str → Option Value} {base : Heap}
theorem bwf_ok {s v r : Cd} (h : bwf s = .ok v r) : s = v ++ r ∧ Wd v ∧ (∀ c, r.head? = some c → c ∉ chars) := by
  cases s with
  | nil => cases h
  | cons c z =>
    simp only [bwf] at h
    split at h
    · rename_i hc
      split at h
      · rename_i hl
        cases h
        have hcc : isC c = true := by
          have : c ∈ chars := List.mem_append_left _ hc
          simpa [isC] using this
        refine ⟨tw_app isC (c :: z), ⟨by simp [List.takeWhile_cons, hcc], fun d hd => ?_, fun d hd => ?_, hl⟩, fun d hd => ?_⟩
        · rw [List.takeWhile_cons, hcc] at hd
          cases hd; exact hc
        · obtain ⟨k, hk, e⟩ := List.getElem_of_mem hd
          obtain ⟨c2, h1, h2⟩ := tw_get hk
          have : ((c :: z).takeWhile isC)[k]? = some c2 := by
            conv at h1 => lhs; rw [tw_app isC (c :: z)]
            rwa [List.getElem?_append_left hk] at h1
          rw [List.getElem?_eq_getElem hk, e] at this
          cases this
          simpa [isC] using h2
        · have h2 : ((c :: z).dropWhile isC)[0]? = some d := by rw [← List.head?_eq_getElem?]; exact hd
          rw [dw_drop, List.getElem?_drop, Nat.add_zero] at h2
          have := tw_end h2
          simpa [isC] using this
      · cases h
    · cases h
def lp (f : Cd → Rs Tm) (v : Cd) : Nat → List Tm → Cd → Rs Tm
  | 0, _, a => .bad a
  | m + 1, ps, a => match f a with
    | .bad r => .bad r
    | .ok t r => match skip r with
      | 41 :: z => .ok (.node v (ps ++ [t])) z
      | 44 :: z => lp f v m (ps ++ [t]) (skip z)
      | q => .bad q
def taB (g : Cd → Cd → Rs Tm) (s : Cd) : Rs Tm := match bwf s with
  | .bad r => .bad r
  | .ok v r => match skip r with
    | 40 :: z => g v z
    | _ => .ok (.leaf v) r
def ta : Nat → Cd → Rs Tm
  | 0 => taB fun _ _ => .bad []
  | n + 1 => taB fun v z => match skip z with
    | 41 :: y => .ok (.node v []) y
    | a => lp (ta n) v (a.length + 1) [] a
def Suf (r s : Cd) : Prop := ∃ u, s = u ++ r
theorem Suf.refl (s : Cd) : Suf s s := ⟨[], rfl⟩
theorem Suf.trans {a b c : Cd} (h : Suf a b) (k : Suf b c) : Suf a c := by
  obtain ⟨u, rfl⟩ := h
  obtain ⟨v, rfl⟩ := k
  exact ⟨v ++ u, by simp⟩
theorem Suf.skip (s : Cd) : Suf (skip s) s := ⟨_, tw_app isB s⟩
theorem Suf.tail {c : Nat} {z : Cd} : Suf z (c :: z) := ⟨[c], rfl⟩
theorem Suf.len {r s : Cd} (h : Suf r s) : r.length ≤ s.length := by obtain ⟨u, rfl⟩ := h; simp
def pc (s : Cd) : Nat := s.count 40
theorem Suf.pc {r s : Cd} (h : Suf r s) : pc r ≤ pc s := by obtain ⟨u, rfl⟩ := h; simp [K14.pc]
theorem skip_cons {r : Cd} {c : Nat} {z : Cd} (h : skip r = c :: z) : c ≠ 32 := fun e => skip_head r (by rw [h, e]; rfl)
theorem lp_suf {f : Cd → Rs Tm} {v : Cd} (hf : ∀ a t r, f a = .ok t r → Suf r a) : ∀ m ps a t r, lp f v m ps a = .ok t r → Suf r a
  | 0, _, _, _, _, h => nomatch h
  | m + 1, ps, a, t, r, h => by
    simp only [lp] at h
    split at h
    · cases h
    · rename_i t1 r1 e1
      have s1 := hf _ _ _ e1
      split at h
      · rename_i z e2
        cases h
        exact ((Suf.tail (c := 41)).trans (e2 ▸ Suf.skip r1)).trans s1
      · rename_i z e2
        have := lp_suf hf m _ _ _ _ h
        exact (this.trans (Suf.skip z)).trans (((Suf.tail (c := 44)).trans (e2 ▸ Suf.skip r1)).trans s1)
      · cases h
theorem ta_suf : ∀ n s t r, ta n s = .ok t r → Suf r s ∧ r.length < s.length := by
  intro n
  induction n with
  | zero =>
    intro s t r h
    simp only [ta, taB] at h
    split at h
    · cases h
    · rename_i v r1 e1
      obtain ⟨rfl, hv, _⟩ := bwf_ok e1
      have := List.length_pos_iff.mpr hv.ne
      split at h
      · cases h
      · cases h
        exact ⟨⟨v, rfl⟩, by simp; omega⟩
  | succ n ih =>
    intro s t r h
    simp only [ta, taB] at h
    split at h
    · cases h
    · rename_i v r1 e1
      obtain ⟨rfl, hv, _⟩ := bwf_ok e1
      have hp := List.length_pos_iff.mpr hv.ne
      split at h
      · rename_i z e2
        have s2 : Suf z r1 := (Suf.tail (c := 40)).trans (e2 ▸ Suf.skip r1)
        have s3 : Suf r (skip z) := by
          split at h
          · rename_i y e3
            cases h
            exact e3 ▸ Suf.tail
          · exact lp_suf (fun a t r h => (ih a t r h).1) _ _ _ _ _ h
        have s4 := (s3.trans (Suf.skip z)).trans s2
        exact ⟨s4.trans ⟨v, rfl⟩, by have := s4.len; simp; omega⟩
      · cases h
        exact ⟨⟨v, rfl⟩, by simp; omega⟩
theorem tw_len (r : Cd) : r.length = (r.takeWhile isB).length + (skip r).length := by
  have := congrArg List.length (tw_app isB r)
  rw [List.length_append] at this
  exact this
def taS (cB : Addr) (n : Nat) : DSp := fun ds M Q E => ∃ (L pre s : Cd) (i : Int), ds = [.str L, .int i] ∧ i = (pre.length : Int) ∧ L = pre ++ s ∧ L.length ≤ 1000000 ∧ pc s ≤ n ∧
  (∀ t r, ta n s = .ok t r → Q (.tup [toD t, .int ((L.length : Int) - r.length)]) M) ∧ (∀ r, ta n s = .bad r → bad cB L r E M)
theorem ok_ta {cB : Addr} (m : Mg mg) {f : Addr} {fd : FuncData} (X_BadText : EX1 P w K mg base "BadText" cB "place" okI) (F_behind_blanks : Fn P w K mg base 1 "behind_blanks" ["text", "place"] bbSp) (F_behind_word : Fn P w K mg base 3 "behind_word" ["text", "place"] (bwS cB)) (Fd : FunT K "term_at" s_term_at f fd) (h : mg "term_at" = some (.ref f)) :
    ∀ n, Fn P w K mg base (n + 3 + 1) "term_at" ["text", "place"] (taS cB n) := by
  refine fn_rec h Fd.kp (Fd.bindsN fun _ _ _ _ _ _ us hl => match us, hl with | [_, _], _ => rfl) fun n F_term_at => ?_
  refine dfn Fd sc_term_at (fun ds M Q E h => ?_) fun cdv A outer s H E Ed hr => ⟨_, (dss_cons (sSet 2 sc_term_at.nd (cF F_behind_word hr (by omega) rfl (fun σ => passAt (takes_of rfl rfl rfl rfl) σ) (da_cons (vr 0) (da_cons (vr 1) da_nil)))) (dss_cons (sSet 3 sc_term_at.nd (de_sl (vr 0) (do_some (vr 1)) (do_some (vr 2)))) (dss_cons (sSet 4 sc_term_at.nd (cF F_behind_blanks hr (by omega) rfl (fun σ => passAt (takes_of rfl rfl rfl rfl) σ) (da_cons (vr 0) (da_cons (vr 2) da_nil)))) (dss_cons (ds_if (dt_ne (Rm64 hr) (de_sl (vr 0) (do_some (vr 4)) (do_some (de_add (vr 4) de_int))) (de_str [40] (by kernel_rfl))) (dss_one (ds_ret (de_tup (da_cons (vr 3) (da_cons (vr 2) da_nil))))) dss_nil) (dss_cons (sSet 5 sc_term_at.nd (de_lstM (da_cons (vr 3) da_nil))) (dss_cons (sSet 4 sc_term_at.nd (cF F_behind_blanks hr (by omega) rfl (fun σ => passAt (takes_of rfl rfl rfl rfl) σ) (da_cons (vr 0) (da_cons (de_add (vr 4) de_int) da_nil)))) (dss_cons (ds_if (dt_eq (Rm64 hr) (de_sl (vr 0) (do_some (vr 4)) (do_some (de_add (vr 4) de_int))) (de_str [41] (by kernel_rfl))) (dss_one (ds_ret (de_tup (da_cons (de_tup (da_cons (vr 3) da_nil)) (da_cons (de_add (vr 4) de_int) da_nil))))) dss_nil) (dss_one (ds_while (passes_of rfl) cTrue (dss_cons (ds_asg (cF F_term_at hr (by omega) rfl (fun σ => passAt (takes_of rfl rfl rfl rfl) σ) (da_cons (vr 0) (da_cons (vr 4) da_nil))) (dg_tup (n := 2) rfl (dgs_cons (gN 6 sc_term_at.nd) (dgs_cons (gN 4 sc_term_at.nd) dgs_nil)))) (dss_cons (ds_expr (de_app (vr 5) (vr 6))) (dss_cons (sSet 4 sc_term_at.nd (cF F_behind_blanks hr (by omega) rfl (fun σ => passAt (takes_of rfl rfl rfl rfl) σ) (da_cons (vr 0) (da_cons (vr 4) da_nil)))) (dss_cons (ds_if (dt_eq (Rm64 hr) (de_sl (vr 0) (do_some (vr 4)) (do_some (de_add (vr 4) de_int))) (de_str [41] (by kernel_rfl))) (dss_one (ds_ret (de_tup (da_cons (de_tupOf rfl m.tuple (vr 5)) (da_cons (de_add (vr 4) de_int) da_nil))))) dss_nil) (dss_cons (ds_if (dt_ne (Rm64 hr) (de_sl (vr 0) (do_some (vr 4)) (do_some (de_add (vr 4) de_int))) (de_str [44] (by kernel_rfl))) (dss_one (rz1 X_BadText okD_I hr (by omega) (takes_of rfl rfl rfl rfl) rfl rfl (vr 4))) dss_nil) (dss_one (sSet 4 sc_term_at.nd (cF F_behind_blanks hr (by omega) rfl (fun σ => passAt (takes_of rfl rfl rfl rfl) σ) (da_cons (vr 0) (da_cons (de_add (vr 4) de_int) da_nil))))))))))))))))))), fun ds M Q cl h => ?_⟩
  · obtain ⟨L, a, s, i, rfl, _⟩ := h; rfl
  · obtain ⟨L, pre, s, i, rfl, rfl, hL, hz, hpc, hok, hbad⟩ := h
    have hzz : L.length ≤ sizeLine := by rw [sizeLine_eq]; omega
    simp only [dRaise, dX1, dVar, dC, dOp, dTest, dTru, dAnd, dOr, dNot, dAndV, dOrV, dNotV, dIfE, dNil, dCons, dStar, dTup, dLst, dLstM, dFrz, dNeg, oEq, oNe, dNoO, dSoO, dSl, dNext, dSeq, dBreak, dCont, dExpr, dRet, dRetN, dIf, gNm, gNl, gCn, gTp, dAsg, dSet, dAug, dIter, dRng1, dRng2, dYes, dCallB, f1, dIsi, dJoinAt, dFmt, dJs, dJoined, dCall, dstart, rget, rset, dwipe, gSb, dApp, dPop, fMax2, fMin2, dNever, dPairs, dDispG, dDisp, dDispM, dNewK, dNewT, keyD, if_true, if_false, decide_eq_true_eq, Bool.false_eq_true, List.map_cons, List.map_nil, List.length_cons, List.length_nil, List.cons_append, List.nil_append, Nat.reduceAdd, Nat.reduceSub, List.reduceReplicate, e_vw_non, e_vw_bl, e_vw_int, e_vw_str, e_vw_scr, e_vw_lst, e_vw_tup, e_vw_dic, e_vw_dit, e_vw_obj, e_vw_ty, e_flat_non, e_isn_non, e_ty_non, e_flat_bl, e_isn_bl, e_ty_bl, e_flat_int, e_isn_int, e_ty_int, e_flat_str, e_isn_str, e_ty_str, e_flat_scr, e_isn_scr, e_ty_scr, e_flat_lst, e_isn_lst, e_ty_lst, e_flat_tup, e_isn_tup, e_ty_tup, e_flat_dic, e_isn_dic, e_ty_dic, e_flat_dit, e_isn_dit, e_flat_obj, e_isn_obj, e_flat_ty, e_isn_ty, e_add_ii, e_add_ss, e_add_ll, e_add_tt, e_iadd_ii, e_iadd_ss, e_sub_ii, e_mul_ii, e_mul_li, e_mul_si, e_fdiv_ii, e_mod_ii, e_pow_ii, e_deq_nn, e_deq_ii, e_deq_ss, e_deq_bb, e_deq_tt, e_deq_ll, e_deq_st, e_deq_ts, e_deql_n, e_deql_c, e_deql_nc, e_deql_cn, e_isN, e_ix_l, e_ix_t, e_ix_c, e_ix_s, e_ix_d, e_ix_dt, e_in_l, e_in_t, e_in_s, e_in_d, e_in_dt, e_sl_l, e_sl_t, e_sl_s, e_len_lst, e_len_tup, e_len_s, e_len_c, e_len_d, e_int_i, e_abs_i, e_str_i, e_tup_l, e_tup_t, e_oLst0_l, e_oLst0_t, e_oLst0M_l, e_oLst0M_t, e_set_l, e_set_d, e_set_t, e_key_i, e_key_s, e_isT_non_bool, e_isT_non_int, e_isT_non_str, e_isT_non_list, e_isT_non_tuple, e_isT_non_dict, e_isT_bool_bool, e_isT_bool_int, e_isT_bool_str, e_isT_bool_list, e_isT_bool_tuple, e_isT_bool_dict, e_isT_int_bool, e_isT_int_int, e_isT_int_str, e_isT_int_list, e_isT_int_tuple, e_isT_int_dict, e_isT_str_bool, e_isT_str_int, e_isT_str_str, e_isT_str_list, e_isT_str_tuple, e_isT_str_dict, e_isT_list_bool, e_isT_list_int, e_isT_list_str, e_isT_list_list, e_isT_list_tuple, e_isT_list_dict, e_isT_tuple_bool, e_isT_tuple_int, e_isT_tuple_str, e_isT_tuple_list, e_isT_tuple_tuple, e_isT_tuple_dict, e_isT_dict_bool, e_isT_dict_int, e_isT_dict_str, e_isT_dict_list, e_isT_dict_tuple, e_isT_dict_dict, e_lt, e_le, e_gt, e_ge ]
    refine ⟨L, pre, s, _, rfl, rfl, hL, hz, fun v r e => ?_, fun r e => ?_⟩
    · obtain ⟨rfl, hv, hnc⟩ := bwf_ok e
      have len : L.length = pre.length + (v.length + r.length) := by rw [hL]; simp
      have es := tw_app isB r
      have elen := tw_len r
      simp only [dVar, dC, dOp, dTest, dTru, dAnd, dOr, dNot, dAndV, dOrV, dNotV, dIfE, dNil, dCons, dStar, dTup, dLst, dLstM, dFrz, dNeg, oEq, oNe, dNoO, dSoO, dSl, dNext, dSeq, dBreak, dCont, dExpr, dRet, dRetN, dIf, gNm, gNl, gCn, gTp, dAsg, dSet, dAug, dIter, dRng1, dRng2, dYes, dCallB, f1, dIsi, dJoinAt, dFmt, dJs, dJoined, dCall, dstart, rget, rset, dwipe, gSb, dApp, dPop, fMax2, fMin2, dNever, dPairs, dDispG, dDisp, dDispM, dNewK, dNewT, keyD, if_true, if_false, decide_eq_true_eq, Bool.false_eq_true, List.map_cons, List.map_nil, List.length_cons, List.length_nil, List.cons_append, List.nil_append, Nat.reduceAdd, Nat.reduceSub, List.reduceReplicate, e_vw_non, e_vw_bl, e_vw_int, e_vw_str, e_vw_scr, e_vw_lst, e_vw_tup, e_vw_dic, e_vw_dit, e_vw_obj, e_vw_ty, e_flat_non, e_isn_non, e_ty_non, e_flat_bl, e_isn_bl, e_ty_bl, e_flat_int, e_isn_int, e_ty_int, e_flat_str, e_isn_str, e_ty_str, e_flat_scr, e_isn_scr, e_ty_scr, e_flat_lst, e_isn_lst, e_ty_lst, e_flat_tup, e_isn_tup, e_ty_tup, e_flat_dic, e_isn_dic, e_ty_dic, e_flat_dit, e_isn_dit, e_flat_obj, e_isn_obj, e_flat_ty, e_isn_ty, e_add_ii, e_add_ss, e_add_ll, e_add_tt, e_iadd_ii, e_iadd_ss, e_sub_ii, e_mul_ii, e_mul_li, e_mul_si, e_fdiv_ii, e_mod_ii, e_pow_ii, e_deq_nn, e_deq_ii, e_deq_ss, e_deq_bb, e_deq_tt, e_deq_ll, e_deq_st, e_deq_ts, e_deql_n, e_deql_c, e_deql_nc, e_deql_cn, e_isN, e_ix_l, e_ix_t, e_ix_c, e_ix_s, e_ix_d, e_ix_dt, e_in_l, e_in_t, e_in_s, e_in_d, e_in_dt, e_sl_l, e_sl_t, e_sl_s, e_len_lst, e_len_tup, e_len_s, e_len_c, e_len_d, e_int_i, e_abs_i, e_str_i, e_tup_l, e_tup_t, e_oLst0_l, e_oLst0_t, e_oLst0M_l, e_oLst0M_t, e_set_l, e_set_d, e_set_t, e_key_i, e_key_s, e_isT_non_bool, e_isT_non_int, e_isT_non_str, e_isT_non_list, e_isT_non_tuple, e_isT_non_dict, e_isT_bool_bool, e_isT_bool_int, e_isT_bool_str, e_isT_bool_list, e_isT_bool_tuple, e_isT_bool_dict, e_isT_int_bool, e_isT_int_int, e_isT_int_str, e_isT_int_list, e_isT_int_tuple, e_isT_int_dict, e_isT_str_bool, e_isT_str_int, e_isT_str_str, e_isT_str_list, e_isT_str_tuple, e_isT_str_dict, e_isT_list_bool, e_isT_list_int, e_isT_list_str, e_isT_list_list, e_isT_list_tuple, e_isT_list_dict, e_isT_tuple_bool, e_isT_tuple_int, e_isT_tuple_str, e_isT_tuple_list, e_isT_tuple_tuple, e_isT_tuple_dict, e_isT_dict_bool, e_isT_dict_int, e_isT_dict_str, e_isT_dict_list, e_isT_dict_tuple, e_isT_dict_dict, e_lt, e_le, e_gt, e_ge ]
      rw [dcut_mid (a := pre) (b := v) (r := r) hL rfl (by omega)]
      refine ⟨hzz, L, pre ++ v, r.takeWhile isB, skip r, _, rfl, by simp; omega, by rw [hL, List.append_assoc, ← show r = r.takeWhile isB ++ skip r from es], hz, tw_blank r, skip_head r, ?_⟩
      simp only [dRaise, dX1, dVar, dC, dOp, dTest, dTru, dAnd, dOr, dNot, dAndV, dOrV, dNotV, dIfE, dNil, dCons, dStar, dTup, dLst, dLstM, dFrz, dNeg, oEq, oNe, dNoO, dSoO, dSl, dNext, dSeq, dBreak, dCont, dExpr, dRet, dRetN, dIf, gNm, gNl, gCn, gTp, dAsg, dSet, dAug, dIter, dRng1, dRng2, dYes, dCallB, f1, dIsi, dJoinAt, dFmt, dJs, dJoined, dCall, dstart, rget, rset, dwipe, gSb, dApp, dPop, fMax2, fMin2, dNever, dPairs, dDispG, dDisp, dDispM, dNewK, dNewT, keyD, if_true, if_false, decide_eq_true_eq, Bool.false_eq_true, List.map_cons, List.map_nil, List.length_cons, List.length_nil, List.cons_append, List.nil_append, Nat.reduceAdd, Nat.reduceSub, List.reduceReplicate, e_vw_non, e_vw_bl, e_vw_int, e_vw_str, e_vw_scr, e_vw_lst, e_vw_tup, e_vw_dic, e_vw_dit, e_vw_obj, e_vw_ty, e_flat_non, e_isn_non, e_ty_non, e_flat_bl, e_isn_bl, e_ty_bl, e_flat_int, e_isn_int, e_ty_int, e_flat_str, e_isn_str, e_ty_str, e_flat_scr, e_isn_scr, e_ty_scr, e_flat_lst, e_isn_lst, e_ty_lst, e_flat_tup, e_isn_tup, e_ty_tup, e_flat_dic, e_isn_dic, e_ty_dic, e_flat_dit, e_isn_dit, e_flat_obj, e_isn_obj, e_flat_ty, e_isn_ty, e_add_ii, e_add_ss, e_add_ll, e_add_tt, e_iadd_ii, e_iadd_ss, e_sub_ii, e_mul_ii, e_mul_li, e_mul_si, e_fdiv_ii, e_mod_ii, e_pow_ii, e_deq_nn, e_deq_ii, e_deq_ss, e_deq_bb, e_deq_tt, e_deq_ll, e_deq_st, e_deq_ts, e_deql_n, e_deql_c, e_deql_nc, e_deql_cn, e_isN, e_ix_l, e_ix_t, e_ix_c, e_ix_s, e_ix_d, e_ix_dt, e_in_l, e_in_t, e_in_s, e_in_d, e_in_dt, e_sl_l, e_sl_t, e_sl_s, e_len_lst, e_len_tup, e_len_s, e_len_c, e_len_d, e_int_i, e_abs_i, e_str_i, e_tup_l, e_tup_t, e_oLst0_l, e_oLst0_t, e_oLst0M_l, e_oLst0M_t, e_set_l, e_set_d, e_set_t, e_key_i, e_key_s, e_isT_non_bool, e_isT_non_int, e_isT_non_str, e_isT_non_list, e_isT_non_tuple, e_isT_non_dict, e_isT_bool_bool, e_isT_bool_int, e_isT_bool_str, e_isT_bool_list, e_isT_bool_tuple, e_isT_bool_dict, e_isT_int_bool, e_isT_int_int, e_isT_int_str, e_isT_int_list, e_isT_int_tuple, e_isT_int_dict, e_isT_str_bool, e_isT_str_int, e_isT_str_str, e_isT_str_list, e_isT_str_tuple, e_isT_str_dict, e_isT_list_bool, e_isT_list_int, e_isT_list_str, e_isT_list_list, e_isT_list_tuple, e_isT_list_dict, e_isT_tuple_bool, e_isT_tuple_int, e_isT_tuple_str, e_isT_tuple_list, e_isT_tuple_tuple, e_isT_tuple_dict, e_isT_dict_bool, e_isT_dict_int, e_isT_dict_str, e_isT_dict_list, e_isT_dict_tuple, e_isT_dict_dict, e_lt, e_le, e_gt, e_ge ]
      rw [dcut_one (a := pre ++ (v ++ r.takeWhile isB)) (r := skip r) (by rw [hL]; simp only [List.append_assoc]; rw [← show r = r.takeWhile isB ++ skip r from es]) (by simp <;> omega) (by simp <;> omega)]
      refine ⟨hzz, .inl ⟨trivial, trivial⟩, ?_⟩
      cases hsk : skip r with
      | nil =>
        rw [if_pos (by simp)]
        refine ⟨by rw [sizeLine_eq]; decide, M, cl, ?_⟩
        have := hok (.leaf v) r (by cases n <;> simp only [ta, taB, e, hsk])
        rwa [toD_leaf] at this
      | cons c z =>
        by_cases hc : c = 40
        · subst hc
          rw [if_neg (by simp)]
          have er : r = r.takeWhile isB ++ 40 :: z := by rw [← hsk]; exact tw_app isB r
          have hL2 : L = pre ++ (v ++ (r.takeWhile isB ++ 40 :: z)) := by rw [← er]; exact hL
          have ez : z = z.takeWhile isB ++ skip z := tw_app isB z
          have elz := tw_len z
          have elr : (skip r).length = z.length + 1 := by rw [hsk]; rfl
          have spc : pc z + 1 ≤ n := by
            have h1 : pc (skip r) ≤ pc (v ++ r) := ((Suf.skip r).trans ⟨v, rfl⟩).pc
            rw [hsk] at h1
            have h2 : pc (40 :: z) = pc z + 1 := by simp [pc]
            omega
          obtain ⟨n, rfl⟩ : ∃ n', n = n' + 1 := ⟨n - 1, by omega⟩
          refine ⟨by rw [sizeLine_eq]; decide, fun p hp => ⟨L, pre ++ (v ++ (r.takeWhile isB ++ [40])), z.takeWhile isB, skip z, _, rfl, by simp <;> omega, by rw [hL2]; simp only [List.append_assoc, List.cons_append, List.nil_append]; rw [← ez], hz, tw_blank z, skip_head z, ?_⟩⟩
          simp only [dVar, dC, dOp, dTest, dTru, dAnd, dOr, dNot, dAndV, dOrV, dNotV, dIfE, dNil, dCons, dStar, dTup, dLst, dLstM, dFrz, dNeg, oEq, oNe, dNoO, dSoO, dSl, dNext, dSeq, dBreak, dCont, dExpr, dRet, dRetN, dIf, gNm, gNl, gCn, gTp, dAsg, dSet, dAug, dIter, dRng1, dRng2, dYes, dCallB, f1, dIsi, dJoinAt, dFmt, dJs, dJoined, dCall, dstart, rget, rset, dwipe, gSb, dApp, dPop, fMax2, fMin2, dNever, dPairs, dDispG, dDisp, dDispM, dNewK, dNewT, keyD, if_true, if_false, decide_eq_true_eq, Bool.false_eq_true, List.map_cons, List.map_nil, List.length_cons, List.length_nil, List.cons_append, List.nil_append, Nat.reduceAdd, Nat.reduceSub, List.reduceReplicate, e_vw_non, e_vw_bl, e_vw_int, e_vw_str, e_vw_scr, e_vw_lst, e_vw_tup, e_vw_dic, e_vw_dit, e_vw_obj, e_vw_ty, e_flat_non, e_isn_non, e_ty_non, e_flat_bl, e_isn_bl, e_ty_bl, e_flat_int, e_isn_int, e_ty_int, e_flat_str, e_isn_str, e_ty_str, e_flat_scr, e_isn_scr, e_ty_scr, e_flat_lst, e_isn_lst, e_ty_lst, e_flat_tup, e_isn_tup, e_ty_tup, e_flat_dic, e_isn_dic, e_ty_dic, e_flat_dit, e_isn_dit, e_flat_obj, e_isn_obj, e_flat_ty, e_isn_ty, e_add_ii, e_add_ss, e_add_ll, e_add_tt, e_iadd_ii, e_iadd_ss, e_sub_ii, e_mul_ii, e_mul_li, e_mul_si, e_fdiv_ii, e_mod_ii, e_pow_ii, e_deq_nn, e_deq_ii, e_deq_ss, e_deq_bb, e_deq_tt, e_deq_ll, e_deq_st, e_deq_ts, e_deql_n, e_deql_c, e_deql_nc, e_deql_cn, e_isN, e_ix_l, e_ix_t, e_ix_c, e_ix_s, e_ix_d, e_ix_dt, e_in_l, e_in_t, e_in_s, e_in_d, e_in_dt, e_sl_l, e_sl_t, e_sl_s, e_len_lst, e_len_tup, e_len_s, e_len_c, e_len_d, e_int_i, e_abs_i, e_str_i, e_tup_l, e_tup_t, e_oLst0_l, e_oLst0_t, e_oLst0M_l, e_oLst0M_t, e_set_l, e_set_d, e_set_t, e_key_i, e_key_s, e_isT_non_bool, e_isT_non_int, e_isT_non_str, e_isT_non_list, e_isT_non_tuple, e_isT_non_dict, e_isT_bool_bool, e_isT_bool_int, e_isT_bool_str, e_isT_bool_list, e_isT_bool_tuple, e_isT_bool_dict, e_isT_int_bool, e_isT_int_int, e_isT_int_str, e_isT_int_list, e_isT_int_tuple, e_isT_int_dict, e_isT_str_bool, e_isT_str_int, e_isT_str_str, e_isT_str_list, e_isT_str_tuple, e_isT_str_dict, e_isT_list_bool, e_isT_list_int, e_isT_list_str, e_isT_list_list, e_isT_list_tuple, e_isT_list_dict, e_isT_tuple_bool, e_isT_tuple_int, e_isT_tuple_str, e_isT_tuple_list, e_isT_tuple_tuple, e_isT_tuple_dict, e_isT_dict_bool, e_isT_dict_int, e_isT_dict_str, e_isT_dict_list, e_isT_dict_tuple, e_isT_dict_dict, e_lt, e_le, e_gt, e_ge ]
          rw [dcut_one (a := pre ++ (v ++ (r.takeWhile isB ++ 40 :: z.takeWhile isB))) (r := skip z) (by rw [hL2]; simp only [List.append_assoc, List.cons_append, List.nil_append]; rw [← ez]) (by simp <;> omega) (by simp <;> omega)]
          refine ⟨hzz, .inl ⟨trivial, trivial⟩, ?_⟩
          by_cases h41 : ∃ y, skip z = 41 :: y
          · obtain ⟨y, hy⟩ := h41
            have ely : (skip z).length = y.length + 1 := by rw [hy]; rfl
            rw [if_pos (by rw [hy]; rfl)]
            refine ⟨by rw [sizeLine_eq]; decide, by rw [sizeLine_eq]; decide, M, cl.new hp, ?_⟩
            have := hok (.node v []) y (by simp only [ta, taB, e, hsk, hy])
            rw [toD_node] at this
            rwa [show (L.length : Int) - y.length = ((pre ++ (v ++ (r.takeWhile isB ++ [40]))).length : Int) + (z.takeWhile isB).length + 1 by simp only [List.length_append, List.length_cons, List.length_nil]; omega] at this
          · have n41 : ¬ ((skip z).take 1 == [41]) = true := fun hz2 => by
              cases hs2 : skip z with
              | nil => rw [hs2] at hz2; simp at hz2
              | cons c y => rw [hs2] at hz2; simp at hz2; subst hz2; exact h41 ⟨y, hs2⟩
            rw [if_neg n41]
            have eres : ta (n + 1) (v ++ r) = lp (ta n) v ((skip z).length + 1) [] (skip z) := by
              simp only [ta, taB, e, hsk]
              try (split <;> first | (exact absurd ⟨_, by assumption⟩ h41) | rfl)
            refine ⟨fun mm ρ M' => ∃ (fu : Nat) (ps : List Tm) (a preA : Cd) (o : Option D), mm = a.length ∧ a.length < fu ∧ M' = mset M p (.lst (.str v :: ps.map toD)) ∧ ta (n + 1) (v ++ r) = lp (ta n) v fu ps a ∧ L = preA ++ a ∧ pc a ≤ n ∧ ps.length + a.length ≤ 1000000 ∧
              ρ = [some (.str L), some (.int pre.length), some (.int ((L.length : Int) - r.length)), some (.str v), some (.int preA.length), some (.ref p), o],
              ⟨_, (skip z).length + 1, [], skip z, pre ++ (v ++ (r.takeWhile isB ++ 40 :: z.takeWhile isB)), none, rfl, Nat.lt_succ_self _, rfl, eres, by rw [hL2]; simp only [List.append_assoc, List.cons_append, List.nil_append]; rw [← ez], by have := (Suf.skip z).pc; omega, by simp; omega, by simp <;> omega⟩, ?_⟩
            rintro mm ρ M' ⟨fu, ps, a, preA, o, rfl, hfu, rfl, hres, hLA, hpa, hps, rfl⟩
            obtain ⟨fu, rfl⟩ : ∃ f', fu = f' + 1 := ⟨fu - 1, by omega⟩
            have lenA : L.length = preA.length + a.length := by rw [hLA]; simp
            simp only [dRaise, dX1, dVar, dC, dOp, dTest, dTru, dAnd, dOr, dNot, dAndV, dOrV, dNotV, dIfE, dNil, dCons, dStar, dTup, dLst, dLstM, dFrz, dNeg, oEq, oNe, dNoO, dSoO, dSl, dNext, dSeq, dBreak, dCont, dExpr, dRet, dRetN, dIf, gNm, gNl, gCn, gTp, dAsg, dSet, dAug, dIter, dRng1, dRng2, dYes, dCallB, f1, dIsi, dJoinAt, dFmt, dJs, dJoined, dCall, dstart, rget, rset, dwipe, gSb, dApp, dPop, fMax2, fMin2, dNever, dPairs, dDispG, dDisp, dDispM, dNewK, dNewT, keyD, if_true, if_false, decide_eq_true_eq, Bool.false_eq_true, List.map_cons, List.map_nil, List.length_cons, List.length_nil, List.cons_append, List.nil_append, Nat.reduceAdd, Nat.reduceSub, List.reduceReplicate, e_vw_non, e_vw_bl, e_vw_int, e_vw_str, e_vw_scr, e_vw_lst, e_vw_tup, e_vw_dic, e_vw_dit, e_vw_obj, e_vw_ty, e_flat_non, e_isn_non, e_ty_non, e_flat_bl, e_isn_bl, e_ty_bl, e_flat_int, e_isn_int, e_ty_int, e_flat_str, e_isn_str, e_ty_str, e_flat_scr, e_isn_scr, e_ty_scr, e_flat_lst, e_isn_lst, e_ty_lst, e_flat_tup, e_isn_tup, e_ty_tup, e_flat_dic, e_isn_dic, e_ty_dic, e_flat_dit, e_isn_dit, e_flat_obj, e_isn_obj, e_flat_ty, e_isn_ty, e_add_ii, e_add_ss, e_add_ll, e_add_tt, e_iadd_ii, e_iadd_ss, e_sub_ii, e_mul_ii, e_mul_li, e_mul_si, e_fdiv_ii, e_mod_ii, e_pow_ii, e_deq_nn, e_deq_ii, e_deq_ss, e_deq_bb, e_deq_tt, e_deq_ll, e_deq_st, e_deq_ts, e_deql_n, e_deql_c, e_deql_nc, e_deql_cn, e_isN, e_ix_l, e_ix_t, e_ix_c, e_ix_s, e_ix_d, e_ix_dt, e_in_l, e_in_t, e_in_s, e_in_d, e_in_dt, e_sl_l, e_sl_t, e_sl_s, e_len_lst, e_len_tup, e_len_s, e_len_c, e_len_d, e_int_i, e_abs_i, e_str_i, e_tup_l, e_tup_t, e_oLst0_l, e_oLst0_t, e_oLst0M_l, e_oLst0M_t, e_set_l, e_set_d, e_set_t, e_key_i, e_key_s, e_isT_non_bool, e_isT_non_int, e_isT_non_str, e_isT_non_list, e_isT_non_tuple, e_isT_non_dict, e_isT_bool_bool, e_isT_bool_int, e_isT_bool_str, e_isT_bool_list, e_isT_bool_tuple, e_isT_bool_dict, e_isT_int_bool, e_isT_int_int, e_isT_int_str, e_isT_int_list, e_isT_int_tuple, e_isT_int_dict, e_isT_str_bool, e_isT_str_int, e_isT_str_str, e_isT_str_list, e_isT_str_tuple, e_isT_str_dict, e_isT_list_bool, e_isT_list_int, e_isT_list_str, e_isT_list_list, e_isT_list_tuple, e_isT_list_dict, e_isT_tuple_bool, e_isT_tuple_int, e_isT_tuple_str, e_isT_tuple_list, e_isT_tuple_tuple, e_isT_tuple_dict, e_isT_dict_bool, e_isT_dict_int, e_isT_dict_str, e_isT_dict_list, e_isT_dict_tuple, e_isT_dict_dict, e_lt, e_le, e_gt, e_ge ]
            refine ⟨L, preA, a, _, rfl, rfl, hLA, hz, hpa, fun t r1 e1 => ?_, fun r1 e1 => ⟨M, cl.new hp, hbad r1 (by rw [hres]; simp only [lp, e1])⟩⟩
            obtain ⟨⟨u, rfl⟩, hlt⟩ := ta_suf _ _ _ _ e1
            have e1len := tw_len r1
            have er1 : r1 = r1.takeWhile isB ++ skip r1 := tw_app isB r1
            simp only [List.length_append] at lenA hlt hfu hps
            simp only [dRaise, dX1, dVar, dC, dOp, dTest, dTru, dAnd, dOr, dNot, dAndV, dOrV, dNotV, dIfE, dNil, dCons, dStar, dTup, dLst, dLstM, dFrz, dNeg, oEq, oNe, dNoO, dSoO, dSl, dNext, dSeq, dBreak, dCont, dExpr, dRet, dRetN, dIf, gNm, gNl, gCn, gTp, dAsg, dSet, dAug, dIter, dRng1, dRng2, dYes, dCallB, f1, dIsi, dJoinAt, dFmt, dJs, dJoined, dCall, dstart, rget, rset, dwipe, gSb, dApp, dPop, fMax2, fMin2, dNever, dPairs, dDispG, dDisp, dDispM, dNewK, dNewT, keyD, if_true, if_false, decide_eq_true_eq, Bool.false_eq_true, List.map_cons, List.map_nil, List.length_cons, List.length_nil, List.cons_append, List.nil_append, Nat.reduceAdd, Nat.reduceSub, List.reduceReplicate, e_vw_non, e_vw_bl, e_vw_int, e_vw_str, e_vw_scr, e_vw_lst, e_vw_tup, e_vw_dic, e_vw_dit, e_vw_obj, e_vw_ty, e_flat_non, e_isn_non, e_ty_non, e_flat_bl, e_isn_bl, e_ty_bl, e_flat_int, e_isn_int, e_ty_int, e_flat_str, e_isn_str, e_ty_str, e_flat_scr, e_isn_scr, e_ty_scr, e_flat_lst, e_isn_lst, e_ty_lst, e_flat_tup, e_isn_tup, e_ty_tup, e_flat_dic, e_isn_dic, e_ty_dic, e_flat_dit, e_isn_dit, e_flat_obj, e_isn_obj, e_flat_ty, e_isn_ty, e_add_ii, e_add_ss, e_add_ll, e_add_tt, e_iadd_ii, e_iadd_ss, e_sub_ii, e_mul_ii, e_mul_li, e_mul_si, e_fdiv_ii, e_mod_ii, e_pow_ii, e_deq_nn, e_deq_ii, e_deq_ss, e_deq_bb, e_deq_tt, e_deq_ll, e_deq_st, e_deq_ts, e_deql_n, e_deql_c, e_deql_nc, e_deql_cn, e_isN, e_ix_l, e_ix_t, e_ix_c, e_ix_s, e_ix_d, e_ix_dt, e_in_l, e_in_t, e_in_s, e_in_d, e_in_dt, e_sl_l, e_sl_t, e_sl_s, e_len_lst, e_len_tup, e_len_s, e_len_c, e_len_d, e_int_i, e_abs_i, e_str_i, e_tup_l, e_tup_t, e_oLst0_l, e_oLst0_t, e_oLst0M_l, e_oLst0M_t, e_set_l, e_set_d, e_set_t, e_key_i, e_key_s, e_isT_non_bool, e_isT_non_int, e_isT_non_str, e_isT_non_list, e_isT_non_tuple, e_isT_non_dict, e_isT_bool_bool, e_isT_bool_int, e_isT_bool_str, e_isT_bool_list, e_isT_bool_tuple, e_isT_bool_dict, e_isT_int_bool, e_isT_int_int, e_isT_int_str, e_isT_int_list, e_isT_int_tuple, e_isT_int_dict, e_isT_str_bool, e_isT_str_int, e_isT_str_str, e_isT_str_list, e_isT_str_tuple, e_isT_str_dict, e_isT_list_bool, e_isT_list_int, e_isT_list_str, e_isT_list_list, e_isT_list_tuple, e_isT_list_dict, e_isT_tuple_bool, e_isT_tuple_int, e_isT_tuple_str, e_isT_tuple_list, e_isT_tuple_tuple, e_isT_tuple_dict, e_isT_dict_bool, e_isT_dict_int, e_isT_dict_str, e_isT_dict_list, e_isT_dict_tuple, e_isT_dict_dict, e_lt, e_le, e_gt, e_ge ]
            refine ⟨trivial, p, _, rfl, mset_same, _, mset_same, by simp only [List.length_cons, List.length_map, sizeLine_eq]; omega, ?_⟩
            rw [mset_mset]
            refine ⟨L, preA ++ u, r1.takeWhile isB, skip r1, _, rfl, by simp <;> omega, by rw [hLA]; simp only [List.append_assoc]; rw [← er1], hz, tw_blank r1, skip_head r1, ?_⟩
            simp only [dRaise, dX1, dVar, dC, dOp, dTest, dTru, dAnd, dOr, dNot, dAndV, dOrV, dNotV, dIfE, dNil, dCons, dStar, dTup, dLst, dLstM, dFrz, dNeg, oEq, oNe, dNoO, dSoO, dSl, dNext, dSeq, dBreak, dCont, dExpr, dRet, dRetN, dIf, gNm, gNl, gCn, gTp, dAsg, dSet, dAug, dIter, dRng1, dRng2, dYes, dCallB, f1, dIsi, dJoinAt, dFmt, dJs, dJoined, dCall, dstart, rget, rset, dwipe, gSb, dApp, dPop, fMax2, fMin2, dNever, dPairs, dDispG, dDisp, dDispM, dNewK, dNewT, keyD, if_true, if_false, decide_eq_true_eq, Bool.false_eq_true, List.map_cons, List.map_nil, List.length_cons, List.length_nil, List.cons_append, List.nil_append, Nat.reduceAdd, Nat.reduceSub, List.reduceReplicate, e_vw_non, e_vw_bl, e_vw_int, e_vw_str, e_vw_scr, e_vw_lst, e_vw_tup, e_vw_dic, e_vw_dit, e_vw_obj, e_vw_ty, e_flat_non, e_isn_non, e_ty_non, e_flat_bl, e_isn_bl, e_ty_bl, e_flat_int, e_isn_int, e_ty_int, e_flat_str, e_isn_str, e_ty_str, e_flat_scr, e_isn_scr, e_ty_scr, e_flat_lst, e_isn_lst, e_ty_lst, e_flat_tup, e_isn_tup, e_ty_tup, e_flat_dic, e_isn_dic, e_ty_dic, e_flat_dit, e_isn_dit, e_flat_obj, e_isn_obj, e_flat_ty, e_isn_ty, e_add_ii, e_add_ss, e_add_ll, e_add_tt, e_iadd_ii, e_iadd_ss, e_sub_ii, e_mul_ii, e_mul_li, e_mul_si, e_fdiv_ii, e_mod_ii, e_pow_ii, e_deq_nn, e_deq_ii, e_deq_ss, e_deq_bb, e_deq_tt, e_deq_ll, e_deq_st, e_deq_ts, e_deql_n, e_deql_c, e_deql_nc, e_deql_cn, e_isN, e_ix_l, e_ix_t, e_ix_c, e_ix_s, e_ix_d, e_ix_dt, e_in_l, e_in_t, e_in_s, e_in_d, e_in_dt, e_sl_l, e_sl_t, e_sl_s, e_len_lst, e_len_tup, e_len_s, e_len_c, e_len_d, e_int_i, e_abs_i, e_str_i, e_tup_l, e_tup_t, e_oLst0_l, e_oLst0_t, e_oLst0M_l, e_oLst0M_t, e_set_l, e_set_d, e_set_t, e_key_i, e_key_s, e_isT_non_bool, e_isT_non_int, e_isT_non_str, e_isT_non_list, e_isT_non_tuple, e_isT_non_dict, e_isT_bool_bool, e_isT_bool_int, e_isT_bool_str, e_isT_bool_list, e_isT_bool_tuple, e_isT_bool_dict, e_isT_int_bool, e_isT_int_int, e_isT_int_str, e_isT_int_list, e_isT_int_tuple, e_isT_int_dict, e_isT_str_bool, e_isT_str_int, e_isT_str_str, e_isT_str_list, e_isT_str_tuple, e_isT_str_dict, e_isT_list_bool, e_isT_list_int, e_isT_list_str, e_isT_list_list, e_isT_list_tuple, e_isT_list_dict, e_isT_tuple_bool, e_isT_tuple_int, e_isT_tuple_str, e_isT_tuple_list, e_isT_tuple_tuple, e_isT_tuple_dict, e_isT_dict_bool, e_isT_dict_int, e_isT_dict_str, e_isT_dict_list, e_isT_dict_tuple, e_isT_dict_dict, e_lt, e_le, e_gt, e_ge , vw_l mset_same]
            rw [dcut_one (a := preA ++ (u ++ r1.takeWhile isB)) (r := skip r1) (by rw [hLA]; simp only [List.append_assoc]; rw [← er1]) (by simp <;> omega) (by simp <;> omega)]
            refine ⟨hzz, .inl ⟨trivial, trivial⟩, ?_⟩
            cases hs1 : skip r1 with
            | nil =>
              rw [if_neg (by simp)]
              refine ⟨hzz, .inl ⟨trivial, trivial⟩, ?_⟩
              rw [if_pos (by simp)]
              have hb := hbad [] (by rw [hres]; simp only [lp, e1, hs1])
              rw [hs1] at e1len
              refine ⟨⟨_, rfl, by simp at e1len ⊢; omega⟩, M, cl.new hp, ?_⟩
              unfold bad at hb
              rwa [show (L.length : Int) - ([] : Cd).length = ((preA ++ u).length : Int) + (r1.takeWhile isB).length by simp at e1len ⊢; omega] at hb
            | cons c y =>
              rw [hs1] at e1len er1
              simp only [List.length_cons] at e1len
              by_cases h1 : c = 41
              · subst h1
                rw [if_pos (by simp)]
                refine ⟨by rw [sizeLine_eq]; decide, M, cl.new hp, ?_⟩
                have := hok (.node v (ps ++ [t])) y (by rw [hres]; simp only [lp, e1, hs1])
                rw [toD_node, List.map_append] at this
                rwa [show (L.length : Int) - y.length = ((preA ++ u).length : Int) + (r1.takeWhile isB).length + 1 by simp only [List.length_append]; omega] at this
              · rw [if_neg (by simp [h1])]
                refine ⟨hzz, .inl ⟨trivial, trivial⟩, ?_⟩
                by_cases h2 : c = 44
                · subst h2
                  rw [if_neg (by simp)]
                  have ey : y = y.takeWhile isB ++ skip y := tw_app isB y
                  have eyl := tw_len y
                  refine ⟨L, preA ++ (u ++ (r1.takeWhile isB ++ [44])), y.takeWhile isB, skip y, _, rfl, by simp <;> omega, by rw [hLA]; simp only [List.append_assoc, List.cons_append, List.nil_append]; rw [← ey, ← er1], hz, tw_blank y, skip_head y, ?_⟩
                  refine ⟨(skip y).length, by simp only [List.length_append]; omega, fu, ps ++ [t], skip y, preA ++ (u ++ (r1.takeWhile isB ++ 44 :: y.takeWhile isB)), some (toD t), rfl, by omega, by rw [List.map_append]; rfl, by rw [hres]; simp only [lp, e1, hs1], by rw [hLA]; simp only [List.append_assoc, List.cons_append, List.nil_append]; rw [← ey, ← er1], ?_, by simp only [List.length_append, List.length_cons, List.length_nil]; omega, by simp <;> omega⟩
                  have hsu : Suf (skip y) (u ++ r1) := (((Suf.skip y).trans (Suf.tail (c := 44))).trans (hs1 ▸ Suf.skip r1)).trans ⟨u, rfl⟩
                  exact Nat.le_trans hsu.pc hpa
                · rw [if_pos (by simp [h2])]
                  have hb := hbad (c :: y) (by rw [hres]; simp [lp, e1, hs1, h1, h2])
                  refine ⟨⟨_, rfl, by simp only [List.length_append]; omega⟩, M, cl.new hp, ?_⟩
                  unfold bad at hb
                  rwa [show (L.length : Int) - (c :: y).length = ((preA ++ u).length : Int) + (r1.takeWhile isB).length by simp only [List.length_append, List.length_cons]; omega] at hb
        · rw [if_pos (by simp [hc])]
          refine ⟨by rw [sizeLine_eq]; decide, M, cl, ?_⟩
          have := hok (.leaf v) r (by cases n <;> simp [ta, taB, e, hsk, hc])
          rwa [toD_leaf] at this
    · have hb := hbad r (by cases n <;> simp only [ta, taB, e])
      exact ⟨M, cl, hb⟩
end
end K14


set_option Elab.async false
set_option linter.all false
set_option maxRecDepth 100000
set_option maxHeartbeats 400000
namespace K14
open PySem PySem.Spec PyProof.Rows L2 DL
/-! ### the law's own automaton -/
inductive S5 where
  | term | opn | word | behind | done
  deriving DecidableEq
def S5.fin : S5 → Bool
  | .word | .behind | .done => true
  | _ => false
def S5.beg : S5 → Bool
  | .term | .opn => true
  | _ => false
def step (s : S5) (d k c : Nat) : Option (S5 × Nat × Nat) :=
  if s.beg = true ∧ c ∈ letters then some (.word, d, 1)
  else if s = .word ∧ c ∈ chars ∧ k < 12 then some (.word, d, k + 1)
  else if c = 32 then some (if s = .word then .behind else s, d, k)
  else if (s = .word ∨ s = .behind) ∧ c = 40 then some (.opn, d + 1, k)
  else if c = 41 ∧ 0 < d ∧ s ≠ .term then some (.done, d - 1, k)
  else if c = 44 ∧ 0 < d ∧ s.fin = true then some (.term, d, k)
  else none
def due : S5 → Nat → Nat → Cd → Option Cd
  | s, d, _, [] => if d = 0 ∧ s.fin = true then none else some []
  | s, d, k, c :: z => match step s d k c with
    | none => some (c :: z)
    | some (s', d', k') => due s' d' k' z
theorem nlet {c : Nat} (h : c = 32 ∨ c = 40 ∨ c = 41 ∨ c = 44) : c ∉ letters ∧ c ∉ chars := by
  rcases h with rfl | rfl | rfl | rfl <;> exact ⟨by decide, by decide⟩
theorem due_word : ∀ (s : Cd) (d k : Nat), k ≤ 12 → due .word d k s = if (s.takeWhile isC).length + k ≤ 12 then due .word d (k + (s.takeWhile isC).length) (s.dropWhile isC) else some (s.drop (12 - k))
  | [], d, k, h => by simp [h]
  | c :: z, d, k, h => by
    by_cases hc : c ∈ chars
    · have hi : isC c = true := by simp [isC, hc]
      have n32 : c ≠ 32 := fun e => (nlet (.inl e)).2 hc
      have n40 : c ≠ 40 := fun e => (nlet (.inr (.inl e))).2 hc
      have n41 : c ≠ 41 := fun e => (nlet (.inr (.inr (.inl e)))).2 hc
      have n44 : c ≠ 44 := fun e => (nlet (.inr (.inr (.inr e)))).2 hc
      rw [List.takeWhile_cons, List.dropWhile_cons, if_pos hi, if_pos hi, List.length_cons]
      by_cases hk : k < 12
      · have e1 : step .word d k c = some (.word, d, k + 1) := by simp [step, S5.beg, hc, hk]
        simp only [due, e1]
        rw [due_word z d (k + 1) (by omega)]
        by_cases hl : (z.takeWhile isC).length + (k + 1) ≤ 12
        · rw [if_pos hl, if_pos (by omega)]; congr 1; omega
        · rw [if_neg hl, if_neg (by omega), show 12 - k = (12 - (k + 1)) + 1 by omega, List.drop_succ_cons]
      · have hk12 : k = 12 := by omega
        subst hk12
        have e1 : step .word d 12 c = none := by simp [step, S5.beg, hc, n32, n40, n41, n44]
        simp only [due, e1]
        rw [if_neg (by omega)]; rfl
    · have hi : isC c = false := by simp [isC, hc]
      rw [List.takeWhile_cons, List.dropWhile_cons, hi]
      simp [h]
theorem due_skip {s : S5} (hs : s ≠ .word) : ∀ (l : Cd) (d k : Nat), due s d k l = due s d k (skip l)
  | [], _, _ => rfl
  | c :: z, d, k => by
    by_cases hc : c = 32
    · subst hc
      have e1 : step s d k 32 = some (s, d, k) := by
        have h1 : ¬ (s.beg = true ∧ 32 ∈ letters) := fun h => absurd h.2 (by decide)
        have h2 : ¬ (s = .word ∧ 32 ∈ chars ∧ k < 12) := fun h => hs h.1
        simp [step, h1, h2, hs]
      have e2 : skip (32 :: z) = skip z := by simp [skip, List.dropWhile_cons, isB]
      rw [e2, ← due_skip hs z d k]
      simp only [due, e1]
    · have e2 : skip (c :: z) = c :: z := by simp [skip, List.dropWhile_cons, isB, hc]
      rw [e2]
/-- the first word -/
theorem due_bw {s : Cd} {st : S5} {d k : Nat} (hb : st.beg = true) (h32 : s.head? ≠ some 32) (h41 : st = .opn → s.head? ≠ some 41) : (∀ v r, bwf s = .ok v r → due st d k s = due .word d v.length r) ∧ (∀ r, bwf s = .bad r → due st d k s = some r) := by
  cases s with
  | nil => exact ⟨fun v r h => (nomatch h), fun r h => by cases h; cases st <;> first | (cases hb; done) | simp [due, S5.fin]⟩
  | cons c z =>
    by_cases hc : c ∈ letters
    · have hcc : c ∈ chars := List.mem_append_left _ hc
      have hi : isC c = true := by simp [isC, hcc]
      have e1 : step st d k c = some (.word, d, 1) := by simp [step, hb, hc]
      have e2 : due st d k (c :: z) = due .word d 1 z := by simp only [due, e1]
      rw [e2, due_word z d 1 (by omega)]
      have e3 : bwf (c :: z) = if ((c :: z).takeWhile isC).length ≤ 12 then .ok ((c :: z).takeWhile isC) ((c :: z).dropWhile isC) else .bad ((c :: z).drop 12) := by simp only [bwf, if_pos hc]
      rw [e3, List.takeWhile_cons, List.dropWhile_cons, if_pos hi, if_pos hi, List.length_cons]
      by_cases hl : (z.takeWhile isC).length + 1 ≤ 12
      · rw [if_pos hl, if_pos hl]
        refine ⟨fun v r h => ?_, fun r h => (nomatch h)⟩
        cases h
        rw [List.length_cons, Nat.add_comm]
      · rw [if_neg hl, if_neg hl]
        refine ⟨fun v r h => (nomatch h), fun r h => ?_⟩
        cases h
        rfl
    · have e3 : bwf (c :: z) = .bad (c :: z) := by simp only [bwf, if_neg hc]
      rw [e3]
      have n32 : c ≠ 32 := fun e => h32 (by rw [e]; rfl)
      refine ⟨fun v r h => (nomatch h), fun r h => ?_⟩
      cases h
      have e1 : step st d k c = none := by
        cases st with
        | term => simp [step, S5.beg, S5.fin, hc, n32]
        | opn =>
          have n41 : c ≠ 41 := fun e => h41 rfl (by rw [e]; rfl)
          simp [step, S5.beg, S5.fin, hc, n32, n41]
        | _ => cases hb
      simp only [due, e1]
/-- behind a term -/
def Post (s : S5) (r : Cd) : Prop := s = .done ∨ (s = .word ∧ (∀ c, r.head? = some c → c ∉ chars) ∧ ∀ z, skip r ≠ 40 :: z)
theorem post {s : S5} {r : Cd} (h : Post s r) (d k : Nat) : ∃ s2 : S5, s2.fin = true ∧ due s d k r = due s2 d k (skip r) ∧ ∀ c z, skip r = c :: z → step s2 d k c = if c = 41 ∧ 0 < d then some (.done, d - 1, k) else if c = 44 ∧ 0 < d then some (.term, d, k) else none := by
  have key : ∀ {s2 : S5} {c : Nat}, s2.fin = true → c ≠ 32 → (s2 = .word → c ∉ chars) → (s2 ≠ .done → c ≠ 40) → step s2 d k c = if c = 41 ∧ 0 < d then some (.done, d - 1, k) else if c = 44 ∧ 0 < d then some (.term, d, k) else none := by
    intro s2 c h1 h2 h3 h4
    cases s2 with
    | term => cases h1
    | opn => cases h1
    | word => have := h3 rfl; have := h4 (by decide); simp [step, S5.beg, S5.fin, h2, *]
    | behind => have := h4 (by decide); simp [step, S5.beg, S5.fin, h2, *]
    | done => simp [step, S5.beg, S5.fin, h2]
  rcases h with rfl | ⟨rfl, h1, h2⟩
  · exact ⟨.done, rfl, due_skip (by decide) r d k, fun c z e => key rfl (skip_cons e) (fun h => (nomatch h)) fun h => absurd rfl h⟩
  · cases r with
    | nil => exact ⟨.word, rfl, rfl, fun c z e => by simp [skip] at e⟩
    | cons c z =>
      by_cases hc : c = 32
      · subst hc
        have e1 : step .word d k 32 = some (.behind, d, k) := by
          have : (32 : Nat) ∉ chars := (nlet (.inl rfl)).2
          simp [step, S5.beg, this]
        have e2 : skip (32 :: z) = skip z := by simp [skip, List.dropWhile_cons, isB]
        refine ⟨.behind, rfl, ?_, fun c y e => key rfl (skip_cons e) (fun h => (nomatch h)) fun _ e40 => h2 y (by rw [e, e40])⟩
        rw [e2, ← due_skip (by decide) z d k]
        simp only [due, e1]
      · have e2 : skip (c :: z) = c :: z := by simp [skip, List.dropWhile_cons, isB, hc]
        refine ⟨.word, rfl, by rw [e2], fun c' y e => ?_⟩
        rw [e2] at e
        cases e
        exact key rfl hc (fun _ => h1 c rfl) fun _ e40 => h2 z (by rw [e2, e40])
/-- what a reading of one term does to the automaton -/
def Rel (f : Cd → Rs Tm) (N : Nat) : Prop := ∀ (s : Cd) (st : S5) (d k : Nat), pc s ≤ N → st.beg = true → s.head? ≠ some 32 → (st = .opn → s.head? ≠ some 41) →
  (∀ t r, f s = .ok t r → ∃ s' k', Post s' r ∧ due st d k s = due s' d k' r) ∧ (∀ r, f s = .bad r → due st d k s = some r)
theorem lp_rel {f : Cd → Rs Tm} {N : Nat} {v : Cd} (hf : Rel f N) (hs : ∀ a t r, f a = .ok t r → Suf r a ∧ r.length < a.length) : ∀ (m : Nat) (ps : List Tm) (a : Cd) (st : S5) (d k : Nat), a.length < m → pc a ≤ N → st.beg = true → a.head? ≠ some 32 → (st = .opn → a.head? ≠ some 41) →
    (∀ t r, lp f v m ps a = .ok t r → ∃ k', due st (d + 1) k a = due .done d k' r) ∧ (∀ r, lp f v m ps a = .bad r → due st (d + 1) k a = some r)
  | 0, _, _, _, _, _, h, _, _, _, _ => by omega
  | m + 1, ps, a, st, d, k, hm, hp, hb, h32, h41 => by
    obtain ⟨h1, h2⟩ := hf a st (d + 1) k hp hb h32 h41
    simp only [lp]
    cases e : f a with
    | bad r0 => exact ⟨fun t r h => (nomatch h), fun r h => by cases h; exact h2 _ e⟩
    | ok t0 r0 =>
      obtain ⟨s', k', po, ed⟩ := h1 _ _ e
      obtain ⟨su, lt⟩ := hs _ _ _ e
      obtain ⟨s2, hfin, ed2, hst⟩ := post po (d + 1) k'
      rw [ed, ed2]
      dsimp only
      cases es : skip r0 with
      | nil =>
        refine ⟨fun t r h => (nomatch h), fun r h => ?_⟩
        cases h
        simp [due]
      | cons c z =>
        have hc := hst c z es
        have sz : Suf z a := ((Suf.tail (c := c)).trans (es ▸ Suf.skip r0)).trans su
        have lz : z.length < a.length := by
          have := (Suf.skip r0).len
          rw [es] at this
          simp at this
          omega
        by_cases c1 : c = 41
        · subst c1
          refine ⟨fun t r h => ?_, fun r h => (nomatch h)⟩
          cases h
          rw [if_pos ⟨rfl, by omega⟩] at hc
          exact ⟨k', by simp only [due, hc]; rfl⟩
        · by_cases c2 : c = 44
          · subst c2
            rw [if_neg (by simp), if_pos ⟨rfl, by omega⟩] at hc
            have e3 : due s2 (d + 1) k' (44 :: z) = due .term (d + 1) k' (skip z) := by
              simp only [due, hc]
              exact due_skip (by decide) z _ _
            rw [e3]
            exact lp_rel hf hs m (ps ++ [t0]) (skip z) .term d k' (by have := (Suf.skip z).len; omega) (Nat.le_trans ((Suf.skip z).trans sz).pc hp) rfl (skip_head z) (fun h => (nomatch h))
          · rw [if_neg (by simp [c1]), if_neg (by simp [c2])] at hc
            have e4 : due s2 (d + 1) k' (c :: z) = some (c :: z) := by simp only [due, hc]
            rw [e4]
            refine ⟨fun t r h => ?_, fun r h => ?_⟩
            · split at h
              · rename_i h'; cases h'; exact absurd rfl c1
              · rename_i h'; cases h'; exact absurd rfl c2
              · cases h
            · split at h
              · cases h
              · rename_i h'; cases h'; exact absurd rfl c2
              · cases h; rfl
theorem ta_rel : ∀ n, Rel (ta n) n := by
  intro n
  induction n with
  | zero =>
    intro s st d k hp hb h32 h41
    obtain ⟨b1, b2⟩ := due_bw (d := d) (k := k) hb h32 h41
    simp only [ta, taB]
    cases e : bwf s with
    | bad r0 => exact ⟨fun t r h => (nomatch h), fun r h => by cases h; exact b2 _ e⟩
    | ok v r0 =>
      obtain ⟨rfl, hv, hn⟩ := bwf_ok e
      have no40 : ∀ z, skip r0 ≠ 40 :: z := fun z hz => by
        have h1 : pc (skip r0) ≤ pc (v ++ r0) := ((Suf.skip r0).trans ⟨v, rfl⟩).pc
        rw [hz] at h1
        have h2 : pc (40 :: z) = pc z + 1 := by simp [pc]
        omega
      refine ⟨fun t r h => ?_, fun r h => ?_⟩
      · dsimp only at h
        split at h
        · rename_i z hz; exact absurd hz (no40 z)
        · cases h
          exact ⟨.word, v.length, .inr ⟨rfl, hn, no40⟩, b1 _ _ e⟩
      · dsimp only at h
        split at h
        · rename_i z hz; exact absurd hz (no40 z)
        · cases h
  | succ n ih =>
    intro s st d k hp hb h32 h41
    obtain ⟨b1, b2⟩ := due_bw (d := d) (k := k) hb h32 h41
    cases e : bwf s with
    | bad r0 =>
      have et : ta (n + 1) s = .bad r0 := by simp only [ta, taB, e]
      rw [et]
      exact ⟨fun t r h => (nomatch h), fun r h => by cases h; exact b2 _ e⟩
    | ok v r0 =>
      obtain ⟨rfl, hv, hn⟩ := bwf_ok e
      by_cases h40 : ∃ z, skip r0 = 40 :: z
      · obtain ⟨z, hz⟩ := h40
        have s1 : Suf (40 :: z) (v ++ r0) := hz ▸ (Suf.skip r0).trans ⟨v, rfl⟩
        have pz : pc z ≤ n := by
          have h1 := s1.pc
          have h2 : pc (40 :: z) = pc z + 1 := by simp [pc]
          omega
        -- word, blanks, (
        have e1 : due .word d v.length r0 = due .opn (d + 1) v.length (skip z) := by
          have st40 : ∀ s2 : S5, s2 = .word ∨ s2 = .behind → step s2 d v.length 40 = some (.opn, d + 1, v.length) := fun s2 h => by
            have l40 : (40 : Nat) ∉ letters := (nlet (.inr (.inl rfl))).1
            have c40 : (40 : Nat) ∉ chars := (nlet (.inr (.inl rfl))).2
            rcases h with rfl | rfl <;> simp [step, S5.beg, l40, c40]
          rw [← due_skip (by decide) z]
          cases hr : r0 with
          | nil => rw [hr] at hz; simp [skip] at hz
          | cons c y =>
            rw [hr] at hz
            by_cases c32 : c = 32
            · subst c32
              have e3 : step .word d v.length 32 = some (.behind, d, v.length) := by
                have : (32 : Nat) ∉ chars := (nlet (.inl rfl)).2
                simp [step, S5.beg, this]
              have e2 : skip (32 :: y) = skip y := by simp [skip, List.dropWhile_cons, isB]
              rw [e2] at hz
              have e4 : due .word d v.length (32 :: y) = due .behind d v.length y := by simp only [due, e3]
              rw [e4, due_skip (by decide) y, hz]
              simp only [due, st40 _ (.inr rfl)]
            · have e2 : skip (c :: y) = c :: y := by simp [skip, List.dropWhile_cons, isB, c32]
              rw [e2] at hz
              cases hz
              simp only [due, st40 _ (.inl rfl)]
        rw [b1 _ _ e, e1]
        by_cases h41' : ∃ y, skip z = 41 :: y
        · obtain ⟨y, hy⟩ := h41'
          have et : ta (n + 1) (v ++ r0) = .ok (.node v []) y := by simp only [ta, taB, e, hz, hy]
          rw [et, hy]
          refine ⟨fun t r h => ?_, fun r h => (nomatch h)⟩
          cases h
          refine ⟨.done, v.length, .inl rfl, ?_⟩
          have e5 : step .opn (d + 1) v.length 41 = some (.done, d, v.length) := by
            have l41 : (41 : Nat) ∉ letters := (nlet (.inr (.inr (.inl rfl)))).1
            simp [step, S5.beg, l41]
          simp only [due, e5]
        · have et : ta (n + 1) (v ++ r0) = lp (ta n) v ((skip z).length + 1) [] (skip z) := by
            simp only [ta, taB, e, hz]
            try (split <;> first | (exact absurd ⟨_, by assumption⟩ h41') | rfl)
          rw [et]
          have := lp_rel (v := v) ih (ta_suf n) ((skip z).length + 1) [] (skip z) .opn d v.length (Nat.lt_succ_self _) (Nat.le_trans (Suf.skip z).pc pz) rfl (skip_head z) (fun _ h => by
            cases hz2 : skip z with
            | nil => rw [hz2] at h; cases h
            | cons c y => rw [hz2] at h; cases h; exact h41' ⟨y, hz2⟩)
          exact ⟨fun t r h => let ⟨k', h'⟩ := this.1 t r h; ⟨.done, k', .inl rfl, h'⟩, this.2⟩
      · have no40 : ∀ z, skip r0 ≠ 40 :: z := fun z hz => h40 ⟨z, hz⟩
        have et : ta (n + 1) (v ++ r0) = .ok (.leaf v) r0 := by
          simp only [ta, taB, e]
          try (split <;> first | rfl | (exact absurd (by assumption) (no40 _)))
        rw [et]
        refine ⟨fun t r h => ?_, fun r h => (nomatch h)⟩
        cases h
        exact ⟨.word, v.length, .inr ⟨rfl, hn, no40⟩, b1 _ _ e⟩
/-- reading a text -/
def rd (n : Nat) (L : Cd) : Rs Tm := match ta n (skip L) with
  | .bad r => .bad r
  | .ok t r => if skip r = [] then .ok t [] else .bad (skip r)
theorem rd_due {n : Nat} {L : Cd} (hp : pc L ≤ n) : (∀ t r, rd n L = .ok t r → due .term 0 0 L = none) ∧ (∀ r, rd n L = .bad r → due .term 0 0 L = some r) := by
  rw [due_skip (by decide) L]
  obtain ⟨h1, h2⟩ := ta_rel n (skip L) .term 0 0 (Nat.le_trans (Suf.skip L).pc hp) rfl (skip_head L) (fun h => (nomatch h))
  unfold rd
  cases e : ta n (skip L) with
  | bad r0 => exact ⟨fun t r h => (nomatch h), fun r h => by cases h; exact h2 _ e⟩
  | ok t0 r0 =>
    obtain ⟨s', k', po, ed⟩ := h1 _ _ e
    obtain ⟨s2, hfin, ed2, hst⟩ := post po 0 k'
    rw [ed, ed2]
    dsimp only
    cases es : skip r0 with
    | nil => exact ⟨fun t r h => by simp [due, hfin], fun r h => by simp at h⟩
    | cons c z =>
      have hc := hst c z es
      simp only [Nat.lt_irrefl, and_false, if_false] at hc
      refine ⟨fun t r h => by simp at h, fun r h => ?_⟩
      simp at h
      rw [← h]
      simp only [due, hc]
end K14


set_option Elab.async false
set_option linter.all false
set_option maxRecDepth 100000
set_option maxHeartbeats 400000
namespace K14
open PySem PySem.Spec PyProof.Rows L2 DL
def sumP : List Cd → Nat
  | [] => 0
  | x :: r => pc x + sumP r
theorem pc_app (a b : Cd) : pc (a ++ b) = pc a + pc b := by simp [pc]
theorem pc_join : ∀ xs : List Cd, pc (joinD [44, 32] xs) = sumP xs
  | [] => rfl
  | [x] => by simp [joinD, sumP]
  | x :: y :: r => by
    rw [joinD_cons, pc_app, pc_app, pc_join (y :: r)]
    have : pc [44, 32] = 0 := by decide
    simp only [sumP]; omega
structure TOk (n : Nat) (t : Tm) (r s : Cd) : Prop where
  ok : Ok n t
  len : (wr t).length + 2 * r.length ≤ 2 * s.length
  cnt : pc (wr t) + pc r ≤ pc s
theorem lp_Ok {f : Cd → Rs Tm} {N : Nat} {v : Cd} (hf : ∀ a t r, f a = .ok t r → TOk N t r a) (hs : ∀ a t r, f a = .ok t r → Suf r a ∧ r.length < a.length) : ∀ m ps a t r, lp f v m ps a = .ok t r →
    ∃ ts, t = .node v (ps ++ ts) ∧ ts ≠ [] ∧ (∀ u ∈ ts, Ok N u) ∧ sumL (ts.map wr) + 2 * ts.length + 2 * r.length ≤ 2 * a.length ∧ ts.length + r.length ≤ a.length ∧ sumP (ts.map wr) + pc r ≤ pc a
  | 0, _, _, _, _, h => nomatch h
  | m + 1, ps, a, t, r, h => by
    simp only [lp] at h
    cases e : f a with
    | bad r0 => rw [e] at h; cases h
    | ok t0 r0 =>
      rw [e] at h
      obtain ⟨h1, h2, h3⟩ := hf _ _ _ e
      obtain ⟨su, lt⟩ := hs _ _ _ e
      have sk := (Suf.skip r0).len
      have sp := (Suf.skip r0).pc
      dsimp only at h
      split at h
      · rename_i z ez
        cases h
        rw [ez] at sk sp
        have hz : pc r ≤ pc (41 :: r) := (Suf.tail (c := 41)).pc
        simp only [List.length_cons] at sk
        exact ⟨[t0], rfl, by simp, fun u hu => by rcases List.mem_singleton.mp hu with rfl; exact h1, by simp [sumL]; omega, by simp; omega, by simp [sumP]; omega⟩
      · rename_i z ez
        rw [ez] at sk sp
        have hz : pc z ≤ pc (44 :: z) := (Suf.tail (c := 44)).pc
        have sz := (Suf.skip z).len
        have szp := (Suf.skip z).pc
        simp only [List.length_cons] at sk
        obtain ⟨ts, rfl, hne, hok, k1, k2, k3⟩ := lp_Ok hf hs m _ _ _ _ h
        exact ⟨t0 :: ts, by simp, by simp, fun u hu => by
          rcases List.mem_cons.mp hu with rfl | hu
          · exact h1
          · exact hok u hu, by simp only [List.map_cons, sumL, List.length_cons]; omega, by simp only [List.length_cons]; omega, by simp only [List.map_cons, sumP]; omega⟩
      · cases h
theorem ta_Ok : ∀ n s t r, s.length ≤ 1000000 → ta n s = .ok t r → TOk n t r s := by
  intro n
  induction n with
  | zero =>
    intro s t r hl h
    simp only [ta, taB] at h
    cases e : bwf s with
    | bad r0 => rw [e] at h; cases h
    | ok v r0 =>
      rw [e] at h
      obtain ⟨rfl, hv, hn⟩ := bwf_ok e
      dsimp only at h
      split at h
      · cases h
      · cases h
        exact ⟨hv, by rw [wr_leaf]; simp; omega, by rw [wr_leaf, pc_app]; exact Nat.le_refl _⟩
  | succ n ih =>
    intro s t r hl h
    cases e : bwf s with
    | bad r0 => simp only [ta, taB, e] at h; cases h
    | ok v r0 =>
      obtain ⟨rfl, hv, hn⟩ := bwf_ok e
      by_cases h40 : ∃ z, skip r0 = 40 :: z
      · obtain ⟨z, hz⟩ := h40
        have sk := (Suf.skip r0).len
        have sp := (Suf.skip r0).pc
        have pz : pc (40 :: z) = pc z + 1 := by simp [pc]
        rw [hz] at sk sp
        simp only [List.length_cons] at sk
        have sz := (Suf.skip z).len
        have szp := (Suf.skip z).pc
        simp only [List.length_append] at hl
        by_cases h41' : ∃ y, skip z = 41 :: y
        · obtain ⟨y, hy⟩ := h41'
          have et : ta (n + 1) (v ++ r0) = .ok (.node v []) y := by simp only [ta, taB, e, hz, hy]
          rw [et] at h
          cases h
          rw [hy] at sz szp
          have hpy : pc r ≤ pc (41 :: r) := (Suf.tail (c := 41)).pc
          simp only [List.length_cons] at sz
          refine ⟨⟨hv, by simp, by simp⟩, ?_, ?_⟩
          · rw [wr_node]; simp [joinD]; omega
          · rw [wr_node, pc_app, pc_app, pc_app, pc_app, pc_join]
            have h1 : pc [40] = 1 := by decide
            have h2 : pc [41] = 0 := by decide
            simp [sumP]; omega
        · have et : ta (n + 1) (v ++ r0) = lp (ta n) v ((skip z).length + 1) [] (skip z) := by
            simp only [ta, taB, e, hz]
            try (split <;> first | (exact absurd ⟨_, by assumption⟩ h41') | rfl)
          rw [et] at h
          have ih' : ∀ a t r, a.length ≤ 1000000 → ta n a = .ok t r → TOk n t r a := ih
          obtain ⟨ts, rfl, hne, hok, k1, k2, k3⟩ := lp_Ok (f := fun a => if a.length ≤ 1000000 then ta n a else .bad a) (N := n) (fun a t r h => by
            split at h
            · exact ih' a t r (by assumption) h
            · cases h) (fun a t r h => by
            split at h
            · exact ta_suf n a t r h
            · cases h) ((skip z).length + 1) [] (skip z) t r (by
            have key : ∀ m ps a, a.length ≤ 1000000 → lp (fun a => if a.length ≤ 1000000 then ta n a else .bad a) v m ps a = lp (ta n) v m ps a := by
              intro m
              induction m with
              | zero => intro ps a _; rfl
              | succ m ihm =>
                intro ps a ha
                simp only [lp, if_pos ha]
                cases e2 : ta n a with
                | bad r0 => rfl
                | ok t0 r0 =>
                  have l1 := (ta_suf n a t0 r0 e2).2
                  have l2 := (Suf.skip r0).len
                  dsimp only
                  split
                  · rfl
                  · rename_i y ey
                    rw [ey] at l2
                    simp only [List.length_cons] at l2
                    have l3 := (Suf.skip y).len
                    exact ihm _ _ (by omega)
                  · rfl
            rw [key _ _ _ (by omega)]; exact h)
          rw [List.nil_append]
          refine ⟨⟨hv, by omega, hok⟩, ?_, ?_⟩
          · rw [wr_node]
            have hj := join_len [44, 32] (ts.map wr) (by simpa using hne)
            simp only [List.length_map, List.length_cons, List.length_nil] at hj
            simp only [List.length_append, List.length_cons, List.length_nil]
            omega
          · rw [wr_node, pc_app, pc_app, pc_app, pc_app, pc_join]
            have h1 : pc [40] = 1 := by decide
            have h2 : pc [41] = 0 := by decide
            omega
      · have no40 : ∀ z, skip r0 ≠ 40 :: z := fun z hz => h40 ⟨z, hz⟩
        have et : ta (n + 1) (v ++ r0) = .ok (.leaf v) r0 := by
          simp only [ta, taB, e]
          try (split <;> first | rfl | (exact absurd (by assumption) (no40 _)))
        rw [et] at h
        cases h
        exact ⟨hv, by rw [wr_leaf]; simp; omega, by rw [wr_leaf, pc_app]; exact Nat.le_refl _⟩
/-! ### what is written is read again -/
theorem skip_id {s : Cd} (h : s.head? ≠ some 32) : skip s = s := by
  cases s with
  | nil => rfl
  | cons c z =>
    have : c ≠ 32 := fun e => h (by rw [e]; rfl)
    simp [skip, List.dropWhile_cons, isB, this]
theorem bwf_wd {v r : Cd} (hv : Wd v) (hr : ∀ c, r.head? = some c → c ∉ chars) : bwf (v ++ r) = .ok v r := by
  have htw : ∀ {u : Cd}, (∀ c ∈ u, c ∈ chars) → (u ++ r).takeWhile isC = u ∧ (u ++ r).dropWhile isC = r := by
    intro u
    induction u with
    | nil =>
      intro _
      cases r with
      | nil => exact ⟨rfl, rfl⟩
      | cons c z =>
        have : isC c = false := by simpa [isC] using hr c rfl
        simp [List.takeWhile_cons, List.dropWhile_cons, this]
    | cons c u ih =>
      intro h
      have h1 : isC c = true := by simpa [isC] using h c (by simp)
      obtain ⟨i1, i2⟩ := ih fun d hd => h d (by simp [hd])
      simp [List.takeWhile_cons, List.dropWhile_cons, h1, i1, i2]
  obtain ⟨t1, t2⟩ := htw hv.al
  cases v with
  | nil => exact absurd rfl hv.ne
  | cons c z =>
    have hc := hv.hd c rfl
    have hl := hv.le
    rw [List.cons_append] at t1 t2 ⊢
    simp only [bwf, if_pos hc]
    rw [t1, t2, if_pos hl]
theorem wr_head : ∀ {n : Nat} {t : Tm}, Ok n t → ∃ c z, wr t = c :: z ∧ c ∈ letters
  | n, .leaf v, h => by
    have hv : Wd v := by cases n <;> exact h
    rw [wr_leaf]
    cases v with
    | nil => exact absurd rfl hv.ne
    | cons c z => exact ⟨c, z, rfl, hv.hd c rfl⟩
  | 0, .node _ _, h => h.elim
  | n + 1, .node v ts, ⟨hv, _, _⟩ => by
    rw [wr_node]
    cases v with
    | nil => exact absurd rfl hv.ne
    | cons c z => exact ⟨c, _, rfl, hv.hd c rfl⟩
theorem let32 {c : Nat} (h : c ∈ letters) : c ≠ 32 ∧ c ≠ 41 := ⟨fun e => (nlet (.inl e)).1 h, fun e => (nlet (.inr (.inr (.inl e)))).1 h⟩
def PostR (r : Cd) : Prop := (∀ c, r.head? = some c → c ∉ chars) ∧ ∀ z, skip r ≠ 40 :: z
theorem postR_cons {c : Nat} {z : Cd} (h : c = 41 ∨ c = 44) : PostR (c :: z) := by
  refine ⟨fun d hd => by cases hd; rcases h with rfl | rfl <;> decide, fun y hy => ?_⟩
  have : c ≠ 32 := by rcases h with rfl | rfl <;> decide
  rw [skip_id (by simpa using this)] at hy
  cases hy
  rcases h with h | h <;> cases h
theorem ta_wr : ∀ n t r, Ok n t → PostR r → ta n (wr t ++ r) = .ok t r := by
  intro n
  induction n with
  | zero =>
    intro t r h hr
    cases t with
    | node v ts => exact h.elim
    | leaf v =>
      have hv : Wd v := h
      rw [wr_leaf]
      simp only [ta, taB, bwf_wd hv hr.1]
      split
      · rename_i z hz; exact absurd hz (hr.2 z)
      · rfl
  | succ n ih =>
    intro t r h hr
    cases t with
    | leaf v =>
      have hv : Wd v := h
      rw [wr_leaf]
      simp only [ta, taB, bwf_wd hv hr.1]
      split
      · rename_i z hz; exact absurd hz (hr.2 z)
      · rfl
    | node v ts =>
      obtain ⟨hv, hk, hts⟩ := h
      have e0 : wr (.node v ts) ++ r = v ++ 40 :: (joinD [44, 32] (ts.map wr) ++ 41 :: r) := by rw [wr_node]; simp
      have c40 : ∀ c, (40 :: (joinD [44, 32] (ts.map wr) ++ 41 :: r) : Cd).head? = some c → c ∉ chars := fun c hc => by cases hc; decide
      rw [e0]
      have s40 : skip (40 :: (joinD [44, 32] (ts.map wr) ++ 41 :: r)) = 40 :: (joinD [44, 32] (ts.map wr) ++ 41 :: r) := skip_id (by simp)
      cases ts with
      | nil =>
        have e1 : skip (joinD [44, 32] (([] : List Tm).map wr) ++ 41 :: r) = 41 :: r := skip_id (by simp [joinD])
        simp only [ta, taB, bwf_wd hv c40, s40, e1]
      | cons t1 ts1 =>
        have lpw : ∀ (l : List Tm) (m : Nat) (ps : List Tm), l ≠ [] → (∀ u ∈ l, Ok n u) → l.length < m → lp (ta n) v m ps (joinD [44, 32] (l.map wr) ++ 41 :: r) = .ok (.node v (ps ++ l)) r := by
          intro l
          induction l with
          | nil => intro _ _ h; exact absurd rfl h
          | cons u l ihl =>
            intro m ps _ hl hm
            obtain ⟨m, rfl⟩ : ∃ m', m = m' + 1 := ⟨m - 1, by omega⟩
            cases l with
            | nil =>
              have e2 := ih u (41 :: r) (hl u (by simp)) (postR_cons (.inl rfl))
              have e3 : skip (41 :: r) = 41 :: r := skip_id (by simp)
              show lp (ta n) v (m + 1) ps (wr u ++ 41 :: r) = _
              simp only [lp, e2, e3]
            | cons u2 l =>
              have e1 : joinD [44, 32] ((u :: u2 :: l).map wr) ++ 41 :: r = wr u ++ 44 :: (32 :: (joinD [44, 32] ((u2 :: l).map wr) ++ 41 :: r)) := by
                rw [List.map_cons, List.map_cons, joinD_cons]; simp
              have e2 := ih u (44 :: (32 :: (joinD [44, 32] ((u2 :: l).map wr) ++ 41 :: r))) (hl u (by simp)) (postR_cons (.inr rfl))
              have e3 : skip (44 :: (32 :: (joinD [44, 32] ((u2 :: l).map wr) ++ 41 :: r))) = 44 :: (32 :: (joinD [44, 32] ((u2 :: l).map wr) ++ 41 :: r)) := skip_id (by simp)
              obtain ⟨c, z, ew, hc⟩ := wr_head (hl u2 (by simp))
              have hh : (joinD [44, 32] ((u2 :: l).map wr) ++ 41 :: r).head? = some c := by
                cases l with
                | nil => simp [joinD, ew]
                | cons u3 l => rw [List.map_cons, List.map_cons, joinD_cons, ew]; simp
              have e4 : skip (32 :: (joinD [44, 32] ((u2 :: l).map wr) ++ 41 :: r)) = joinD [44, 32] ((u2 :: l).map wr) ++ 41 :: r := by
                rw [show skip (32 :: (joinD [44, 32] ((u2 :: l).map wr) ++ 41 :: r)) = skip (joinD [44, 32] ((u2 :: l).map wr) ++ 41 :: r) by simp [skip, List.dropWhile_cons, isB]]
                exact skip_id (by rw [hh]; simp; exact (let32 hc).1)
              rw [e1]
              simp only [lp, e2, e3, e4]
              have := ihl m (ps ++ [u]) (by simp) (fun x hx => hl x (List.mem_cons_of_mem _ hx)) (by simp only [List.length_cons] at hm ⊢; omega)
              rw [this]; simp
        obtain ⟨c, z, ew, hc⟩ := wr_head (hts t1 (by simp))
        have hh : (joinD [44, 32] ((t1 :: ts1).map wr) ++ 41 :: r).head? = some c := by
          cases ts1 with
          | nil => simp [joinD, ew]
          | cons u3 l => rw [List.map_cons, List.map_cons, joinD_cons, ew]; simp
        have e1 : skip (joinD [44, 32] ((t1 :: ts1).map wr) ++ 41 :: r) = joinD [44, 32] ((t1 :: ts1).map wr) ++ 41 :: r := skip_id (by rw [hh]; simp; exact (let32 hc).1)
        have n41 : ¬ ∃ y, joinD [44, 32] ((t1 :: ts1).map wr) ++ 41 :: r = 41 :: y := fun ⟨y, hy⟩ => by
          rw [hy] at hh; cases hh; exact (let32 hc).2 rfl
        have key : ta (n + 1) (v ++ 40 :: (joinD [44, 32] ((t1 :: ts1).map wr) ++ 41 :: r)) = lp (ta n) v ((joinD [44, 32] ((t1 :: ts1).map wr) ++ 41 :: r).length + 1) [] (joinD [44, 32] ((t1 :: ts1).map wr) ++ 41 :: r) := by
          simp only [ta, taB, bwf_wd hv c40, s40, e1]
          try (split <;> first | rfl | (exact absurd ⟨_, by assumption⟩ n41))
        rw [key]
        refine lpw (t1 :: ts1) _ [] (by simp) hts ?_
        have := join_len [44, 32] ((t1 :: ts1).map wr) (by simp)
        simp only [List.length_map, List.length_cons, List.length_nil, List.length_append] at this ⊢
        omega
theorem rd_wr {n : Nat} {t : Tm} (h : Ok n t) : rd n (wr t) = .ok t [] := by
  obtain ⟨c, z, ew, hc⟩ := wr_head h
  have e := ta_wr n t [] h ⟨fun c h => (nomatch h), fun z h => by simp [skip] at h⟩
  rw [List.append_nil] at e
  have es : skip (wr t) = wr t := skip_id (by rw [ew]; simp; exact (let32 hc).1)
  simp only [rd, es, e]
  rfl
theorem rd_Ok {n : Nat} {L : Cd} {t : Tm} {r : Cd} (hl : L.length ≤ 400000) (h : rd n L = .ok t r) : Ok n t ∧ (wr t).length ≤ 2 * L.length ∧ pc (wr t) ≤ pc L := by
  unfold rd at h
  have sk := (Suf.skip L).len
  have sp := (Suf.skip L).pc
  cases e : ta n (skip L) with
  | bad r0 => rw [e] at h; cases h
  | ok t0 r0 =>
    rw [e] at h
    obtain ⟨h1, h2, h3⟩ := ta_Ok n _ _ _ (by omega) e
    dsimp only at h
    split at h
    · cases h
      exact ⟨h1, by omega, by omega⟩
    · cases h
end K14


set_option Elab.async false
set_option linter.all false
set_option maxRecDepth 100000
set_option maxHeartbeats 400000
namespace K14
open PySem PySem.Spec PyProof.Rows L2 DL
section
variable {P : Program} {w : World} {K : PySem.W.Frag} {mg : Str → Option Value} {base : Heap}
theorem get_let {k : Nat} (h : k < 26) : ∃ c, atI chars (k : Int) = some c ∧ c ∈ chars := by
  have hl : k < chars.length := by have : chars.length = 36 := rfl; omega
  exact ⟨chars[k], atI_nat (List.getElem?_eq_getElem hl), List.getElem_mem hl⟩
theorem get_ch {k : Nat} (h : k < 36) : ∃ c, atI chars (k : Int) = some c ∧ c ∈ chars := by
  have hl : k < chars.length := h
  exact ⟨chars[k], atI_nat (List.getElem?_eq_getElem hl), List.getElem_mem hl⟩
theorem get_v (v : List Nat) {k : Nat} (h : k < v.length) : ∃ x, atI (v.map fun (x : Nat) => D.int (x : Int)) (k : Int) = some (.int ((x : Nat) : Int)) ∧ x ∈ v :=
  ⟨v[k], atI_nat (by rw [List.getElem?_map, List.getElem?_eq_getElem h]; rfl), List.getElem_mem h⟩
/-- read_term -/
def rtS (cB : Addr) (n : Nat) : DSp := fun ds M Q E => ∃ L : Cd, ds = [.str L] ∧ L.length ≤ 400000 ∧ pc L ≤ n ∧ (∀ t r, rd n L = .ok t r → Q (toD t) M) ∧ (∀ r, rd n L = .bad r → bad cB L r E M)
theorem ok_rt {cB : Addr} (m : Mg mg) {f : Addr} {fd : FuncData} (n : Nat) (X_BadText : EX1 P w K mg base "BadText" cB "place" okI) (F_behind_blanks : Fn P w K mg base 1 "behind_blanks" ["text", "place"] bbSp) (F_term_at : Fn P w K mg base (n + 3 + 1) "term_at" ["text", "place"] (taS cB n)) (Fd : FunT K "read_term" s_read_term f fd) (h : mg "read_term" = some (.ref f)) :
    Fn P w K mg base (n + 5) "read_term" ["text"] (rtS cB n) := by
  refine ⟨f, fd, ?_, h, Fd.kp, Fd.bindsN fun _ _ _ _ _ _ us hl => match us, hl with | [_], _ => rfl⟩
  refine dfn Fd sc_read_term (fun ds M Q E h => ?_) fun cdv A outer s H E Ed hr => ⟨_, (dss_cons (ds_asg (cF F_term_at hr (by omega) rfl (fun σ => passAt (takes_of rfl rfl rfl rfl) σ) (da_cons (vr 0) (da_cons (cF F_behind_blanks hr (by omega) rfl (fun σ => passAt (takes_of rfl rfl rfl rfl) σ) (da_cons (vr 0) (da_cons de_int da_nil))) da_nil))) (dg_tup (n := 2) rfl (dgs_cons (gN 1 sc_read_term.nd) (dgs_cons (gN 2 sc_read_term.nd) dgs_nil)))) (dss_cons (sSet 3 sc_read_term.nd (cF F_behind_blanks hr (by omega) rfl (fun σ => passAt (takes_of rfl rfl rfl rfl) σ) (da_cons (vr 0) (da_cons (vr 2) da_nil)))) (dss_cons (ds_if (dt_lt (vr 3) (de_len rfl m.len (vr 0))) (dss_one (rz1 X_BadText okD_I hr (by omega) (takes_of rfl rfl rfl rfl) rfl rfl (vr 3))) dss_nil) (dss_one (ds_ret (vr 1)))))), fun ds M Q cl h => ?_⟩
  · obtain ⟨L, rfl, _⟩ := h; rfl
  · obtain ⟨L, rfl, hz, hp, hok, hbad⟩ := h
    have hzz : L.length ≤ sizeLine := by rw [sizeLine_eq]; omega
    have e0 := tw_app isB L
    have l0 := tw_len L
    simp only [dRaise, dX1, dVar, dC, dOp, dTest, dTru, dAnd, dOr, dNot, dAndV, dOrV, dNotV, dIfE, dNil, dCons, dStar, dTup, dLst, dLstM, dFrz, dNeg, oEq, oNe, dNoO, dSoO, dSl, dNext, dSeq, dBreak, dCont, dExpr, dRet, dRetN, dIf, gNm, gNl, gCn, gTp, dAsg, dSet, dAug, dIter, dRng1, dRng2, dYes, dCallB, f1, dIsi, dJoinAt, dFmt, dJs, dJoined, dCall, dstart, rget, rset, dwipe, gSb, dApp, dPop, fMax2, fMin2, dNever, dPairs, dDispG, dDisp, dDispM, dNewK, dNewT, keyD, if_true, if_false, decide_eq_true_eq, Bool.false_eq_true, List.map_cons, List.map_nil, List.length_cons, List.length_nil, List.cons_append, List.nil_append, Nat.reduceAdd, Nat.reduceSub, List.reduceReplicate, e_vw_non, e_vw_bl, e_vw_int, e_vw_str, e_vw_scr, e_vw_lst, e_vw_tup, e_vw_dic, e_vw_dit, e_vw_obj, e_vw_ty, e_flat_non, e_isn_non, e_ty_non, e_flat_bl, e_isn_bl, e_ty_bl, e_flat_int, e_isn_int, e_ty_int, e_flat_str, e_isn_str, e_ty_str, e_flat_scr, e_isn_scr, e_ty_scr, e_flat_lst, e_isn_lst, e_ty_lst, e_flat_tup, e_isn_tup, e_ty_tup, e_flat_dic, e_isn_dic, e_ty_dic, e_flat_dit, e_isn_dit, e_flat_obj, e_isn_obj, e_flat_ty, e_isn_ty, e_add_ii, e_add_ss, e_add_ll, e_add_tt, e_iadd_ii, e_iadd_ss, e_sub_ii, e_mul_ii, e_mul_li, e_mul_si, e_fdiv_ii, e_mod_ii, e_pow_ii, e_deq_nn, e_deq_ii, e_deq_ss, e_deq_bb, e_deq_tt, e_deq_ll, e_deq_st, e_deq_ts, e_deql_n, e_deql_c, e_deql_nc, e_deql_cn, e_isN, e_ix_l, e_ix_t, e_ix_c, e_ix_s, e_ix_d, e_ix_dt, e_in_l, e_in_t, e_in_s, e_in_d, e_in_dt, e_sl_l, e_sl_t, e_sl_s, e_len_lst, e_len_tup, e_len_s, e_len_c, e_len_d, e_int_i, e_abs_i, e_str_i, e_tup_l, e_tup_t, e_oLst0_l, e_oLst0_t, e_oLst0M_l, e_oLst0M_t, e_set_l, e_set_d, e_set_t, e_key_i, e_key_s, e_isT_non_bool, e_isT_non_int, e_isT_non_str, e_isT_non_list, e_isT_non_tuple, e_isT_non_dict, e_isT_bool_bool, e_isT_bool_int, e_isT_bool_str, e_isT_bool_list, e_isT_bool_tuple, e_isT_bool_dict, e_isT_int_bool, e_isT_int_int, e_isT_int_str, e_isT_int_list, e_isT_int_tuple, e_isT_int_dict, e_isT_str_bool, e_isT_str_int, e_isT_str_str, e_isT_str_list, e_isT_str_tuple, e_isT_str_dict, e_isT_list_bool, e_isT_list_int, e_isT_list_str, e_isT_list_list, e_isT_list_tuple, e_isT_list_dict, e_isT_tuple_bool, e_isT_tuple_int, e_isT_tuple_str, e_isT_tuple_list, e_isT_tuple_tuple, e_isT_tuple_dict, e_isT_dict_bool, e_isT_dict_int, e_isT_dict_str, e_isT_dict_list, e_isT_dict_tuple, e_isT_dict_dict, e_lt, e_le, e_gt, e_ge ]
    refine ⟨L, [], L.takeWhile isB, skip L, _, rfl, rfl, e0, by omega, tw_blank L, skip_head L, ?_⟩
    refine ⟨L, L.takeWhile isB, skip L, _, rfl, by simp, e0, by omega, Nat.le_trans (Suf.skip L).pc hp, fun t r e => ?_, fun r e => ⟨M, cl, hbad r (by simp only [rd, e])⟩⟩
    obtain ⟨⟨u, eu⟩, _⟩ := ta_suf _ _ _ _ e
    have er := tw_app isB r
    have lr := tw_len r
    have eL : L = (L.takeWhile isB ++ u) ++ (r.takeWhile isB ++ skip r) := by
      rw [← show r = r.takeWhile isB ++ skip r from er, List.append_assoc, ← eu]; exact e0
    have lL : L.length = (L.takeWhile isB).length + (u.length + r.length) := by
      have := congrArg List.length eu
      rw [List.length_append] at this
      omega
    simp only [dRaise, dX1, dVar, dC, dOp, dTest, dTru, dAnd, dOr, dNot, dAndV, dOrV, dNotV, dIfE, dNil, dCons, dStar, dTup, dLst, dLstM, dFrz, dNeg, oEq, oNe, dNoO, dSoO, dSl, dNext, dSeq, dBreak, dCont, dExpr, dRet, dRetN, dIf, gNm, gNl, gCn, gTp, dAsg, dSet, dAug, dIter, dRng1, dRng2, dYes, dCallB, f1, dIsi, dJoinAt, dFmt, dJs, dJoined, dCall, dstart, rget, rset, dwipe, gSb, dApp, dPop, fMax2, fMin2, dNever, dPairs, dDispG, dDisp, dDispM, dNewK, dNewT, keyD, if_true, if_false, decide_eq_true_eq, Bool.false_eq_true, List.map_cons, List.map_nil, List.length_cons, List.length_nil, List.cons_append, List.nil_append, Nat.reduceAdd, Nat.reduceSub, List.reduceReplicate, e_vw_non, e_vw_bl, e_vw_int, e_vw_str, e_vw_scr, e_vw_lst, e_vw_tup, e_vw_dic, e_vw_dit, e_vw_obj, e_vw_ty, e_flat_non, e_isn_non, e_ty_non, e_flat_bl, e_isn_bl, e_ty_bl, e_flat_int, e_isn_int, e_ty_int, e_flat_str, e_isn_str, e_ty_str, e_flat_scr, e_isn_scr, e_ty_scr, e_flat_lst, e_isn_lst, e_ty_lst, e_flat_tup, e_isn_tup, e_ty_tup, e_flat_dic, e_isn_dic, e_ty_dic, e_flat_dit, e_isn_dit, e_flat_obj, e_isn_obj, e_flat_ty, e_isn_ty, e_add_ii, e_add_ss, e_add_ll, e_add_tt, e_iadd_ii, e_iadd_ss, e_sub_ii, e_mul_ii, e_mul_li, e_mul_si, e_fdiv_ii, e_mod_ii, e_pow_ii, e_deq_nn, e_deq_ii, e_deq_ss, e_deq_bb, e_deq_tt, e_deq_ll, e_deq_st, e_deq_ts, e_deql_n, e_deql_c, e_deql_nc, e_deql_cn, e_isN, e_ix_l, e_ix_t, e_ix_c, e_ix_s, e_ix_d, e_ix_dt, e_in_l, e_in_t, e_in_s, e_in_d, e_in_dt, e_sl_l, e_sl_t, e_sl_s, e_len_lst, e_len_tup, e_len_s, e_len_c, e_len_d, e_int_i, e_abs_i, e_str_i, e_tup_l, e_tup_t, e_oLst0_l, e_oLst0_t, e_oLst0M_l, e_oLst0M_t, e_set_l, e_set_d, e_set_t, e_key_i, e_key_s, e_isT_non_bool, e_isT_non_int, e_isT_non_str, e_isT_non_list, e_isT_non_tuple, e_isT_non_dict, e_isT_bool_bool, e_isT_bool_int, e_isT_bool_str, e_isT_bool_list, e_isT_bool_tuple, e_isT_bool_dict, e_isT_int_bool, e_isT_int_int, e_isT_int_str, e_isT_int_list, e_isT_int_tuple, e_isT_int_dict, e_isT_str_bool, e_isT_str_int, e_isT_str_str, e_isT_str_list, e_isT_str_tuple, e_isT_str_dict, e_isT_list_bool, e_isT_list_int, e_isT_list_str, e_isT_list_list, e_isT_list_tuple, e_isT_list_dict, e_isT_tuple_bool, e_isT_tuple_int, e_isT_tuple_str, e_isT_tuple_list, e_isT_tuple_tuple, e_isT_tuple_dict, e_isT_dict_bool, e_isT_dict_int, e_isT_dict_str, e_isT_dict_list, e_isT_dict_tuple, e_isT_dict_dict, e_lt, e_le, e_gt, e_ge ]
    refine ⟨trivial, L, L.takeWhile isB ++ u, r.takeWhile isB, skip r, _, rfl, by simp <;> omega, eL, by omega, tw_blank r, skip_head r, ?_⟩
    simp only [dRaise, dX1, dVar, dC, dOp, dTest, dTru, dAnd, dOr, dNot, dAndV, dOrV, dNotV, dIfE, dNil, dCons, dStar, dTup, dLst, dLstM, dFrz, dNeg, oEq, oNe, dNoO, dSoO, dSl, dNext, dSeq, dBreak, dCont, dExpr, dRet, dRetN, dIf, gNm, gNl, gCn, gTp, dAsg, dSet, dAug, dIter, dRng1, dRng2, dYes, dCallB, f1, dIsi, dJoinAt, dFmt, dJs, dJoined, dCall, dstart, rget, rset, dwipe, gSb, dApp, dPop, fMax2, fMin2, dNever, dPairs, dDispG, dDisp, dDispM, dNewK, dNewT, keyD, if_true, if_false, decide_eq_true_eq, Bool.false_eq_true, List.map_cons, List.map_nil, List.length_cons, List.length_nil, List.cons_append, List.nil_append, Nat.reduceAdd, Nat.reduceSub, List.reduceReplicate, e_vw_non, e_vw_bl, e_vw_int, e_vw_str, e_vw_scr, e_vw_lst, e_vw_tup, e_vw_dic, e_vw_dit, e_vw_obj, e_vw_ty, e_flat_non, e_isn_non, e_ty_non, e_flat_bl, e_isn_bl, e_ty_bl, e_flat_int, e_isn_int, e_ty_int, e_flat_str, e_isn_str, e_ty_str, e_flat_scr, e_isn_scr, e_ty_scr, e_flat_lst, e_isn_lst, e_ty_lst, e_flat_tup, e_isn_tup, e_ty_tup, e_flat_dic, e_isn_dic, e_ty_dic, e_flat_dit, e_isn_dit, e_flat_obj, e_isn_obj, e_flat_ty, e_isn_ty, e_add_ii, e_add_ss, e_add_ll, e_add_tt, e_iadd_ii, e_iadd_ss, e_sub_ii, e_mul_ii, e_mul_li, e_mul_si, e_fdiv_ii, e_mod_ii, e_pow_ii, e_deq_nn, e_deq_ii, e_deq_ss, e_deq_bb, e_deq_tt, e_deq_ll, e_deq_st, e_deq_ts, e_deql_n, e_deql_c, e_deql_nc, e_deql_cn, e_isN, e_ix_l, e_ix_t, e_ix_c, e_ix_s, e_ix_d, e_ix_dt, e_in_l, e_in_t, e_in_s, e_in_d, e_in_dt, e_sl_l, e_sl_t, e_sl_s, e_len_lst, e_len_tup, e_len_s, e_len_c, e_len_d, e_int_i, e_abs_i, e_str_i, e_tup_l, e_tup_t, e_oLst0_l, e_oLst0_t, e_oLst0M_l, e_oLst0M_t, e_set_l, e_set_d, e_set_t, e_key_i, e_key_s, e_isT_non_bool, e_isT_non_int, e_isT_non_str, e_isT_non_list, e_isT_non_tuple, e_isT_non_dict, e_isT_bool_bool, e_isT_bool_int, e_isT_bool_str, e_isT_bool_list, e_isT_bool_tuple, e_isT_bool_dict, e_isT_int_bool, e_isT_int_int, e_isT_int_str, e_isT_int_list, e_isT_int_tuple, e_isT_int_dict, e_isT_str_bool, e_isT_str_int, e_isT_str_str, e_isT_str_list, e_isT_str_tuple, e_isT_str_dict, e_isT_list_bool, e_isT_list_int, e_isT_list_str, e_isT_list_list, e_isT_list_tuple, e_isT_list_dict, e_isT_tuple_bool, e_isT_tuple_int, e_isT_tuple_str, e_isT_tuple_list, e_isT_tuple_tuple, e_isT_tuple_dict, e_isT_dict_bool, e_isT_dict_int, e_isT_dict_str, e_isT_dict_list, e_isT_dict_tuple, e_isT_dict_dict, e_lt, e_le, e_gt, e_ge ]
    refine ⟨hzz, ?_⟩
    by_cases hs : skip r = []
    · rw [if_neg (by rw [hs] at lr; simp at lr ⊢; omega)]
      exact ⟨M, cl, hok t [] (by simp only [rd, e, hs, if_true])⟩
    · have hpos := List.length_pos_iff.mpr hs
      rw [if_pos (by simp only [List.length_append]; omega)]
      have hb := hbad (skip r) (by simp only [rd, e, if_neg hs])
      refine ⟨⟨_, rfl, by simp only [List.length_append]; omega⟩, M, cl, ?_⟩
      unfold bad at hb
      rwa [show (L.length : Int) - (skip r).length = ((L.takeWhile isB ++ u).length : Int) + (r.takeWhile isB).length by simp only [List.length_append]; omega] at hb
/-- _law_due -/
def stD : S5 → Cd
  | .term => [116, 101, 114, 109]
  | .opn => [111, 112, 101, 110]
  | .word => [119, 111, 114, 100]
  | .behind => [98, 101, 104, 105, 110, 100]
  | .done => [100, 111, 110, 101]
theorem eT (s : S5) : (stD s == [116, 101, 114, 109]) = decide (s = .term) ∧ (([116, 101, 114, 109] : Cd) == stD s) = decide (s = .term) := by cases s <;> exact ⟨rfl, rfl⟩
theorem eO (s : S5) : (stD s == [111, 112, 101, 110]) = decide (s = .opn) ∧ (([111, 112, 101, 110] : Cd) == stD s) = decide (s = .opn) := by cases s <;> exact ⟨rfl, rfl⟩
theorem eW (s : S5) : (stD s == [119, 111, 114, 100]) = decide (s = .word) ∧ (([119, 111, 114, 100] : Cd) == stD s) = decide (s = .word) := by cases s <;> exact ⟨rfl, rfl⟩
theorem eB (s : S5) : (stD s == [98, 101, 104, 105, 110, 100]) = decide (s = .behind) ∧ (([98, 101, 104, 105, 110, 100] : Cd) == stD s) = decide (s = .behind) := by cases s <;> exact ⟨rfl, rfl⟩
theorem eD (s : S5) : (stD s == [100, 111, 110, 101]) = decide (s = .done) ∧ (([100, 111, 110, 101] : Cd) == stD s) = decide (s = .done) := by cases s <;> exact ⟨rfl, rfl⟩
theorem eC (c n : Nat) : (([c] : Cd) == [n]) = decide (c = n) := by by_cases h : c = n <;> simp [h]
theorem lets_len : letters.length = 26 := rfl
def dueV (L : Cd) : Int := match due .term 0 0 L with
  | none => -1
  | some r => (L.length : Int) - r.length
def duS : DSp := fun ds M Q _ => ∃ L : Cd, ds = [.str L] ∧ L.length ≤ 400000 ∧ Q (.int (dueV L)) M
theorem ok_du (m : Mg mg) {f : Addr} {fd : FuncData} (Fd : FunT K "_law_due" s__law_due f fd) (h : mg "_law_due" = some (.ref f)) : Fn P w K mg base 1 "_law_due" ["text"] duS := by
  refine ⟨f, fd, ?_, h, Fd.kp, Fd.bindsN fun _ _ _ _ _ _ us hl => match us, hl with | [_], _ => rfl⟩
  refine dfn Fd sc__law_due (fun ds M Q E h => ?_) fun cdv A outer s H E Ed hr => ⟨_, (dss_cons (sSet 1 sc__law_due.nd (de_str [97, 98, 99, 100, 101, 102, 103, 104, 105, 106, 107, 108, 109, 110, 111, 112, 113, 114, 115, 116, 117, 118, 119, 120, 121, 122] (by kernel_rfl))) (dss_cons (sSet 2 sc__law_due.nd (de_str [116, 101, 114, 109] (by kernel_rfl))) (dss_cons (sSet 3 sc__law_due.nd de_int) (dss_cons (sSet 4 sc__law_due.nd de_int) (dss_cons (dFor1 (passes_of rfl) (di_range1 rfl m.range (de_len rfl m.len (vr 0))) (gN 5 sc__law_due.nd) (dss_cons (sSet 6 sc__law_due.nd (de_ix (Rm1 hr) (vr 0) (vr 5))) (dss_one (ds_if (DW.dt (dw_and (dt_in (Rm65 hr) (vr 2) (de_lst (da_cons (de_str [116, 101, 114, 109] (by kernel_rfl)) (da_cons (de_str [111, 112, 101, 110] (by kernel_rfl)) da_nil)))) (dw_and1 (dt_in (Rm65 hr) (vr 6) (vr 1))))) (dss_cons (sSet 2 sc__law_due.nd (de_str [119, 111, 114, 100] (by kernel_rfl))) (dss_one (sSet 4 sc__law_due.nd de_int))) (dss_one (ds_if (DW.dt (dw_and (dt_eq (Rm64 hr) (vr 2) (de_str [119, 111, 114, 100] (by kernel_rfl))) (dw_and (dt_in (Rm65 hr) (vr 6) (de_add (vr 1) (de_str [48, 49, 50, 51, 52, 53, 54, 55, 56, 57] (by kernel_rfl)))) (dw_and1 (dt_lt (vr 4) de_int))))) (dss_one (sSet 4 sc__law_due.nd (de_add (vr 4) de_int))) (dss_one (ds_if (dt_eq (Rm64 hr) (vr 6) (de_str [32] (by kernel_rfl))) (dss_one (sSet 2 sc__law_due.nd (de_if (dt_eq (Rm64 hr) (vr 2) (de_str [119, 111, 114, 100] (by kernel_rfl))) (de_str [98, 101, 104, 105, 110, 100] (by kernel_rfl)) (vr 2)))) (dss_one (ds_if (DW.dt (dw_and (dt_in (Rm65 hr) (vr 2) (de_lst (da_cons (de_str [119, 111, 114, 100] (by kernel_rfl)) (da_cons (de_str [98, 101, 104, 105, 110, 100] (by kernel_rfl)) da_nil)))) (dw_and1 (dt_eq (Rm64 hr) (vr 6) (de_str [40] (by kernel_rfl)))))) (dss_cons (sSet 2 sc__law_due.nd (de_str [111, 112, 101, 110] (by kernel_rfl))) (dss_one (sSet 3 sc__law_due.nd (de_add (vr 3) de_int)))) (dss_one (ds_if (DW.dt (dw_and (dt_eq (Rm64 hr) (vr 6) (de_str [41] (by kernel_rfl))) (dw_and (dt_gt (vr 3) de_int) (dw_and1 (dt_ne (Rm64 hr) (vr 2) (de_str [116, 101, 114, 109] (by kernel_rfl))))))) (dss_cons (sSet 2 sc__law_due.nd (de_str [100, 111, 110, 101] (by kernel_rfl))) (dss_one (sSet 3 sc__law_due.nd (de_sub (vr 3) de_int)))) (dss_one (ds_if (DW.dt (dw_and (dt_eq (Rm64 hr) (vr 6) (de_str [44] (by kernel_rfl))) (dw_and (dt_gt (vr 3) de_int) (dw_and1 (dt_in (Rm65 hr) (vr 2) (de_lst (da_cons (de_str [119, 111, 114, 100] (by kernel_rfl)) (da_cons (de_str [98, 101, 104, 105, 110, 100] (by kernel_rfl)) (da_cons (de_str [100, 111, 110, 101] (by kernel_rfl)) da_nil))))))))) (dss_one (sSet 2 sc__law_due.nd (de_str [116, 101, 114, 109] (by kernel_rfl)))) (dss_one (ds_ret (vr 5))))))))))))))))) (dss_one (ds_ret (de_if (DW.dt (dw_and (dt_eq (Rm64 hr) (vr 3) de_int) (dw_and1 (dt_in (Rm65 hr) (vr 2) (de_lst (da_cons (de_str [119, 111, 114, 100] (by kernel_rfl)) (da_cons (de_str [98, 101, 104, 105, 110, 100] (by kernel_rfl)) (da_cons (de_str [100, 111, 110, 101] (by kernel_rfl)) da_nil)))))))) (de_neg de_int) (de_len rfl m.len (vr 0)))))))))), fun ds M Q cl h => ?_⟩
  · obtain ⟨L, rfl, _⟩ := h; rfl
  · obtain ⟨L, rfl, hz, q⟩ := h
    have hzz : L.length ≤ sizeLine := by rw [sizeLine_eq]; omega
    simp only [dVar, dC, dOp, dTest, dTru, dAnd, dOr, dNot, dAndV, dOrV, dNotV, dIfE, dNil, dCons, dStar, dTup, dLst, dLstM, dFrz, dNeg, oEq, oNe, dNoO, dSoO, dSl, dNext, dSeq, dBreak, dCont, dExpr, dRet, dRetN, dIf, gNm, gNl, gCn, gTp, dAsg, dSet, dAug, dIter, dRng1, dRng2, dYes, dCallB, f1, dIsi, dJoinAt, dFmt, dJs, dJoined, dCall, dstart, rget, rset, dwipe, gSb, dApp, dPop, fMax2, fMin2, dNever, dPairs, dDispG, dDisp, dDispM, dNewK, dNewT, keyD, if_true, if_false, decide_eq_true_eq, Bool.false_eq_true, List.map_cons, List.map_nil, List.length_cons, List.length_nil, List.cons_append, List.nil_append, Nat.reduceAdd, Nat.reduceSub, List.reduceReplicate, e_vw_non, e_vw_bl, e_vw_int, e_vw_str, e_vw_scr, e_vw_lst, e_vw_tup, e_vw_dic, e_vw_dit, e_vw_obj, e_vw_ty, e_flat_non, e_isn_non, e_ty_non, e_flat_bl, e_isn_bl, e_ty_bl, e_flat_int, e_isn_int, e_ty_int, e_flat_str, e_isn_str, e_ty_str, e_flat_scr, e_isn_scr, e_ty_scr, e_flat_lst, e_isn_lst, e_ty_lst, e_flat_tup, e_isn_tup, e_ty_tup, e_flat_dic, e_isn_dic, e_ty_dic, e_flat_dit, e_isn_dit, e_flat_obj, e_isn_obj, e_flat_ty, e_isn_ty, e_add_ii, e_add_ss, e_add_ll, e_add_tt, e_iadd_ii, e_iadd_ss, e_sub_ii, e_mul_ii, e_mul_li, e_mul_si, e_fdiv_ii, e_mod_ii, e_pow_ii, e_deq_nn, e_deq_ii, e_deq_ss, e_deq_bb, e_deq_tt, e_deq_ll, e_deq_st, e_deq_ts, e_deql_n, e_deql_c, e_deql_nc, e_deql_cn, e_isN, e_ix_l, e_ix_t, e_ix_c, e_ix_s, e_ix_d, e_ix_dt, e_in_l, e_in_t, e_in_s, e_in_d, e_in_dt, e_sl_l, e_sl_t, e_sl_s, e_len_lst, e_len_tup, e_len_s, e_len_c, e_len_d, e_int_i, e_abs_i, e_str_i, e_tup_l, e_tup_t, e_oLst0_l, e_oLst0_t, e_oLst0M_l, e_oLst0M_t, e_set_l, e_set_d, e_set_t, e_key_i, e_key_s, e_isT_non_bool, e_isT_non_int, e_isT_non_str, e_isT_non_list, e_isT_non_tuple, e_isT_non_dict, e_isT_bool_bool, e_isT_bool_int, e_isT_bool_str, e_isT_bool_list, e_isT_bool_tuple, e_isT_bool_dict, e_isT_int_bool, e_isT_int_int, e_isT_int_str, e_isT_int_list, e_isT_int_tuple, e_isT_int_dict, e_isT_str_bool, e_isT_str_int, e_isT_str_str, e_isT_str_list, e_isT_str_tuple, e_isT_str_dict, e_isT_list_bool, e_isT_list_int, e_isT_list_str, e_isT_list_list, e_isT_list_tuple, e_isT_list_dict, e_isT_tuple_bool, e_isT_tuple_int, e_isT_tuple_str, e_isT_tuple_list, e_isT_tuple_tuple, e_isT_tuple_dict, e_isT_dict_bool, e_isT_dict_int, e_isT_dict_str, e_isT_dict_list, e_isT_dict_tuple, e_isT_dict_dict, e_lt, e_le, e_gt, e_ge ]
    refine gen_nx (t := dFor _ _ _) fun R hR => ?_
    simp only [dFor, dVar, dC, dOp, dTest, dTru, dAnd, dOr, dNot, dAndV, dOrV, dNotV, dIfE, dNil, dCons, dStar, dTup, dLst, dLstM, dFrz, dNeg, oEq, oNe, dNoO, dSoO, dSl, dNext, dSeq, dBreak, dCont, dExpr, dRet, dRetN, dIf, gNm, gNl, gCn, gTp, dAsg, dSet, dAug, dIter, dRng1, dRng2, dYes, dCallB, f1, dIsi, dJoinAt, dFmt, dJs, dJoined, dCall, dstart, rget, rset, dwipe, gSb, dApp, dPop, fMax2, fMin2, dNever, dPairs, dDispG, dDisp, dDispM, dNewK, dNewT, keyD, if_true, if_false, decide_eq_true_eq, Bool.false_eq_true, List.map_cons, List.map_nil, List.length_cons, List.length_nil, List.cons_append, List.nil_append, Nat.reduceAdd, Nat.reduceSub, List.reduceReplicate, e_vw_non, e_vw_bl, e_vw_int, e_vw_str, e_vw_scr, e_vw_lst, e_vw_tup, e_vw_dic, e_vw_dit, e_vw_obj, e_vw_ty, e_flat_non, e_isn_non, e_ty_non, e_flat_bl, e_isn_bl, e_ty_bl, e_flat_int, e_isn_int, e_ty_int, e_flat_str, e_isn_str, e_ty_str, e_flat_scr, e_isn_scr, e_ty_scr, e_flat_lst, e_isn_lst, e_ty_lst, e_flat_tup, e_isn_tup, e_ty_tup, e_flat_dic, e_isn_dic, e_ty_dic, e_flat_dit, e_isn_dit, e_flat_obj, e_isn_obj, e_flat_ty, e_isn_ty, e_add_ii, e_add_ss, e_add_ll, e_add_tt, e_iadd_ii, e_iadd_ss, e_sub_ii, e_mul_ii, e_mul_li, e_mul_si, e_fdiv_ii, e_mod_ii, e_pow_ii, e_deq_nn, e_deq_ii, e_deq_ss, e_deq_bb, e_deq_tt, e_deq_ll, e_deq_st, e_deq_ts, e_deql_n, e_deql_c, e_deql_nc, e_deql_cn, e_isN, e_ix_l, e_ix_t, e_ix_c, e_ix_s, e_ix_d, e_ix_dt, e_in_l, e_in_t, e_in_s, e_in_d, e_in_dt, e_sl_l, e_sl_t, e_sl_s, e_len_lst, e_len_tup, e_len_s, e_len_c, e_len_d, e_int_i, e_abs_i, e_str_i, e_tup_l, e_tup_t, e_oLst0_l, e_oLst0_t, e_oLst0M_l, e_oLst0M_t, e_set_l, e_set_d, e_set_t, e_key_i, e_key_s, e_isT_non_bool, e_isT_non_int, e_isT_non_str, e_isT_non_list, e_isT_non_tuple, e_isT_non_dict, e_isT_bool_bool, e_isT_bool_int, e_isT_bool_str, e_isT_bool_list, e_isT_bool_tuple, e_isT_bool_dict, e_isT_int_bool, e_isT_int_int, e_isT_int_str, e_isT_int_list, e_isT_int_tuple, e_isT_int_dict, e_isT_str_bool, e_isT_str_int, e_isT_str_str, e_isT_str_list, e_isT_str_tuple, e_isT_str_dict, e_isT_list_bool, e_isT_list_int, e_isT_list_str, e_isT_list_list, e_isT_list_tuple, e_isT_list_dict, e_isT_tuple_bool, e_isT_tuple_int, e_isT_tuple_str, e_isT_tuple_list, e_isT_tuple_tuple, e_isT_tuple_dict, e_isT_dict_bool, e_isT_dict_int, e_isT_dict_str, e_isT_dict_list, e_isT_dict_tuple, e_isT_dict_dict, e_lt, e_le, e_gt, e_ge ]
    refine ⟨hzz, by omega, by omega, fun i ρ M' => M' = M ∧ i ≤ L.length ∧ ∃ (s : S5) (d k : Nat) (o1 o2 : Option D), due .term 0 0 L = due s d k (L.drop i) ∧ ρ = [some (.str L), some (.str letters), some (.str (stD s)), some (.int d), some (.int k), o1, o2], ⟨rfl, Nat.zero_le _, .term, 0, 0, none, none, rfl, rfl⟩, ?_, ?_⟩
    · rintro i x ρ M' hi ⟨rfl, _, s, d, k, o1, o2, hdue, rfl⟩
      have hlt := (List.getElem?_eq_some_iff.mp hi).1
      simp only [rngD, List.length_map, List.length_range, Int.toNat_natCast] at hlt
      simp only [rngD, List.getElem?_map, List.getElem?_range (show i < Int.toNat (L.length : Int) by omega), Option.map_some, Option.some.injEq] at hi
      subst hi
      have hc : L[i]? = some L[i] := List.getElem?_eq_getElem hlt
      have hdr : L.drop i = L[i] :: L.drop (i + 1) := List.drop_eq_getElem_cons hlt
      generalize hcc : L[i] = c at hc hdr
      rw [hdr] at hdue
      have kz : 2 ≤ sizeLine ∧ 3 ≤ sizeLine := by rw [sizeLine_eq]; omega
      have rej : step s d k c = none → ∃ M'', DL.Sub M'' M' ∧ Q (.int (0 + (i : Int))) M'' := fun e => ⟨M', cl, by
        have e2 : due .term 0 0 L = some (c :: L.drop (i + 1)) := by rw [hdue]; simp only [due, e]
        have e3 : dueV L = 0 + (i : Int) := by
          unfold dueV; rw [e2]
          simp only [List.length_cons, List.length_drop]; omega
        rw [← e3]; exact q⟩
      have acc : ∀ (s' : S5) (d' k' : Nat), step s d k c = some (s', d', k') → ∀ (dd kk : Int), dd = d' → kk = k' → ∀ ρ : List (Option D), ρ = [some (.str L), some (.str letters), some (.str (stD s')), some (.int dd), some (.int kk), some (.int (0 + (i : Int))), some (.str [c])] →
          (i + 1 ≤ List.length L ∧ ∃ (s : S5) (d k : Nat) (o1 o2 : Option D), due .term 0 0 L = due s d k (L.drop (i + 1)) ∧ ρ = [some (.str L), some (.str letters), some (.str (stD s)), some (.int d), some (.int k), o1, o2]) := by
        rintro s' d' k' e _ _ rfl rfl _ rfl
        exact ⟨hlt, s', d', k', _, _, by rw [hdue]; simp only [due, e], rfl⟩
      have n32 : c = 32 → c ∉ letters ∧ c ∉ chars := fun h => nlet (.inl h)
      have n40 : c = 40 → c ∉ letters ∧ c ∉ chars := fun h => nlet (.inr (.inl h))
      have n41 : c = 41 → c ∉ letters ∧ c ∉ chars := fun h => nlet (.inr (.inr (.inl h)))
      have n44 : c = 44 → c ∉ letters ∧ c ∉ chars := fun h => nlet (.inr (.inr (.inr h)))
      have hlc : c ∈ letters → c ∈ chars := List.mem_append_left _
      have echars : letters ++ [48, 49, 50, 51, 52, 53, 54, 55, 56, 57] = chars := rfl
      simp only [dVar, dC, dOp, dTest, dTru, dAnd, dOr, dNot, dAndV, dOrV, dNotV, dIfE, dNil, dCons, dStar, dTup, dLst, dLstM, dFrz, dNeg, oEq, oNe, dNoO, dSoO, dSl, dNext, dSeq, dBreak, dCont, dExpr, dRet, dRetN, dIf, gNm, gNl, gCn, gTp, dAsg, dSet, dAug, dIter, dRng1, dRng2, dYes, dCallB, f1, dIsi, dJoinAt, dFmt, dJs, dJoined, dCall, dstart, rget, rset, dwipe, gSb, dApp, dPop, fMax2, fMin2, dNever, dPairs, dDispG, dDisp, dDispM, dNewK, dNewT, keyD, if_true, if_false, decide_eq_true_eq, Bool.false_eq_true, List.map_cons, List.map_nil, List.length_cons, List.length_nil, List.cons_append, List.nil_append, Nat.reduceAdd, Nat.reduceSub, List.reduceReplicate, e_vw_non, e_vw_bl, e_vw_int, e_vw_str, e_vw_scr, e_vw_lst, e_vw_tup, e_vw_dic, e_vw_dit, e_vw_obj, e_vw_ty, e_flat_non, e_isn_non, e_ty_non, e_flat_bl, e_isn_bl, e_ty_bl, e_flat_int, e_isn_int, e_ty_int, e_flat_str, e_isn_str, e_ty_str, e_flat_scr, e_isn_scr, e_ty_scr, e_flat_lst, e_isn_lst, e_ty_lst, e_flat_tup, e_isn_tup, e_ty_tup, e_flat_dic, e_isn_dic, e_ty_dic, e_flat_dit, e_isn_dit, e_flat_obj, e_isn_obj, e_flat_ty, e_isn_ty, e_add_ii, e_add_ss, e_add_ll, e_add_tt, e_iadd_ii, e_iadd_ss, e_sub_ii, e_mul_ii, e_mul_li, e_mul_si, e_fdiv_ii, e_mod_ii, e_pow_ii, e_deq_nn, e_deq_ii, e_deq_ss, e_deq_bb, e_deq_tt, e_deq_ll, e_deq_st, e_deq_ts, e_deql_n, e_deql_c, e_deql_nc, e_deql_cn, e_isN, e_ix_l, e_ix_t, e_ix_c, e_ix_s, e_ix_d, e_ix_dt, e_in_l, e_in_t, e_in_s, e_in_d, e_in_dt, e_sl_l, e_sl_t, e_sl_s, e_len_lst, e_len_tup, e_len_s, e_len_c, e_len_d, e_int_i, e_abs_i, e_str_i, e_tup_l, e_tup_t, e_oLst0_l, e_oLst0_t, e_oLst0M_l, e_oLst0M_t, e_set_l, e_set_d, e_set_t, e_key_i, e_key_s, e_isT_non_bool, e_isT_non_int, e_isT_non_str, e_isT_non_list, e_isT_non_tuple, e_isT_non_dict, e_isT_bool_bool, e_isT_bool_int, e_isT_bool_str, e_isT_bool_list, e_isT_bool_tuple, e_isT_bool_dict, e_isT_int_bool, e_isT_int_int, e_isT_int_str, e_isT_int_list, e_isT_int_tuple, e_isT_int_dict, e_isT_str_bool, e_isT_str_int, e_isT_str_str, e_isT_str_list, e_isT_str_tuple, e_isT_str_dict, e_isT_list_bool, e_isT_list_int, e_isT_list_str, e_isT_list_list, e_isT_list_tuple, e_isT_list_dict, e_isT_tuple_bool, e_isT_tuple_int, e_isT_tuple_str, e_isT_tuple_list, e_isT_tuple_tuple, e_isT_tuple_dict, e_isT_dict_bool, e_isT_dict_int, e_isT_dict_str, e_isT_dict_list, e_isT_dict_tuple, e_isT_dict_dict, e_lt, e_le, e_gt, e_ge ]
      refine ⟨hzz, c, atI_n (by simp) hc, kz.1, ?_⟩
      have fls : ∀ b : Bool, (false != b) = b := fun b => by cases b <;> rfl
      simp only [e_deq_ss, e_flat_str, List.any_cons, List.any_nil, List.all_cons, List.all_nil, Bool.and_true, Bool.or_false, true_and, true_or, echars, fls, (eT s).1, (eO s).1, (eW s).1, (eB s).1, (eD s).1, (eT s).2, (eO s).2, (eW s).2, (eB s).2, (eD s).2, eC, Bool.or_eq_true, decide_eq_true_eq, Bool.not_eq_true', decide_eq_false_iff_not, lets_len, kz.1, kz.2, show 26 + 10 ≤ sizeLine by rw [sizeLine_eq]; omega]
      have hd0 : (0 < (d : Int)) = (0 < d) := by simp
      have hk12 : ((k : Int) < 12) = (k < 12) := by apply propext; omega
      simp only [hd0, hk12]
      have hdd : 0 < d ∨ d = 0 := by omega
      by_cases c2 : c ∈ chars
      · have a32 : c ≠ 32 := fun h => (n32 h).2 c2
        have a40 : c ≠ 40 := fun h => (n40 h).2 c2
        have a41 : c ≠ 41 := fun h => (n41 h).2 c2
        have a44 : c ≠ 44 := fun h => (n44 h).2 c2
        by_cases c1 : c ∈ letters <;> by_cases hk : k < 12 <;> cases s <;> (simp only [reduceCtorEq, eq_self, or_false, false_or, or_true, true_or, or_self, not_true, not_false, not_true_eq_false, not_false_eq_true, if_true, if_false, c1, c2, hk, a32, a40, a41, a44]; first
        | exact rej (by simp [step, S5.beg, S5.fin, c1, c2, hk, a32, a40, a41, a44]; done)
        | (refine acc .word d 1 ?_ _ _ ?_ ?_ _ rfl <;> first | omega | (simp [step, S5.beg, S5.fin, c1, c2, hk, a32, a40, a41, a44]; done))
        | (refine acc .word d (k + 1) ?_ _ _ ?_ ?_ _ rfl <;> first | omega | (simp [step, S5.beg, S5.fin, c1, c2, hk, a32, a40, a41, a44]; done))
        | (refine acc .behind d k ?_ _ _ ?_ ?_ _ rfl <;> first | omega | (simp [step, S5.beg, S5.fin, c1, c2, hk, a32, a40, a41, a44]; done))
        | (refine acc .opn (d + 1) k ?_ _ _ ?_ ?_ _ rfl <;> first | omega | (simp [step, S5.beg, S5.fin, c1, c2, hk, a32, a40, a41, a44]; done))
        | (refine acc .done (d - 1) k ?_ _ _ ?_ ?_ _ rfl <;> first | omega | (simp [step, S5.beg, S5.fin, c1, c2, hk, a32, a40, a41, a44]; done))
        | (refine acc .term d k ?_ _ _ ?_ ?_ _ rfl <;> first | omega | (simp [step, S5.beg, S5.fin, c1, c2, hk, a32, a40, a41, a44]; done))
        | (refine acc .opn d k ?_ _ _ ?_ ?_ _ rfl <;> first | omega | (simp [step, S5.beg, S5.fin, c1, c2, hk, a32, a40, a41, a44]; done))
        | (refine acc .done d k ?_ _ _ ?_ ?_ _ rfl <;> first | omega | (simp [step, S5.beg, S5.fin, c1, c2, hk, a32, a40, a41, a44]; done)))
      · have c1 : c ∉ letters := fun h => c2 (hlc h)
        by_cases a32 : c = 32
        · have a40 : c ≠ 40 := by omega
          have a41 : c ≠ 41 := by omega
          have a44 : c ≠ 44 := by omega
          subst a32
          cases s <;> (simp only [reduceCtorEq, eq_self, or_false, false_or, or_true, true_or, or_self, not_true, not_false, not_true_eq_false, not_false_eq_true, if_true, if_false, c1, c2, a40, a41, a44]; first
        | exact rej (by simp [step, S5.beg, S5.fin, c1, c2, a40, a41, a44]; done)
        | (refine acc .word d 1 ?_ _ _ ?_ ?_ _ rfl <;> first | omega | (simp [step, S5.beg, S5.fin, c1, c2, a40, a41, a44]; done))
        | (refine acc .word d (k + 1) ?_ _ _ ?_ ?_ _ rfl <;> first | omega | (simp [step, S5.beg, S5.fin, c1, c2, a40, a41, a44]; done))
        | (refine acc .behind d k ?_ _ _ ?_ ?_ _ rfl <;> first | omega | (simp [step, S5.beg, S5.fin, c1, c2, a40, a41, a44]; done))
        | (refine acc .opn (d + 1) k ?_ _ _ ?_ ?_ _ rfl <;> first | omega | (simp [step, S5.beg, S5.fin, c1, c2, a40, a41, a44]; done))
        | (refine acc .done (d - 1) k ?_ _ _ ?_ ?_ _ rfl <;> first | omega | (simp [step, S5.beg, S5.fin, c1, c2, a40, a41, a44]; done))
        | (refine acc .term d k ?_ _ _ ?_ ?_ _ rfl <;> first | omega | (simp [step, S5.beg, S5.fin, c1, c2, a40, a41, a44]; done))
        | (refine acc .opn d k ?_ _ _ ?_ ?_ _ rfl <;> first | omega | (simp [step, S5.beg, S5.fin, c1, c2, a40, a41, a44]; done))
        | (refine acc .done d k ?_ _ _ ?_ ?_ _ rfl <;> first | omega | (simp [step, S5.beg, S5.fin, c1, c2, a40, a41, a44]; done)))
        · by_cases a40 : c = 40
          · have a41 : c ≠ 41 := by omega
            have a44 : c ≠ 44 := by omega
            subst a40
            cases s <;> (simp only [reduceCtorEq, eq_self, or_false, false_or, or_true, true_or, or_self, not_true, not_false, not_true_eq_false, not_false_eq_true, if_true, if_false, c1, c2, a32, a41, a44]; first
        | exact rej (by simp [step, S5.beg, S5.fin, c1, c2, a32, a41, a44]; done)
        | (refine acc .word d 1 ?_ _ _ ?_ ?_ _ rfl <;> first | omega | (simp [step, S5.beg, S5.fin, c1, c2, a32, a41, a44]; done))
        | (refine acc .word d (k + 1) ?_ _ _ ?_ ?_ _ rfl <;> first | omega | (simp [step, S5.beg, S5.fin, c1, c2, a32, a41, a44]; done))
        | (refine acc .behind d k ?_ _ _ ?_ ?_ _ rfl <;> first | omega | (simp [step, S5.beg, S5.fin, c1, c2, a32, a41, a44]; done))
        | (refine acc .opn (d + 1) k ?_ _ _ ?_ ?_ _ rfl <;> first | omega | (simp [step, S5.beg, S5.fin, c1, c2, a32, a41, a44]; done))
        | (refine acc .done (d - 1) k ?_ _ _ ?_ ?_ _ rfl <;> first | omega | (simp [step, S5.beg, S5.fin, c1, c2, a32, a41, a44]; done))
        | (refine acc .term d k ?_ _ _ ?_ ?_ _ rfl <;> first | omega | (simp [step, S5.beg, S5.fin, c1, c2, a32, a41, a44]; done))
        | (refine acc .opn d k ?_ _ _ ?_ ?_ _ rfl <;> first | omega | (simp [step, S5.beg, S5.fin, c1, c2, a32, a41, a44]; done))
        | (refine acc .done d k ?_ _ _ ?_ ?_ _ rfl <;> first | omega | (simp [step, S5.beg, S5.fin, c1, c2, a32, a41, a44]; done)))
          · by_cases a41 : c = 41
            · have a44 : c ≠ 44 := by omega
              subst a41
              by_cases hdp : 0 < d <;> cases s <;> (simp only [reduceCtorEq, eq_self, or_false, false_or, or_true, true_or, or_self, not_true, not_false, not_true_eq_false, not_false_eq_true, if_true, if_false, c1, c2, hdp, a32, a40, a44]; first
        | exact rej (by simp [step, S5.beg, S5.fin, c1, c2, hdp, a32, a40, a44]; done)
        | (refine acc .word d 1 ?_ _ _ ?_ ?_ _ rfl <;> first | omega | (simp [step, S5.beg, S5.fin, c1, c2, hdp, a32, a40, a44]; done))
        | (refine acc .word d (k + 1) ?_ _ _ ?_ ?_ _ rfl <;> first | omega | (simp [step, S5.beg, S5.fin, c1, c2, hdp, a32, a40, a44]; done))
        | (refine acc .behind d k ?_ _ _ ?_ ?_ _ rfl <;> first | omega | (simp [step, S5.beg, S5.fin, c1, c2, hdp, a32, a40, a44]; done))
        | (refine acc .opn (d + 1) k ?_ _ _ ?_ ?_ _ rfl <;> first | omega | (simp [step, S5.beg, S5.fin, c1, c2, hdp, a32, a40, a44]; done))
        | (refine acc .done (d - 1) k ?_ _ _ ?_ ?_ _ rfl <;> first | omega | (simp [step, S5.beg, S5.fin, c1, c2, hdp, a32, a40, a44]; done))
        | (refine acc .term d k ?_ _ _ ?_ ?_ _ rfl <;> first | omega | (simp [step, S5.beg, S5.fin, c1, c2, hdp, a32, a40, a44]; done))
        | (refine acc .opn d k ?_ _ _ ?_ ?_ _ rfl <;> first | omega | (simp [step, S5.beg, S5.fin, c1, c2, hdp, a32, a40, a44]; done))
        | (refine acc .done d k ?_ _ _ ?_ ?_ _ rfl <;> first | omega | (simp [step, S5.beg, S5.fin, c1, c2, hdp, a32, a40, a44]; done)))
            · by_cases a44 : c = 44
              · subst a44
                by_cases hdp : 0 < d <;> cases s <;> (simp only [reduceCtorEq, eq_self, or_false, false_or, or_true, true_or, or_self, not_true, not_false, not_true_eq_false, not_false_eq_true, if_true, if_false, c1, c2, hdp, a32, a40, a41]; first
        | exact rej (by simp [step, S5.beg, S5.fin, c1, c2, hdp, a32, a40, a41]; done)
        | (refine acc .word d 1 ?_ _ _ ?_ ?_ _ rfl <;> first | omega | (simp [step, S5.beg, S5.fin, c1, c2, hdp, a32, a40, a41]; done))
        | (refine acc .word d (k + 1) ?_ _ _ ?_ ?_ _ rfl <;> first | omega | (simp [step, S5.beg, S5.fin, c1, c2, hdp, a32, a40, a41]; done))
        | (refine acc .behind d k ?_ _ _ ?_ ?_ _ rfl <;> first | omega | (simp [step, S5.beg, S5.fin, c1, c2, hdp, a32, a40, a41]; done))
        | (refine acc .opn (d + 1) k ?_ _ _ ?_ ?_ _ rfl <;> first | omega | (simp [step, S5.beg, S5.fin, c1, c2, hdp, a32, a40, a41]; done))
        | (refine acc .done (d - 1) k ?_ _ _ ?_ ?_ _ rfl <;> first | omega | (simp [step, S5.beg, S5.fin, c1, c2, hdp, a32, a40, a41]; done))
        | (refine acc .term d k ?_ _ _ ?_ ?_ _ rfl <;> first | omega | (simp [step, S5.beg, S5.fin, c1, c2, hdp, a32, a40, a41]; done))
        | (refine acc .opn d k ?_ _ _ ?_ ?_ _ rfl <;> first | omega | (simp [step, S5.beg, S5.fin, c1, c2, hdp, a32, a40, a41]; done))
        | (refine acc .done d k ?_ _ _ ?_ ?_ _ rfl <;> first | omega | (simp [step, S5.beg, S5.fin, c1, c2, hdp, a32, a40, a41]; done)))
              · by_cases hdp : 0 < d <;> cases s <;> (simp only [reduceCtorEq, eq_self, or_false, false_or, or_true, true_or, or_self, not_true, not_false, not_true_eq_false, not_false_eq_true, if_true, if_false, c1, c2, hdp, a32, a40, a41, a44]; first
        | exact rej (by simp [step, S5.beg, S5.fin, c1, c2, hdp, a32, a40, a41, a44]; done)
        | (refine acc .word d 1 ?_ _ _ ?_ ?_ _ rfl <;> first | omega | (simp [step, S5.beg, S5.fin, c1, c2, hdp, a32, a40, a41, a44]; done))
        | (refine acc .word d (k + 1) ?_ _ _ ?_ ?_ _ rfl <;> first | omega | (simp [step, S5.beg, S5.fin, c1, c2, hdp, a32, a40, a41, a44]; done))
        | (refine acc .behind d k ?_ _ _ ?_ ?_ _ rfl <;> first | omega | (simp [step, S5.beg, S5.fin, c1, c2, hdp, a32, a40, a41, a44]; done))
        | (refine acc .opn (d + 1) k ?_ _ _ ?_ ?_ _ rfl <;> first | omega | (simp [step, S5.beg, S5.fin, c1, c2, hdp, a32, a40, a41, a44]; done))
        | (refine acc .done (d - 1) k ?_ _ _ ?_ ?_ _ rfl <;> first | omega | (simp [step, S5.beg, S5.fin, c1, c2, hdp, a32, a40, a41, a44]; done))
        | (refine acc .term d k ?_ _ _ ?_ ?_ _ rfl <;> first | omega | (simp [step, S5.beg, S5.fin, c1, c2, hdp, a32, a40, a41, a44]; done))
        | (refine acc .opn d k ?_ _ _ ?_ ?_ _ rfl <;> first | omega | (simp [step, S5.beg, S5.fin, c1, c2, hdp, a32, a40, a41, a44]; done))
        | (refine acc .done d k ?_ _ _ ?_ ?_ _ rfl <;> first | omega | (simp [step, S5.beg, S5.fin, c1, c2, hdp, a32, a40, a41, a44]; done)))
    · rintro ρ M' ⟨rfl, _, s, d, k, o1, o2, hdue, rfl⟩
      refine hR _ _ ?_
      have e : (rngD 0 (Int.toNat (L.length : Int))).length = L.length := by simp [rngD]
      rw [e, List.drop_length] at hdue
      simp only [dVar, dC, dOp, dTest, dTru, dAnd, dOr, dNot, dAndV, dOrV, dNotV, dIfE, dNil, dCons, dStar, dTup, dLst, dLstM, dFrz, dNeg, oEq, oNe, dNoO, dSoO, dSl, dNext, dSeq, dBreak, dCont, dExpr, dRet, dRetN, dIf, gNm, gNl, gCn, gTp, dAsg, dSet, dAug, dIter, dRng1, dRng2, dYes, dCallB, f1, dIsi, dJoinAt, dFmt, dJs, dJoined, dCall, dstart, rget, rset, dwipe, gSb, dApp, dPop, fMax2, fMin2, dNever, dPairs, dDispG, dDisp, dDispM, dNewK, dNewT, keyD, if_true, if_false, decide_eq_true_eq, Bool.false_eq_true, List.map_cons, List.map_nil, List.length_cons, List.length_nil, List.cons_append, List.nil_append, Nat.reduceAdd, Nat.reduceSub, List.reduceReplicate, e_vw_non, e_vw_bl, e_vw_int, e_vw_str, e_vw_scr, e_vw_lst, e_vw_tup, e_vw_dic, e_vw_dit, e_vw_obj, e_vw_ty, e_flat_non, e_isn_non, e_ty_non, e_flat_bl, e_isn_bl, e_ty_bl, e_flat_int, e_isn_int, e_ty_int, e_flat_str, e_isn_str, e_ty_str, e_flat_scr, e_isn_scr, e_ty_scr, e_flat_lst, e_isn_lst, e_ty_lst, e_flat_tup, e_isn_tup, e_ty_tup, e_flat_dic, e_isn_dic, e_ty_dic, e_flat_dit, e_isn_dit, e_flat_obj, e_isn_obj, e_flat_ty, e_isn_ty, e_add_ii, e_add_ss, e_add_ll, e_add_tt, e_iadd_ii, e_iadd_ss, e_sub_ii, e_mul_ii, e_mul_li, e_mul_si, e_fdiv_ii, e_mod_ii, e_pow_ii, e_deq_nn, e_deq_ii, e_deq_ss, e_deq_bb, e_deq_tt, e_deq_ll, e_deq_st, e_deq_ts, e_deql_n, e_deql_c, e_deql_nc, e_deql_cn, e_isN, e_ix_l, e_ix_t, e_ix_c, e_ix_s, e_ix_d, e_ix_dt, e_in_l, e_in_t, e_in_s, e_in_d, e_in_dt, e_sl_l, e_sl_t, e_sl_s, e_len_lst, e_len_tup, e_len_s, e_len_c, e_len_d, e_int_i, e_abs_i, e_str_i, e_tup_l, e_tup_t, e_oLst0_l, e_oLst0_t, e_oLst0M_l, e_oLst0M_t, e_set_l, e_set_d, e_set_t, e_key_i, e_key_s, e_isT_non_bool, e_isT_non_int, e_isT_non_str, e_isT_non_list, e_isT_non_tuple, e_isT_non_dict, e_isT_bool_bool, e_isT_bool_int, e_isT_bool_str, e_isT_bool_list, e_isT_bool_tuple, e_isT_bool_dict, e_isT_int_bool, e_isT_int_int, e_isT_int_str, e_isT_int_list, e_isT_int_tuple, e_isT_int_dict, e_isT_str_bool, e_isT_str_int, e_isT_str_str, e_isT_str_list, e_isT_str_tuple, e_isT_str_dict, e_isT_list_bool, e_isT_list_int, e_isT_list_str, e_isT_list_list, e_isT_list_tuple, e_isT_list_dict, e_isT_tuple_bool, e_isT_tuple_int, e_isT_tuple_str, e_isT_tuple_list, e_isT_tuple_tuple, e_isT_tuple_dict, e_isT_dict_bool, e_isT_dict_int, e_isT_dict_str, e_isT_dict_list, e_isT_dict_tuple, e_isT_dict_dict, e_lt, e_le, e_gt, e_ge ]
      have kz : 2 ≤ sizeLine ∧ 3 ≤ sizeLine := by rw [sizeLine_eq]; omega
      have fls : ∀ b : Bool, (false != b) = b := fun b => by cases b <;> rfl
      simp only [e_deq_ss, e_flat_str, List.any_cons, List.any_nil, List.all_cons, List.all_nil, Bool.and_true, Bool.or_false, true_and, true_or, fls, (eW s).2, (eB s).2, (eD s).2, Bool.or_eq_true, decide_eq_true_eq, kz.1, kz.2]
      have eb : (((d : Int) == 0) = true) = (d = 0) := by apply propext; rw [beq_iff_eq]; omega
      simp only [eb]
      have hd : due s d k [] = if d = 0 ∧ s.fin = true then none else some [] := by cases s <;> rfl
      have q1 : d = 0 ∧ s.fin = true → ∃ M'', DL.Sub M'' M' ∧ Q (.int (-1)) M'' := fun h => ⟨M', cl, by
        have e3 : dueV L = -1 := by unfold dueV; rw [hdue, hd, if_pos h]
        rw [← e3]; exact q⟩
      have q2 : ¬ (d = 0 ∧ s.fin = true) → List.length L ≤ sizeLine ∧ ∃ M'', DL.Sub M'' M' ∧ Q (.int (List.length L : Int)) M'' := fun h => ⟨hzz, M', cl, by
        have e3 : dueV L = (List.length L : Int) := by unfold dueV; rw [hdue, hd, if_neg h]; simp
        rw [← e3]; exact q⟩
      by_cases h0 : d = 0
      · rw [if_pos h0]
        cases s <;> simp only [reduceCtorEq, eq_self, or_false, false_or, or_true, true_or, or_self, if_true, if_false] <;> first | exact q1 ⟨h0, rfl⟩ | exact q2 fun h => by cases h.2
      · rw [if_neg h0]
        exact q2 fun h => h0 h.1
end
end K14


set_option Elab.async false
set_option linter.all false
set_option maxRecDepth 100000
set_option maxHeartbeats 400000
namespace K14
open PySem PySem.Spec PyProof.Rows L2 DL
section
variable {P : Program} {w : World} {K : PySem.W.Frag} {mg : Str → Option Value} {base : Heap}
/-- _law_said -/
def saidV (n : Nat) (L : Cd) : Int := match rd n L with
  | .ok _ _ => -1
  | .bad r => (L.length : Int) - r.length
theorem saidV_eq {n : Nat} {L : Cd} (h : pc L ≤ n) : saidV n L = dueV L := by
  obtain ⟨h1, h2⟩ := rd_due h
  unfold saidV dueV
  cases e : rd n L with
  | ok t r => rw [h1 t r e]
  | bad r => rw [h2 r e]
structure XInf (K : PySem.W.Frag) (mg : Str → Option Value) (x : Str) (cB : Addr) (f : Str) : Prop where
  mg : mg x = some (.ref cB)
  self : PySem.W.exmOne K (.ref cB) (.ref cB) = some true
  xf : XfC K cB
  fi : PySem.W.findIn K (.ref cB) f = some none
def sdS (n : Nat) : DSp := fun ds M Q _ => ∃ L : Cd, ds = [.str L] ∧ L.length ≤ 400000 ∧ pc L ≤ n ∧ Q (.int (saidV n L)) M
theorem ok_sd {cB : Addr} (m : Mg mg) {f : Addr} {fd : FuncData} (n : Nat) (I : XInf K mg "BadText" cB "place") (F_read_term : Fn P w K mg base (n + 5) "read_term" ["text"] (rtS cB n)) (Fd : FunT K "_law_said" s__law_said f fd) (h : mg "_law_said" = some (.ref f)) :
    Fn P w K mg base (n + 6) "_law_said" ["text"] (sdS n) := by
  have M_BadText := I.mg
  refine ⟨f, fd, ?_, h, Fd.kp, Fd.bindsN fun _ _ _ _ _ _ us hl => match us, hl with | [_], _ => rfl⟩
  refine dfn Fd sc__law_said (fun ds M Q E h => ?_) fun cdv A outer s H E Ed hr => ⟨_, (dss_cons (sSet 1 sc__law_said.nd (de_neg de_int)) (dss_cons (ds_tryAs (i := 2) rfl rfl sc__law_said.nd rfl rfl ⟨rfl, by decide, .inl M_BadText⟩ (takes_of rfl rfl rfl rfl) (fun W Ee' pn xe tk po => (dss_one (ds_expr (cF F_read_term hr (by omega) rfl (fun σ => passAt tk σ) (da_cons (vr 0) da_nil))))) (fun a C oe d xs ds F pn hz hd rf im => (dss_one (sSet 1 sc__law_said.nd (de_xf hz hd rf im (vr 2)))))) (dss_one (ds_ret (vr 1))))), fun ds M Q cl h => ?_⟩
  · obtain ⟨L, rfl, _⟩ := h; rfl
  · obtain ⟨L, rfl, hz, hp, q⟩ := h
    simp only [dTryAs, dXf, dRaise, dX1, dVar, dC, dOp, dTest, dTru, dAnd, dOr, dNot, dAndV, dOrV, dNotV, dIfE, dNil, dCons, dStar, dTup, dLst, dLstM, dFrz, dNeg, oEq, oNe, dNoO, dSoO, dSl, dNext, dSeq, dBreak, dCont, dExpr, dRet, dRetN, dIf, gNm, gNl, gCn, gTp, dAsg, dSet, dAug, dIter, dRng1, dRng2, dYes, dCallB, f1, dIsi, dJoinAt, dFmt, dJs, dJoined, dCall, dstart, rget, rset, dwipe, gSb, dApp, dPop, fMax2, fMin2, dNever, dPairs, dDispG, dDisp, dDispM, dNewK, dNewT, keyD, if_true, if_false, decide_eq_true_eq, Bool.false_eq_true, List.map_cons, List.map_nil, List.length_cons, List.length_nil, List.cons_append, List.nil_append, Nat.reduceAdd, Nat.reduceSub, List.reduceReplicate, e_vw_non, e_vw_bl, e_vw_int, e_vw_str, e_vw_scr, e_vw_lst, e_vw_tup, e_vw_dic, e_vw_dit, e_vw_obj, e_vw_ty, e_flat_non, e_isn_non, e_ty_non, e_flat_bl, e_isn_bl, e_ty_bl, e_flat_int, e_isn_int, e_ty_int, e_flat_str, e_isn_str, e_ty_str, e_flat_scr, e_isn_scr, e_ty_scr, e_flat_lst, e_isn_lst, e_ty_lst, e_flat_tup, e_isn_tup, e_ty_tup, e_flat_dic, e_isn_dic, e_ty_dic, e_flat_dit, e_isn_dit, e_flat_obj, e_isn_obj, e_flat_ty, e_isn_ty, e_add_ii, e_add_ss, e_add_ll, e_add_tt, e_iadd_ii, e_iadd_ss, e_sub_ii, e_mul_ii, e_mul_li, e_mul_si, e_fdiv_ii, e_mod_ii, e_pow_ii, e_deq_nn, e_deq_ii, e_deq_ss, e_deq_bb, e_deq_tt, e_deq_ll, e_deq_st, e_deq_ts, e_deql_n, e_deql_c, e_deql_nc, e_deql_cn, e_isN, e_ix_l, e_ix_t, e_ix_c, e_ix_s, e_ix_d, e_ix_dt, e_in_l, e_in_t, e_in_s, e_in_d, e_in_dt, e_sl_l, e_sl_t, e_sl_s, e_len_lst, e_len_tup, e_len_s, e_len_c, e_len_d, e_int_i, e_abs_i, e_str_i, e_tup_l, e_tup_t, e_oLst0_l, e_oLst0_t, e_oLst0M_l, e_oLst0M_t, e_set_l, e_set_d, e_set_t, e_key_i, e_key_s, e_isT_non_bool, e_isT_non_int, e_isT_non_str, e_isT_non_list, e_isT_non_tuple, e_isT_non_dict, e_isT_bool_bool, e_isT_bool_int, e_isT_bool_str, e_isT_bool_list, e_isT_bool_tuple, e_isT_bool_dict, e_isT_int_bool, e_isT_int_int, e_isT_int_str, e_isT_int_list, e_isT_int_tuple, e_isT_int_dict, e_isT_str_bool, e_isT_str_int, e_isT_str_str, e_isT_str_list, e_isT_str_tuple, e_isT_str_dict, e_isT_list_bool, e_isT_list_int, e_isT_list_str, e_isT_list_list, e_isT_list_tuple, e_isT_list_dict, e_isT_tuple_bool, e_isT_tuple_int, e_isT_tuple_str, e_isT_tuple_list, e_isT_tuple_tuple, e_isT_tuple_dict, e_isT_dict_bool, e_isT_dict_int, e_isT_dict_str, e_isT_dict_list, e_isT_dict_tuple, e_isT_dict_dict, e_lt, e_le, e_gt, e_ge ]
    refine ⟨L, rfl, hz, hp, fun t r e => ⟨M, cl, ?_⟩, fun r e => ?_⟩
    · have e1 : saidV n L = -1 := by simp only [saidV, e]
      rwa [e1] at q
    · have e1 : saidV n L = (L.length : Int) - r.length := by simp only [saidV, e]
      rw [e1] at q
      refine ⟨true, I.self, fun _ => ⟨fun z hz => by rcases List.mem_singleton.mp hz with rfl; rfl, fun a ha => ⟨trivial, ⟨I.xf, I.fi⟩, _, rfl, M, cl, q⟩⟩, fun h => nomatch h⟩
theorem join_b {b : Cd} {ts : List Cd} {B C : Nat} (h3 : ts.length ≤ 3) (hl : ∀ t ∈ ts, t.length ≤ B) (hp : ∀ t ∈ ts, pc t ≤ C) (bl : b.length ≤ 1) (bp : pc b = 0) :
    ((joinD (44 :: 32 :: b) ts).length ≤ 3 * B + 6 ∧ sumL ts ≤ 3 * B) ∧ pc (joinD (44 :: 32 :: b) ts) ≤ 3 * C := by
  have ps : pc (44 :: 32 :: b) = 0 := by rw [show (44 :: 32 :: b : Cd) = [44, 32] ++ b from rfl, pc_app, bp]; decide
  have ls : (44 :: 32 :: b : Cd).length ≤ 3 := by simp only [List.length_cons]; omega
  generalize (44 :: 32 :: b : Cd) = s at ps ls
  match ts, h3 with
  | [], _ => simp [joinD, sumL, pc]
  | [x], _ =>
    have := hl x (by simp)
    have := hp x (by simp)
    simp only [joinD, sumL]; omega
  | [x, y], _ =>
    have := hl x (by simp)
    have := hp x (by simp)
    have := hl y (by simp)
    have := hp y (by simp)
    simp only [joinD_cons, joinD, sumL, List.length_append, pc_app, ps]; omega
  | [x, y, z], _ =>
    have := hl x (by simp)
    have := hp x (by simp)
    have := hl y (by simp)
    have := hp y (by simp)
    have := hl z (by simp)
    have := hp z (by simp)
    simp only [joinD_cons, joinD, sumL, List.length_append, pc_app, ps]; omega
  | _ :: _ :: _ :: _ :: _, h => simp at h
/-- _law_text -/
def Ln : Nat → Nat
  | 0 => 12
  | n + 1 => 24 + 3 * Ln n
def Pn : Nat → Nat
  | 0 => 0
  | n + 1 => 1 + 3 * Pn n
def txS (n : Nat) : DSp := fun ds M Q _ => ∃ (p c : Addr) (d : Nat), ds = [.ref p, .int d] ∧ d ≤ n ∧ n ≤ 3 ∧ M p = some (.src c) ∧ ∀ x : Cd, x.length ≤ Ln d → pc x ≤ Pn d → Q (.str x) M
theorem ok_tx (m : Mg mg) {f : Addr} {fd : FuncData} (F__law_pick : Fn P w K mg base 1 "_law_pick" ["source", "many"] pkS) (Fd : FunT K "_law_text" s__law_text f fd) (h : mg "_law_text" = some (.ref f)) : ∀ n, Fn P w K mg base (n + 1 + 1) "_law_text" ["source", "deep"] (txS n) := by
  refine fn_rec (c := 1) h Fd.kp (Fd.bindsN fun _ _ _ _ _ _ us hl => match us, hl with | [_, _], _ => rfl) fun n F__law_text => ?_
  refine dfn Fd sc__law_text (fun ds M Q E h => ?_) fun cdv A outer s H E Ed hr => ⟨_, (dss_cons (sSet 2 sc__law_text.nd (de_str [97, 98, 99, 100, 101, 102, 103, 104, 105, 106, 107, 108, 109, 110, 111, 112, 113, 114, 115, 116, 117, 118, 119, 120, 121, 122, 48, 49, 50, 51, 52, 53, 54, 55, 56, 57] (by kernel_rfl))) (dss_cons (sSet 3 sc__law_text.nd (de_ix (Rm1 hr) (vr 2) (cF F__law_pick hr (by omega) rfl (fun σ => passAt (takes_of rfl rfl rfl rfl) σ) (da_cons (vr 0) (da_cons de_int da_nil))))) (dss_cons (dFor1 (passes_of rfl) (di_range1 rfl m.range (de_ix (Rm1 hr) (de_lst (da_cons de_int (da_cons de_int (da_cons de_int da_nil)))) (cF F__law_pick hr (by omega) rfl (fun σ => passAt (takes_of rfl rfl rfl rfl) σ) (da_cons (vr 0) (da_cons de_int da_nil))))) (gN 4 sc__law_text.nd) (dss_one (sSet 3 sc__law_text.nd (de_add (vr 3) (de_ix (Rm1 hr) (vr 2) (cF F__law_pick hr (by omega) rfl (fun σ => passAt (takes_of rfl rfl rfl rfl) σ) (da_cons (vr 0) (da_cons de_int da_nil)))))))) (dss_cons (ds_if (DW.dt (dw_or (dt_eq (Rm64 hr) (vr 1) de_int) (dw_or1 (dt_eq (Rm64 hr) (cF F__law_pick hr (by omega) rfl (fun σ => passAt (takes_of rfl rfl rfl rfl) σ) (da_cons (vr 0) (da_cons de_int da_nil))) de_int)))) (dss_one (ds_ret (vr 3))) dss_nil) (dss_cons (ds_setLc (i := 5) rfl sc__law_text.nd rfl rfl (sw_true rfl rfl rfl (by decide +kernel)) (di_range1 rfl m.range (cF F__law_pick hr (by omega) rfl (fun σ => passAt (takes_of rfl rfl rfl rfl) σ) (da_cons (vr 0) (da_cons de_int da_nil)))) (blkOk_by (own := [("k", 4)]) (N := ["source", "deep", "signs", "word", "k", "parts", "blank"]) (sc := defScope s__law_text) (by decide +kernel)) (fun _ _ _ _ _ => (gN 4 sc__law_text.nd)) (fun _ _ _ _ _ => dts_nil) (fun _ _ _ _ _ => (cF F__law_text hr (by omega) rfl no_pass (da_cons (vr 0) (da_cons (de_sub (vr 1) de_int) da_nil)))) (by decide)) (dss_cons (sSet 6 sc__law_text.nd (de_mul (de_str [32] (by kernel_rfl)) (cF F__law_pick hr (by omega) rfl (fun σ => passAt (takes_of rfl rfl rfl rfl) σ) (da_cons (vr 0) (da_cons de_int da_nil))))) (dss_one (ds_ret (de_add (de_add (de_add (de_add (de_add (vr 3) (vr 6)) (de_str [40] (by kernel_rfl))) (de_joinE (de_add (de_str [44, 32] (by kernel_rfl)) (vr 6)) (vr 5))) (de_str [41] (by kernel_rfl))) (vr 6)))))))))), fun ds M Q cl h => ?_⟩
  · obtain ⟨p, c, d, rfl, _⟩ := h; rfl
  · obtain ⟨p, c, d, rfl, hd, hn3, hp, q⟩ := h
    simp only [dVar, dC, dOp, dTest, dTru, dAnd, dOr, dNot, dAndV, dOrV, dNotV, dIfE, dNil, dCons, dStar, dTup, dLst, dLstM, dFrz, dNeg, oEq, oNe, dNoO, dSoO, dSl, dNext, dSeq, dBreak, dCont, dExpr, dRet, dRetN, dIf, gNm, gNl, gCn, gTp, dAsg, dSet, dAug, dIter, dRng1, dRng2, dYes, dCallB, f1, dIsi, dJoinAt, dFmt, dJs, dJoined, dCall, dstart, rget, rset, dwipe, gSb, dApp, dPop, fMax2, fMin2, dNever, dPairs, dDispG, dDisp, dDispM, dNewK, dNewT, keyD, if_true, if_false, decide_eq_true_eq, Bool.false_eq_true, List.map_cons, List.map_nil, List.length_cons, List.length_nil, List.cons_append, List.nil_append, Nat.reduceAdd, Nat.reduceSub, List.reduceReplicate, e_vw_non, e_vw_bl, e_vw_int, e_vw_str, e_vw_scr, e_vw_lst, e_vw_tup, e_vw_dic, e_vw_dit, e_vw_obj, e_vw_ty, e_flat_non, e_isn_non, e_ty_non, e_flat_bl, e_isn_bl, e_ty_bl, e_flat_int, e_isn_int, e_ty_int, e_flat_str, e_isn_str, e_ty_str, e_flat_scr, e_isn_scr, e_ty_scr, e_flat_lst, e_isn_lst, e_ty_lst, e_flat_tup, e_isn_tup, e_ty_tup, e_flat_dic, e_isn_dic, e_ty_dic, e_flat_dit, e_isn_dit, e_flat_obj, e_isn_obj, e_flat_ty, e_isn_ty, e_add_ii, e_add_ss, e_add_ll, e_add_tt, e_iadd_ii, e_iadd_ss, e_sub_ii, e_mul_ii, e_mul_li, e_mul_si, e_fdiv_ii, e_mod_ii, e_pow_ii, e_deq_nn, e_deq_ii, e_deq_ss, e_deq_bb, e_deq_tt, e_deq_ll, e_deq_st, e_deq_ts, e_deql_n, e_deql_c, e_deql_nc, e_deql_cn, e_isN, e_ix_l, e_ix_t, e_ix_c, e_ix_s, e_ix_d, e_ix_dt, e_in_l, e_in_t, e_in_s, e_in_d, e_in_dt, e_sl_l, e_sl_t, e_sl_s, e_len_lst, e_len_tup, e_len_s, e_len_c, e_len_d, e_int_i, e_abs_i, e_str_i, e_tup_l, e_tup_t, e_oLst0_l, e_oLst0_t, e_oLst0M_l, e_oLst0M_t, e_set_l, e_set_d, e_set_t, e_key_i, e_key_s, e_isT_non_bool, e_isT_non_int, e_isT_non_str, e_isT_non_list, e_isT_non_tuple, e_isT_non_dict, e_isT_bool_bool, e_isT_bool_int, e_isT_bool_str, e_isT_bool_list, e_isT_bool_tuple, e_isT_bool_dict, e_isT_int_bool, e_isT_int_int, e_isT_int_str, e_isT_int_list, e_isT_int_tuple, e_isT_int_dict, e_isT_str_bool, e_isT_str_int, e_isT_str_str, e_isT_str_list, e_isT_str_tuple, e_isT_str_dict, e_isT_list_bool, e_isT_list_int, e_isT_list_str, e_isT_list_list, e_isT_list_tuple, e_isT_list_dict, e_isT_tuple_bool, e_isT_tuple_int, e_isT_tuple_str, e_isT_tuple_list, e_isT_tuple_tuple, e_isT_tuple_dict, e_isT_dict_bool, e_isT_dict_int, e_isT_dict_str, e_isT_dict_list, e_isT_dict_tuple, e_isT_dict_dict, e_lt, e_le, e_gt, e_ge ]
    refine ⟨p, c, 26, rfl, hp, by decide, fun k hk => ?_⟩
    simp only [dVar, dC, dOp, dTest, dTru, dAnd, dOr, dNot, dAndV, dOrV, dNotV, dIfE, dNil, dCons, dStar, dTup, dLst, dLstM, dFrz, dNeg, oEq, oNe, dNoO, dSoO, dSl, dNext, dSeq, dBreak, dCont, dExpr, dRet, dRetN, dIf, gNm, gNl, gCn, gTp, dAsg, dSet, dAug, dIter, dRng1, dRng2, dYes, dCallB, f1, dIsi, dJoinAt, dFmt, dJs, dJoined, dCall, dstart, rget, rset, dwipe, gSb, dApp, dPop, fMax2, fMin2, dNever, dPairs, dDispG, dDisp, dDispM, dNewK, dNewT, keyD, if_true, if_false, decide_eq_true_eq, Bool.false_eq_true, List.map_cons, List.map_nil, List.length_cons, List.length_nil, List.cons_append, List.nil_append, Nat.reduceAdd, Nat.reduceSub, List.reduceReplicate, e_vw_non, e_vw_bl, e_vw_int, e_vw_str, e_vw_scr, e_vw_lst, e_vw_tup, e_vw_dic, e_vw_dit, e_vw_obj, e_vw_ty, e_flat_non, e_isn_non, e_ty_non, e_flat_bl, e_isn_bl, e_ty_bl, e_flat_int, e_isn_int, e_ty_int, e_flat_str, e_isn_str, e_ty_str, e_flat_scr, e_isn_scr, e_ty_scr, e_flat_lst, e_isn_lst, e_ty_lst, e_flat_tup, e_isn_tup, e_ty_tup, e_flat_dic, e_isn_dic, e_ty_dic, e_flat_dit, e_isn_dit, e_flat_obj, e_isn_obj, e_flat_ty, e_isn_ty, e_add_ii, e_add_ss, e_add_ll, e_add_tt, e_iadd_ii, e_iadd_ss, e_sub_ii, e_mul_ii, e_mul_li, e_mul_si, e_fdiv_ii, e_mod_ii, e_pow_ii, e_deq_nn, e_deq_ii, e_deq_ss, e_deq_bb, e_deq_tt, e_deq_ll, e_deq_st, e_deq_ts, e_deql_n, e_deql_c, e_deql_nc, e_deql_cn, e_isN, e_ix_l, e_ix_t, e_ix_c, e_ix_s, e_ix_d, e_ix_dt, e_in_l, e_in_t, e_in_s, e_in_d, e_in_dt, e_sl_l, e_sl_t, e_sl_s, e_len_lst, e_len_tup, e_len_s, e_len_c, e_len_d, e_int_i, e_abs_i, e_str_i, e_tup_l, e_tup_t, e_oLst0_l, e_oLst0_t, e_oLst0M_l, e_oLst0M_t, e_set_l, e_set_d, e_set_t, e_key_i, e_key_s, e_isT_non_bool, e_isT_non_int, e_isT_non_str, e_isT_non_list, e_isT_non_tuple, e_isT_non_dict, e_isT_bool_bool, e_isT_bool_int, e_isT_bool_str, e_isT_bool_list, e_isT_bool_tuple, e_isT_bool_dict, e_isT_int_bool, e_isT_int_int, e_isT_int_str, e_isT_int_list, e_isT_int_tuple, e_isT_int_dict, e_isT_str_bool, e_isT_str_int, e_isT_str_str, e_isT_str_list, e_isT_str_tuple, e_isT_str_dict, e_isT_list_bool, e_isT_list_int, e_isT_list_str, e_isT_list_list, e_isT_list_tuple, e_isT_list_dict, e_isT_tuple_bool, e_isT_tuple_int, e_isT_tuple_str, e_isT_tuple_list, e_isT_tuple_tuple, e_isT_tuple_dict, e_isT_dict_bool, e_isT_dict_int, e_isT_dict_str, e_isT_dict_list, e_isT_dict_tuple, e_isT_dict_dict, e_lt, e_le, e_gt, e_ge ]
    obtain ⟨c0, h0, h1⟩ := get_let (k := k) (by omega)
    have pc1 : ∀ c, c ∈ chars → pc [c] = 0 := fun c hc => by
      have : c ≠ 40 := fun e => (nlet (.inr (.inl e))).2 hc
      simp [pc, this]
    refine ⟨by rw [sizeLine_eq]; decide, c0, h0, ?_⟩
    refine gen_nx (t := dFor _ _ _) fun R hR => ?_
    simp only [dFor, dVar, dC, dOp, dTest, dTru, dAnd, dOr, dNot, dAndV, dOrV, dNotV, dIfE, dNil, dCons, dStar, dTup, dLst, dLstM, dFrz, dNeg, oEq, oNe, dNoO, dSoO, dSl, dNext, dSeq, dBreak, dCont, dExpr, dRet, dRetN, dIf, gNm, gNl, gCn, gTp, dAsg, dSet, dAug, dIter, dRng1, dRng2, dYes, dCallB, f1, dIsi, dJoinAt, dFmt, dJs, dJoined, dCall, dstart, rget, rset, dwipe, gSb, dApp, dPop, fMax2, fMin2, dNever, dPairs, dDispG, dDisp, dDispM, dNewK, dNewT, keyD, if_true, if_false, decide_eq_true_eq, Bool.false_eq_true, List.map_cons, List.map_nil, List.length_cons, List.length_nil, List.cons_append, List.nil_append, Nat.reduceAdd, Nat.reduceSub, List.reduceReplicate, e_vw_non, e_vw_bl, e_vw_int, e_vw_str, e_vw_scr, e_vw_lst, e_vw_tup, e_vw_dic, e_vw_dit, e_vw_obj, e_vw_ty, e_flat_non, e_isn_non, e_ty_non, e_flat_bl, e_isn_bl, e_ty_bl, e_flat_int, e_isn_int, e_ty_int, e_flat_str, e_isn_str, e_ty_str, e_flat_scr, e_isn_scr, e_ty_scr, e_flat_lst, e_isn_lst, e_ty_lst, e_flat_tup, e_isn_tup, e_ty_tup, e_flat_dic, e_isn_dic, e_ty_dic, e_flat_dit, e_isn_dit, e_flat_obj, e_isn_obj, e_flat_ty, e_isn_ty, e_add_ii, e_add_ss, e_add_ll, e_add_tt, e_iadd_ii, e_iadd_ss, e_sub_ii, e_mul_ii, e_mul_li, e_mul_si, e_fdiv_ii, e_mod_ii, e_pow_ii, e_deq_nn, e_deq_ii, e_deq_ss, e_deq_bb, e_deq_tt, e_deq_ll, e_deq_st, e_deq_ts, e_deql_n, e_deql_c, e_deql_nc, e_deql_cn, e_isN, e_ix_l, e_ix_t, e_ix_c, e_ix_s, e_ix_d, e_ix_dt, e_in_l, e_in_t, e_in_s, e_in_d, e_in_dt, e_sl_l, e_sl_t, e_sl_s, e_len_lst, e_len_tup, e_len_s, e_len_c, e_len_d, e_int_i, e_abs_i, e_str_i, e_tup_l, e_tup_t, e_oLst0_l, e_oLst0_t, e_oLst0M_l, e_oLst0M_t, e_set_l, e_set_d, e_set_t, e_key_i, e_key_s, e_isT_non_bool, e_isT_non_int, e_isT_non_str, e_isT_non_list, e_isT_non_tuple, e_isT_non_dict, e_isT_bool_bool, e_isT_bool_int, e_isT_bool_str, e_isT_bool_list, e_isT_bool_tuple, e_isT_bool_dict, e_isT_int_bool, e_isT_int_int, e_isT_int_str, e_isT_int_list, e_isT_int_tuple, e_isT_int_dict, e_isT_str_bool, e_isT_str_int, e_isT_str_str, e_isT_str_list, e_isT_str_tuple, e_isT_str_dict, e_isT_list_bool, e_isT_list_int, e_isT_list_str, e_isT_list_list, e_isT_list_tuple, e_isT_list_dict, e_isT_tuple_bool, e_isT_tuple_int, e_isT_tuple_str, e_isT_tuple_list, e_isT_tuple_tuple, e_isT_tuple_dict, e_isT_dict_bool, e_isT_dict_int, e_isT_dict_str, e_isT_dict_list, e_isT_dict_tuple, e_isT_dict_dict, e_lt, e_le, e_gt, e_ge ]
    refine ⟨by rw [sizeLine_eq]; decide, p, c, 3, rfl, hp, by decide, fun k2 hk2 => ?_⟩
    simp only [dVar, dC, dOp, dTest, dTru, dAnd, dOr, dNot, dAndV, dOrV, dNotV, dIfE, dNil, dCons, dStar, dTup, dLst, dLstM, dFrz, dNeg, oEq, oNe, dNoO, dSoO, dSl, dNext, dSeq, dBreak, dCont, dExpr, dRet, dRetN, dIf, gNm, gNl, gCn, gTp, dAsg, dSet, dAug, dIter, dRng1, dRng2, dYes, dCallB, f1, dIsi, dJoinAt, dFmt, dJs, dJoined, dCall, dstart, rget, rset, dwipe, gSb, dApp, dPop, fMax2, fMin2, dNever, dPairs, dDispG, dDisp, dDispM, dNewK, dNewT, keyD, if_true, if_false, decide_eq_true_eq, Bool.false_eq_true, List.map_cons, List.map_nil, List.length_cons, List.length_nil, List.cons_append, List.nil_append, Nat.reduceAdd, Nat.reduceSub, List.reduceReplicate, e_vw_non, e_vw_bl, e_vw_int, e_vw_str, e_vw_scr, e_vw_lst, e_vw_tup, e_vw_dic, e_vw_dit, e_vw_obj, e_vw_ty, e_flat_non, e_isn_non, e_ty_non, e_flat_bl, e_isn_bl, e_ty_bl, e_flat_int, e_isn_int, e_ty_int, e_flat_str, e_isn_str, e_ty_str, e_flat_scr, e_isn_scr, e_ty_scr, e_flat_lst, e_isn_lst, e_ty_lst, e_flat_tup, e_isn_tup, e_ty_tup, e_flat_dic, e_isn_dic, e_ty_dic, e_flat_dit, e_isn_dit, e_flat_obj, e_isn_obj, e_flat_ty, e_isn_ty, e_add_ii, e_add_ss, e_add_ll, e_add_tt, e_iadd_ii, e_iadd_ss, e_sub_ii, e_mul_ii, e_mul_li, e_mul_si, e_fdiv_ii, e_mod_ii, e_pow_ii, e_deq_nn, e_deq_ii, e_deq_ss, e_deq_bb, e_deq_tt, e_deq_ll, e_deq_st, e_deq_ts, e_deql_n, e_deql_c, e_deql_nc, e_deql_cn, e_isN, e_ix_l, e_ix_t, e_ix_c, e_ix_s, e_ix_d, e_ix_dt, e_in_l, e_in_t, e_in_s, e_in_d, e_in_dt, e_sl_l, e_sl_t, e_sl_s, e_len_lst, e_len_tup, e_len_s, e_len_c, e_len_d, e_int_i, e_abs_i, e_str_i, e_tup_l, e_tup_t, e_oLst0_l, e_oLst0_t, e_oLst0M_l, e_oLst0M_t, e_set_l, e_set_d, e_set_t, e_key_i, e_key_s, e_isT_non_bool, e_isT_non_int, e_isT_non_str, e_isT_non_list, e_isT_non_tuple, e_isT_non_dict, e_isT_bool_bool, e_isT_bool_int, e_isT_bool_str, e_isT_bool_list, e_isT_bool_tuple, e_isT_bool_dict, e_isT_int_bool, e_isT_int_int, e_isT_int_str, e_isT_int_list, e_isT_int_tuple, e_isT_int_dict, e_isT_str_bool, e_isT_str_int, e_isT_str_str, e_isT_str_list, e_isT_str_tuple, e_isT_str_dict, e_isT_list_bool, e_isT_list_int, e_isT_list_str, e_isT_list_list, e_isT_list_tuple, e_isT_list_dict, e_isT_tuple_bool, e_isT_tuple_int, e_isT_tuple_str, e_isT_tuple_list, e_isT_tuple_tuple, e_isT_tuple_dict, e_isT_dict_bool, e_isT_dict_int, e_isT_dict_str, e_isT_dict_list, e_isT_dict_tuple, e_isT_dict_dict, e_lt, e_le, e_gt, e_ge ]
    obtain ⟨x, hx, hm⟩ := get_v [0, 1, 11] (k := k2) (by simp <;> omega)
    refine ⟨_, hx, ?_⟩
    have hx11 : x ≤ 11 := by simp at hm; omega
    simp only [dVar, dC, dOp, dTest, dTru, dAnd, dOr, dNot, dAndV, dOrV, dNotV, dIfE, dNil, dCons, dStar, dTup, dLst, dLstM, dFrz, dNeg, oEq, oNe, dNoO, dSoO, dSl, dNext, dSeq, dBreak, dCont, dExpr, dRet, dRetN, dIf, gNm, gNl, gCn, gTp, dAsg, dSet, dAug, dIter, dRng1, dRng2, dYes, dCallB, f1, dIsi, dJoinAt, dFmt, dJs, dJoined, dCall, dstart, rget, rset, dwipe, gSb, dApp, dPop, fMax2, fMin2, dNever, dPairs, dDispG, dDisp, dDispM, dNewK, dNewT, keyD, if_true, if_false, decide_eq_true_eq, Bool.false_eq_true, List.map_cons, List.map_nil, List.length_cons, List.length_nil, List.cons_append, List.nil_append, Nat.reduceAdd, Nat.reduceSub, List.reduceReplicate, e_vw_non, e_vw_bl, e_vw_int, e_vw_str, e_vw_scr, e_vw_lst, e_vw_tup, e_vw_dic, e_vw_dit, e_vw_obj, e_vw_ty, e_flat_non, e_isn_non, e_ty_non, e_flat_bl, e_isn_bl, e_ty_bl, e_flat_int, e_isn_int, e_ty_int, e_flat_str, e_isn_str, e_ty_str, e_flat_scr, e_isn_scr, e_ty_scr, e_flat_lst, e_isn_lst, e_ty_lst, e_flat_tup, e_isn_tup, e_ty_tup, e_flat_dic, e_isn_dic, e_ty_dic, e_flat_dit, e_isn_dit, e_flat_obj, e_isn_obj, e_flat_ty, e_isn_ty, e_add_ii, e_add_ss, e_add_ll, e_add_tt, e_iadd_ii, e_iadd_ss, e_sub_ii, e_mul_ii, e_mul_li, e_mul_si, e_fdiv_ii, e_mod_ii, e_pow_ii, e_deq_nn, e_deq_ii, e_deq_ss, e_deq_bb, e_deq_tt, e_deq_ll, e_deq_st, e_deq_ts, e_deql_n, e_deql_c, e_deql_nc, e_deql_cn, e_isN, e_ix_l, e_ix_t, e_ix_c, e_ix_s, e_ix_d, e_ix_dt, e_in_l, e_in_t, e_in_s, e_in_d, e_in_dt, e_sl_l, e_sl_t, e_sl_s, e_len_lst, e_len_tup, e_len_s, e_len_c, e_len_d, e_int_i, e_abs_i, e_str_i, e_tup_l, e_tup_t, e_oLst0_l, e_oLst0_t, e_oLst0M_l, e_oLst0M_t, e_set_l, e_set_d, e_set_t, e_key_i, e_key_s, e_isT_non_bool, e_isT_non_int, e_isT_non_str, e_isT_non_list, e_isT_non_tuple, e_isT_non_dict, e_isT_bool_bool, e_isT_bool_int, e_isT_bool_str, e_isT_bool_list, e_isT_bool_tuple, e_isT_bool_dict, e_isT_int_bool, e_isT_int_int, e_isT_int_str, e_isT_int_list, e_isT_int_tuple, e_isT_int_dict, e_isT_str_bool, e_isT_str_int, e_isT_str_str, e_isT_str_list, e_isT_str_tuple, e_isT_str_dict, e_isT_list_bool, e_isT_list_int, e_isT_list_str, e_isT_list_list, e_isT_list_tuple, e_isT_list_dict, e_isT_tuple_bool, e_isT_tuple_int, e_isT_tuple_str, e_isT_tuple_list, e_isT_tuple_tuple, e_isT_tuple_dict, e_isT_dict_bool, e_isT_dict_int, e_isT_dict_str, e_isT_dict_list, e_isT_dict_tuple, e_isT_dict_dict, e_lt, e_le, e_gt, e_ge ]
    refine ⟨by omega, by omega, fun i ρ M' => M' = M ∧ i ≤ x ∧ ∃ v o, ρ = [some (.ref p), some (.int d), some (.str chars), some (.str v), o, none, none] ∧ v.length = i + 1 ∧ pc v = 0,
      ⟨rfl, Nat.zero_le _, [c0], none, rfl, rfl, pc1 _ h1⟩, ?_, ?_⟩
    · rintro i d ρ M' hi ⟨rfl, _, v, o, rfl, hv, ha⟩
      have hlt := (List.getElem?_eq_some_iff.mp hi).1
      simp only [rngD, List.length_map, List.length_range, Int.toNat_natCast] at hlt
      simp only [dVar, dC, dOp, dTest, dTru, dAnd, dOr, dNot, dAndV, dOrV, dNotV, dIfE, dNil, dCons, dStar, dTup, dLst, dLstM, dFrz, dNeg, oEq, oNe, dNoO, dSoO, dSl, dNext, dSeq, dBreak, dCont, dExpr, dRet, dRetN, dIf, gNm, gNl, gCn, gTp, dAsg, dSet, dAug, dIter, dRng1, dRng2, dYes, dCallB, f1, dIsi, dJoinAt, dFmt, dJs, dJoined, dCall, dstart, rget, rset, dwipe, gSb, dApp, dPop, fMax2, fMin2, dNever, dPairs, dDispG, dDisp, dDispM, dNewK, dNewT, keyD, if_true, if_false, decide_eq_true_eq, Bool.false_eq_true, List.map_cons, List.map_nil, List.length_cons, List.length_nil, List.cons_append, List.nil_append, Nat.reduceAdd, Nat.reduceSub, List.reduceReplicate, e_vw_non, e_vw_bl, e_vw_int, e_vw_str, e_vw_scr, e_vw_lst, e_vw_tup, e_vw_dic, e_vw_dit, e_vw_obj, e_vw_ty, e_flat_non, e_isn_non, e_ty_non, e_flat_bl, e_isn_bl, e_ty_bl, e_flat_int, e_isn_int, e_ty_int, e_flat_str, e_isn_str, e_ty_str, e_flat_scr, e_isn_scr, e_ty_scr, e_flat_lst, e_isn_lst, e_ty_lst, e_flat_tup, e_isn_tup, e_ty_tup, e_flat_dic, e_isn_dic, e_ty_dic, e_flat_dit, e_isn_dit, e_flat_obj, e_isn_obj, e_flat_ty, e_isn_ty, e_add_ii, e_add_ss, e_add_ll, e_add_tt, e_iadd_ii, e_iadd_ss, e_sub_ii, e_mul_ii, e_mul_li, e_mul_si, e_fdiv_ii, e_mod_ii, e_pow_ii, e_deq_nn, e_deq_ii, e_deq_ss, e_deq_bb, e_deq_tt, e_deq_ll, e_deq_st, e_deq_ts, e_deql_n, e_deql_c, e_deql_nc, e_deql_cn, e_isN, e_ix_l, e_ix_t, e_ix_c, e_ix_s, e_ix_d, e_ix_dt, e_in_l, e_in_t, e_in_s, e_in_d, e_in_dt, e_sl_l, e_sl_t, e_sl_s, e_len_lst, e_len_tup, e_len_s, e_len_c, e_len_d, e_int_i, e_abs_i, e_str_i, e_tup_l, e_tup_t, e_oLst0_l, e_oLst0_t, e_oLst0M_l, e_oLst0M_t, e_set_l, e_set_d, e_set_t, e_key_i, e_key_s, e_isT_non_bool, e_isT_non_int, e_isT_non_str, e_isT_non_list, e_isT_non_tuple, e_isT_non_dict, e_isT_bool_bool, e_isT_bool_int, e_isT_bool_str, e_isT_bool_list, e_isT_bool_tuple, e_isT_bool_dict, e_isT_int_bool, e_isT_int_int, e_isT_int_str, e_isT_int_list, e_isT_int_tuple, e_isT_int_dict, e_isT_str_bool, e_isT_str_int, e_isT_str_str, e_isT_str_list, e_isT_str_tuple, e_isT_str_dict, e_isT_list_bool, e_isT_list_int, e_isT_list_str, e_isT_list_list, e_isT_list_tuple, e_isT_list_dict, e_isT_tuple_bool, e_isT_tuple_int, e_isT_tuple_str, e_isT_tuple_list, e_isT_tuple_tuple, e_isT_tuple_dict, e_isT_dict_bool, e_isT_dict_int, e_isT_dict_str, e_isT_dict_list, e_isT_dict_tuple, e_isT_dict_dict, e_lt, e_le, e_gt, e_ge ]
      refine ⟨p, c, 36, rfl, hp, by decide, fun k3 hk3 => ?_⟩
      obtain ⟨c3, h3, h4⟩ := get_ch (k := k3) (by omega)
      simp only [dVar, dC, dOp, dTest, dTru, dAnd, dOr, dNot, dAndV, dOrV, dNotV, dIfE, dNil, dCons, dStar, dTup, dLst, dLstM, dFrz, dNeg, oEq, oNe, dNoO, dSoO, dSl, dNext, dSeq, dBreak, dCont, dExpr, dRet, dRetN, dIf, gNm, gNl, gCn, gTp, dAsg, dSet, dAug, dIter, dRng1, dRng2, dYes, dCallB, f1, dIsi, dJoinAt, dFmt, dJs, dJoined, dCall, dstart, rget, rset, dwipe, gSb, dApp, dPop, fMax2, fMin2, dNever, dPairs, dDispG, dDisp, dDispM, dNewK, dNewT, keyD, if_true, if_false, decide_eq_true_eq, Bool.false_eq_true, List.map_cons, List.map_nil, List.length_cons, List.length_nil, List.cons_append, List.nil_append, Nat.reduceAdd, Nat.reduceSub, List.reduceReplicate, e_vw_non, e_vw_bl, e_vw_int, e_vw_str, e_vw_scr, e_vw_lst, e_vw_tup, e_vw_dic, e_vw_dit, e_vw_obj, e_vw_ty, e_flat_non, e_isn_non, e_ty_non, e_flat_bl, e_isn_bl, e_ty_bl, e_flat_int, e_isn_int, e_ty_int, e_flat_str, e_isn_str, e_ty_str, e_flat_scr, e_isn_scr, e_ty_scr, e_flat_lst, e_isn_lst, e_ty_lst, e_flat_tup, e_isn_tup, e_ty_tup, e_flat_dic, e_isn_dic, e_ty_dic, e_flat_dit, e_isn_dit, e_flat_obj, e_isn_obj, e_flat_ty, e_isn_ty, e_add_ii, e_add_ss, e_add_ll, e_add_tt, e_iadd_ii, e_iadd_ss, e_sub_ii, e_mul_ii, e_mul_li, e_mul_si, e_fdiv_ii, e_mod_ii, e_pow_ii, e_deq_nn, e_deq_ii, e_deq_ss, e_deq_bb, e_deq_tt, e_deq_ll, e_deq_st, e_deq_ts, e_deql_n, e_deql_c, e_deql_nc, e_deql_cn, e_isN, e_ix_l, e_ix_t, e_ix_c, e_ix_s, e_ix_d, e_ix_dt, e_in_l, e_in_t, e_in_s, e_in_d, e_in_dt, e_sl_l, e_sl_t, e_sl_s, e_len_lst, e_len_tup, e_len_s, e_len_c, e_len_d, e_int_i, e_abs_i, e_str_i, e_tup_l, e_tup_t, e_oLst0_l, e_oLst0_t, e_oLst0M_l, e_oLst0M_t, e_set_l, e_set_d, e_set_t, e_key_i, e_key_s, e_isT_non_bool, e_isT_non_int, e_isT_non_str, e_isT_non_list, e_isT_non_tuple, e_isT_non_dict, e_isT_bool_bool, e_isT_bool_int, e_isT_bool_str, e_isT_bool_list, e_isT_bool_tuple, e_isT_bool_dict, e_isT_int_bool, e_isT_int_int, e_isT_int_str, e_isT_int_list, e_isT_int_tuple, e_isT_int_dict, e_isT_str_bool, e_isT_str_int, e_isT_str_str, e_isT_str_list, e_isT_str_tuple, e_isT_str_dict, e_isT_list_bool, e_isT_list_int, e_isT_list_str, e_isT_list_list, e_isT_list_tuple, e_isT_list_dict, e_isT_tuple_bool, e_isT_tuple_int, e_isT_tuple_str, e_isT_tuple_list, e_isT_tuple_tuple, e_isT_tuple_dict, e_isT_dict_bool, e_isT_dict_int, e_isT_dict_str, e_isT_dict_list, e_isT_dict_tuple, e_isT_dict_dict, e_lt, e_le, e_gt, e_ge ]
      exact ⟨by rw [sizeLine_eq]; decide, c3, h3, by rw [sizeLine_eq]; omega, trivial, hlt, v ++ [c3], _, rfl, by simp [hv], by rw [pc_app, ha, pc1 _ h4]⟩
    · rintro ρ M' ⟨rfl, hx2, v, o, rfl, hv, hpv⟩
      simp only [rngD, List.length_map, List.length_range, Int.toNat_natCast] at hv
      refine hR _ _ ?_
      have hL : 12 ≤ Ln d := by cases d <;> simp only [Ln] <;> omega
      simp only [dLc, dLcG, dVar, dC, dOp, dTest, dTru, dAnd, dOr, dNot, dAndV, dOrV, dNotV, dIfE, dNil, dCons, dStar, dTup, dLst, dLstM, dFrz, dNeg, oEq, oNe, dNoO, dSoO, dSl, dNext, dSeq, dBreak, dCont, dExpr, dRet, dRetN, dIf, gNm, gNl, gCn, gTp, dAsg, dSet, dAug, dIter, dRng1, dRng2, dYes, dCallB, f1, dIsi, dJoinAt, dFmt, dJs, dJoined, dCall, dstart, rget, rset, dwipe, gSb, dApp, dPop, fMax2, fMin2, dNever, dPairs, dDispG, dDisp, dDispM, dNewK, dNewT, keyD, if_true, if_false, decide_eq_true_eq, Bool.false_eq_true, List.map_cons, List.map_nil, List.length_cons, List.length_nil, List.cons_append, List.nil_append, Nat.reduceAdd, Nat.reduceSub, List.reduceReplicate, e_vw_non, e_vw_bl, e_vw_int, e_vw_str, e_vw_scr, e_vw_lst, e_vw_tup, e_vw_dic, e_vw_dit, e_vw_obj, e_vw_ty, e_flat_non, e_isn_non, e_ty_non, e_flat_bl, e_isn_bl, e_ty_bl, e_flat_int, e_isn_int, e_ty_int, e_flat_str, e_isn_str, e_ty_str, e_flat_scr, e_isn_scr, e_ty_scr, e_flat_lst, e_isn_lst, e_ty_lst, e_flat_tup, e_isn_tup, e_ty_tup, e_flat_dic, e_isn_dic, e_ty_dic, e_flat_dit, e_isn_dit, e_flat_obj, e_isn_obj, e_flat_ty, e_isn_ty, e_add_ii, e_add_ss, e_add_ll, e_add_tt, e_iadd_ii, e_iadd_ss, e_sub_ii, e_mul_ii, e_mul_li, e_mul_si, e_fdiv_ii, e_mod_ii, e_pow_ii, e_deq_nn, e_deq_ii, e_deq_ss, e_deq_bb, e_deq_tt, e_deq_ll, e_deq_st, e_deq_ts, e_deql_n, e_deql_c, e_deql_nc, e_deql_cn, e_isN, e_ix_l, e_ix_t, e_ix_c, e_ix_s, e_ix_d, e_ix_dt, e_in_l, e_in_t, e_in_s, e_in_d, e_in_dt, e_sl_l, e_sl_t, e_sl_s, e_len_lst, e_len_tup, e_len_s, e_len_c, e_len_d, e_int_i, e_abs_i, e_str_i, e_tup_l, e_tup_t, e_oLst0_l, e_oLst0_t, e_oLst0M_l, e_oLst0M_t, e_set_l, e_set_d, e_set_t, e_key_i, e_key_s, e_isT_non_bool, e_isT_non_int, e_isT_non_str, e_isT_non_list, e_isT_non_tuple, e_isT_non_dict, e_isT_bool_bool, e_isT_bool_int, e_isT_bool_str, e_isT_bool_list, e_isT_bool_tuple, e_isT_bool_dict, e_isT_int_bool, e_isT_int_int, e_isT_int_str, e_isT_int_list, e_isT_int_tuple, e_isT_int_dict, e_isT_str_bool, e_isT_str_int, e_isT_str_str, e_isT_str_list, e_isT_str_tuple, e_isT_str_dict, e_isT_list_bool, e_isT_list_int, e_isT_list_str, e_isT_list_list, e_isT_list_tuple, e_isT_list_dict, e_isT_tuple_bool, e_isT_tuple_int, e_isT_tuple_str, e_isT_tuple_list, e_isT_tuple_tuple, e_isT_tuple_dict, e_isT_dict_bool, e_isT_dict_int, e_isT_dict_str, e_isT_dict_list, e_isT_dict_tuple, e_isT_dict_dict, e_lt, e_le, e_gt, e_ge ]
      refine ⟨.inl ⟨trivial, trivial⟩, ?_⟩
      split
      · exact ⟨_, cl, q v (by omega) (by omega)⟩
      · rename_i hd0
        refine ⟨p, c, 3, rfl, hp, by decide, fun k hk => ?_⟩
        refine ⟨.inl ⟨rfl, trivial⟩, ?_⟩
        simp only [dVar, dC, dOp, dTest, dTru, dAnd, dOr, dNot, dAndV, dOrV, dNotV, dIfE, dNil, dCons, dStar, dTup, dLst, dLstM, dFrz, dNeg, oEq, oNe, dNoO, dSoO, dSl, dNext, dSeq, dBreak, dCont, dExpr, dRet, dRetN, dIf, gNm, gNl, gCn, gTp, dAsg, dSet, dAug, dIter, dRng1, dRng2, dYes, dCallB, f1, dIsi, dJoinAt, dFmt, dJs, dJoined, dCall, dstart, rget, rset, dwipe, gSb, dApp, dPop, fMax2, fMin2, dNever, dPairs, dDispG, dDisp, dDispM, dNewK, dNewT, keyD, if_true, if_false, decide_eq_true_eq, Bool.false_eq_true, List.map_cons, List.map_nil, List.length_cons, List.length_nil, List.cons_append, List.nil_append, Nat.reduceAdd, Nat.reduceSub, List.reduceReplicate, e_vw_non, e_vw_bl, e_vw_int, e_vw_str, e_vw_scr, e_vw_lst, e_vw_tup, e_vw_dic, e_vw_dit, e_vw_obj, e_vw_ty, e_flat_non, e_isn_non, e_ty_non, e_flat_bl, e_isn_bl, e_ty_bl, e_flat_int, e_isn_int, e_ty_int, e_flat_str, e_isn_str, e_ty_str, e_flat_scr, e_isn_scr, e_ty_scr, e_flat_lst, e_isn_lst, e_ty_lst, e_flat_tup, e_isn_tup, e_ty_tup, e_flat_dic, e_isn_dic, e_ty_dic, e_flat_dit, e_isn_dit, e_flat_obj, e_isn_obj, e_flat_ty, e_isn_ty, e_add_ii, e_add_ss, e_add_ll, e_add_tt, e_iadd_ii, e_iadd_ss, e_sub_ii, e_mul_ii, e_mul_li, e_mul_si, e_fdiv_ii, e_mod_ii, e_pow_ii, e_deq_nn, e_deq_ii, e_deq_ss, e_deq_bb, e_deq_tt, e_deq_ll, e_deq_st, e_deq_ts, e_deql_n, e_deql_c, e_deql_nc, e_deql_cn, e_isN, e_ix_l, e_ix_t, e_ix_c, e_ix_s, e_ix_d, e_ix_dt, e_in_l, e_in_t, e_in_s, e_in_d, e_in_dt, e_sl_l, e_sl_t, e_sl_s, e_len_lst, e_len_tup, e_len_s, e_len_c, e_len_d, e_int_i, e_abs_i, e_str_i, e_tup_l, e_tup_t, e_oLst0_l, e_oLst0_t, e_oLst0M_l, e_oLst0M_t, e_set_l, e_set_d, e_set_t, e_key_i, e_key_s, e_isT_non_bool, e_isT_non_int, e_isT_non_str, e_isT_non_list, e_isT_non_tuple, e_isT_non_dict, e_isT_bool_bool, e_isT_bool_int, e_isT_bool_str, e_isT_bool_list, e_isT_bool_tuple, e_isT_bool_dict, e_isT_int_bool, e_isT_int_int, e_isT_int_str, e_isT_int_list, e_isT_int_tuple, e_isT_int_dict, e_isT_str_bool, e_isT_str_int, e_isT_str_str, e_isT_str_list, e_isT_str_tuple, e_isT_str_dict, e_isT_list_bool, e_isT_list_int, e_isT_list_str, e_isT_list_list, e_isT_list_tuple, e_isT_list_dict, e_isT_tuple_bool, e_isT_tuple_int, e_isT_tuple_str, e_isT_tuple_list, e_isT_tuple_tuple, e_isT_tuple_dict, e_isT_dict_bool, e_isT_dict_int, e_isT_dict_str, e_isT_dict_list, e_isT_dict_tuple, e_isT_dict_dict, e_lt, e_le, e_gt, e_ge ]
        split
        · exact ⟨_, cl, q v (by omega) (by omega)⟩
        · refine ⟨p, c, 4, rfl, hp, by decide, fun k2 hk2 => ?_⟩
          have hd1 : d ≠ 0 := by rintro rfl; simp at hd0
          obtain ⟨d', rfl⟩ : ∃ d', d = d' + 1 := ⟨d - 1, by omega⟩
          simp only [dVar, dC, dOp, dTest, dTru, dAnd, dOr, dNot, dAndV, dOrV, dNotV, dIfE, dNil, dCons, dStar, dTup, dLst, dLstM, dFrz, dNeg, oEq, oNe, dNoO, dSoO, dSl, dNext, dSeq, dBreak, dCont, dExpr, dRet, dRetN, dIf, gNm, gNl, gCn, gTp, dAsg, dSet, dAug, dIter, dRng1, dRng2, dYes, dCallB, f1, dIsi, dJoinAt, dFmt, dJs, dJoined, dCall, dstart, rget, rset, dwipe, gSb, dApp, dPop, fMax2, fMin2, dNever, dPairs, dDispG, dDisp, dDispM, dNewK, dNewT, keyD, if_true, if_false, decide_eq_true_eq, Bool.false_eq_true, List.map_cons, List.map_nil, List.length_cons, List.length_nil, List.cons_append, List.nil_append, Nat.reduceAdd, Nat.reduceSub, List.reduceReplicate, e_vw_non, e_vw_bl, e_vw_int, e_vw_str, e_vw_scr, e_vw_lst, e_vw_tup, e_vw_dic, e_vw_dit, e_vw_obj, e_vw_ty, e_flat_non, e_isn_non, e_ty_non, e_flat_bl, e_isn_bl, e_ty_bl, e_flat_int, e_isn_int, e_ty_int, e_flat_str, e_isn_str, e_ty_str, e_flat_scr, e_isn_scr, e_ty_scr, e_flat_lst, e_isn_lst, e_ty_lst, e_flat_tup, e_isn_tup, e_ty_tup, e_flat_dic, e_isn_dic, e_ty_dic, e_flat_dit, e_isn_dit, e_flat_obj, e_isn_obj, e_flat_ty, e_isn_ty, e_add_ii, e_add_ss, e_add_ll, e_add_tt, e_iadd_ii, e_iadd_ss, e_sub_ii, e_mul_ii, e_mul_li, e_mul_si, e_fdiv_ii, e_mod_ii, e_pow_ii, e_deq_nn, e_deq_ii, e_deq_ss, e_deq_bb, e_deq_tt, e_deq_ll, e_deq_st, e_deq_ts, e_deql_n, e_deql_c, e_deql_nc, e_deql_cn, e_isN, e_ix_l, e_ix_t, e_ix_c, e_ix_s, e_ix_d, e_ix_dt, e_in_l, e_in_t, e_in_s, e_in_d, e_in_dt, e_sl_l, e_sl_t, e_sl_s, e_len_lst, e_len_tup, e_len_s, e_len_c, e_len_d, e_int_i, e_abs_i, e_str_i, e_tup_l, e_tup_t, e_oLst0_l, e_oLst0_t, e_oLst0M_l, e_oLst0M_t, e_set_l, e_set_d, e_set_t, e_key_i, e_key_s, e_isT_non_bool, e_isT_non_int, e_isT_non_str, e_isT_non_list, e_isT_non_tuple, e_isT_non_dict, e_isT_bool_bool, e_isT_bool_int, e_isT_bool_str, e_isT_bool_list, e_isT_bool_tuple, e_isT_bool_dict, e_isT_int_bool, e_isT_int_int, e_isT_int_str, e_isT_int_list, e_isT_int_tuple, e_isT_int_dict, e_isT_str_bool, e_isT_str_int, e_isT_str_str, e_isT_str_list, e_isT_str_tuple, e_isT_str_dict, e_isT_list_bool, e_isT_list_int, e_isT_list_str, e_isT_list_list, e_isT_list_tuple, e_isT_list_dict, e_isT_tuple_bool, e_isT_tuple_int, e_isT_tuple_str, e_isT_tuple_list, e_isT_tuple_tuple, e_isT_tuple_dict, e_isT_dict_bool, e_isT_dict_int, e_isT_dict_str, e_isT_dict_list, e_isT_dict_tuple, e_isT_dict_dict, e_lt, e_le, e_gt, e_ge ]
          refine ⟨by omega, by omega, fun i acc M1 => M1 = M' ∧ i ≤ k2 ∧ ∃ xs : List Cd, acc = xs.map .str ∧ xs.length = i ∧ ∀ t ∈ xs, t.length ≤ Ln d' ∧ pc t ≤ Pn d', ⟨rfl, Nat.zero_le _, [], rfl, rfl, by simp⟩, ?_, ?_⟩
          · rintro i x acc M1 hi ⟨rfl, _, ts, rfl, hts, hok⟩
            have hlt := (List.getElem?_eq_some_iff.mp hi).1
            simp only [rngD, List.length_map, List.length_range, Int.toNat_natCast] at hlt
            simp only [dVar, dC, dOp, dTest, dTru, dAnd, dOr, dNot, dAndV, dOrV, dNotV, dIfE, dNil, dCons, dStar, dTup, dLst, dLstM, dFrz, dNeg, oEq, oNe, dNoO, dSoO, dSl, dNext, dSeq, dBreak, dCont, dExpr, dRet, dRetN, dIf, gNm, gNl, gCn, gTp, dAsg, dSet, dAug, dIter, dRng1, dRng2, dYes, dCallB, f1, dIsi, dJoinAt, dFmt, dJs, dJoined, dCall, dstart, rget, rset, dwipe, gSb, dApp, dPop, fMax2, fMin2, dNever, dPairs, dDispG, dDisp, dDispM, dNewK, dNewT, keyD, if_true, if_false, decide_eq_true_eq, Bool.false_eq_true, List.map_cons, List.map_nil, List.length_cons, List.length_nil, List.cons_append, List.nil_append, Nat.reduceAdd, Nat.reduceSub, List.reduceReplicate, e_vw_non, e_vw_bl, e_vw_int, e_vw_str, e_vw_scr, e_vw_lst, e_vw_tup, e_vw_dic, e_vw_dit, e_vw_obj, e_vw_ty, e_flat_non, e_isn_non, e_ty_non, e_flat_bl, e_isn_bl, e_ty_bl, e_flat_int, e_isn_int, e_ty_int, e_flat_str, e_isn_str, e_ty_str, e_flat_scr, e_isn_scr, e_ty_scr, e_flat_lst, e_isn_lst, e_ty_lst, e_flat_tup, e_isn_tup, e_ty_tup, e_flat_dic, e_isn_dic, e_ty_dic, e_flat_dit, e_isn_dit, e_flat_obj, e_isn_obj, e_flat_ty, e_isn_ty, e_add_ii, e_add_ss, e_add_ll, e_add_tt, e_iadd_ii, e_iadd_ss, e_sub_ii, e_mul_ii, e_mul_li, e_mul_si, e_fdiv_ii, e_mod_ii, e_pow_ii, e_deq_nn, e_deq_ii, e_deq_ss, e_deq_bb, e_deq_tt, e_deq_ll, e_deq_st, e_deq_ts, e_deql_n, e_deql_c, e_deql_nc, e_deql_cn, e_isN, e_ix_l, e_ix_t, e_ix_c, e_ix_s, e_ix_d, e_ix_dt, e_in_l, e_in_t, e_in_s, e_in_d, e_in_dt, e_sl_l, e_sl_t, e_sl_s, e_len_lst, e_len_tup, e_len_s, e_len_c, e_len_d, e_int_i, e_abs_i, e_str_i, e_tup_l, e_tup_t, e_oLst0_l, e_oLst0_t, e_oLst0M_l, e_oLst0M_t, e_set_l, e_set_d, e_set_t, e_key_i, e_key_s, e_isT_non_bool, e_isT_non_int, e_isT_non_str, e_isT_non_list, e_isT_non_tuple, e_isT_non_dict, e_isT_bool_bool, e_isT_bool_int, e_isT_bool_str, e_isT_bool_list, e_isT_bool_tuple, e_isT_bool_dict, e_isT_int_bool, e_isT_int_int, e_isT_int_str, e_isT_int_list, e_isT_int_tuple, e_isT_int_dict, e_isT_str_bool, e_isT_str_int, e_isT_str_str, e_isT_str_list, e_isT_str_tuple, e_isT_str_dict, e_isT_list_bool, e_isT_list_int, e_isT_list_str, e_isT_list_list, e_isT_list_tuple, e_isT_list_dict, e_isT_tuple_bool, e_isT_tuple_int, e_isT_tuple_str, e_isT_tuple_list, e_isT_tuple_tuple, e_isT_tuple_dict, e_isT_dict_bool, e_isT_dict_int, e_isT_dict_str, e_isT_dict_list, e_isT_dict_tuple, e_isT_dict_dict, e_lt, e_le, e_gt, e_ge ]
            obtain ⟨n', rfl⟩ : ∃ n', n = n' + 1 := ⟨n - 1, by omega⟩
            refine ⟨p, c, d', by simp, by omega, by omega, hp, fun t ht1 ht2 => ?_⟩
            refine ⟨by simp only [List.length_map, sizeLine_eq]; omega, rfl, hlt, ts ++ [t], by rw [List.map_append]; rfl, by simp [hts], fun u hu => ?_⟩
            rcases List.mem_append.mp hu with hu | hu
            · exact hok u hu
            · rcases List.mem_singleton.mp hu with rfl; exact ⟨ht1, ht2⟩
          · rintro acc M1 ⟨rfl, hk3, ts, rfl, hts, hok⟩
            refine ⟨p, c, 2, rfl, hp, by decide, fun k3 hk4 => ?_⟩
            simp only [dJoinE, dVar, dC, dOp, dTest, dTru, dAnd, dOr, dNot, dAndV, dOrV, dNotV, dIfE, dNil, dCons, dStar, dTup, dLst, dLstM, dFrz, dNeg, oEq, oNe, dNoO, dSoO, dSl, dNext, dSeq, dBreak, dCont, dExpr, dRet, dRetN, dIf, gNm, gNl, gCn, gTp, dAsg, dSet, dAug, dIter, dRng1, dRng2, dYes, dCallB, f1, dIsi, dJoinAt, dFmt, dJs, dJoined, dCall, dstart, rget, rset, dwipe, gSb, dApp, dPop, fMax2, fMin2, dNever, dPairs, dDispG, dDisp, dDispM, dNewK, dNewT, keyD, if_true, if_false, decide_eq_true_eq, Bool.false_eq_true, List.map_cons, List.map_nil, List.length_cons, List.length_nil, List.cons_append, List.nil_append, Nat.reduceAdd, Nat.reduceSub, List.reduceReplicate, e_vw_non, e_vw_bl, e_vw_int, e_vw_str, e_vw_scr, e_vw_lst, e_vw_tup, e_vw_dic, e_vw_dit, e_vw_obj, e_vw_ty, e_flat_non, e_isn_non, e_ty_non, e_flat_bl, e_isn_bl, e_ty_bl, e_flat_int, e_isn_int, e_ty_int, e_flat_str, e_isn_str, e_ty_str, e_flat_scr, e_isn_scr, e_ty_scr, e_flat_lst, e_isn_lst, e_ty_lst, e_flat_tup, e_isn_tup, e_ty_tup, e_flat_dic, e_isn_dic, e_ty_dic, e_flat_dit, e_isn_dit, e_flat_obj, e_isn_obj, e_flat_ty, e_isn_ty, e_add_ii, e_add_ss, e_add_ll, e_add_tt, e_iadd_ii, e_iadd_ss, e_sub_ii, e_mul_ii, e_mul_li, e_mul_si, e_fdiv_ii, e_mod_ii, e_pow_ii, e_deq_nn, e_deq_ii, e_deq_ss, e_deq_bb, e_deq_tt, e_deq_ll, e_deq_st, e_deq_ts, e_deql_n, e_deql_c, e_deql_nc, e_deql_cn, e_isN, e_ix_l, e_ix_t, e_ix_c, e_ix_s, e_ix_d, e_ix_dt, e_in_l, e_in_t, e_in_s, e_in_d, e_in_dt, e_sl_l, e_sl_t, e_sl_s, e_len_lst, e_len_tup, e_len_s, e_len_c, e_len_d, e_int_i, e_abs_i, e_str_i, e_tup_l, e_tup_t, e_oLst0_l, e_oLst0_t, e_oLst0M_l, e_oLst0M_t, e_set_l, e_set_d, e_set_t, e_key_i, e_key_s, e_isT_non_bool, e_isT_non_int, e_isT_non_str, e_isT_non_list, e_isT_non_tuple, e_isT_non_dict, e_isT_bool_bool, e_isT_bool_int, e_isT_bool_str, e_isT_bool_list, e_isT_bool_tuple, e_isT_bool_dict, e_isT_int_bool, e_isT_int_int, e_isT_int_str, e_isT_int_list, e_isT_int_tuple, e_isT_int_dict, e_isT_str_bool, e_isT_str_int, e_isT_str_str, e_isT_str_list, e_isT_str_tuple, e_isT_str_dict, e_isT_list_bool, e_isT_list_int, e_isT_list_str, e_isT_list_list, e_isT_list_tuple, e_isT_list_dict, e_isT_tuple_bool, e_isT_tuple_int, e_isT_tuple_str, e_isT_tuple_list, e_isT_tuple_tuple, e_isT_tuple_dict, e_isT_dict_bool, e_isT_dict_int, e_isT_dict_str, e_isT_dict_list, e_isT_dict_tuple, e_isT_dict_dict, e_lt, e_le, e_gt, e_ge ]
            refine ⟨⟨by omega, by omega, by omega⟩, ?_⟩
            have bl : (strMul [32] (k3 : Int)).length ≤ 1 := by simp [strMul]; omega
            have bp : pc (strMul [32] (k3 : Int)) = 0 := by
              unfold pc
              refine List.count_eq_zero.mpr fun hc => ?_
              simp only [strMul, List.mem_flatten, List.mem_replicate] at hc
              obtain ⟨l, ⟨_, rfl⟩, hc⟩ := hc
              exact absurd (List.mem_singleton.mp hc) (by decide)
            generalize strMul [32] (k3 : Int) = b at bl bp
            have hk4 : ts.length ≤ 3 := by
              simp only [rngD, List.length_map, List.length_range, Int.toNat_natCast] at hts
              omega
            have hL3 : Ln d' ≤ 204 := by
              have h2 : d' ≤ 2 := by omega
              match d', h2 with
              | 0, _ => decide
              | 1, _ => decide
              | 2, _ => decide
            obtain ⟨jl, jp⟩ := join_b (b := b) (ts := ts) hk4 (fun t h => (hok t h).1) (fun t h => (hok t h).2) bl bp
            have hs3 : sumL ts ≤ 3 * Ln d' := jl.2
            have hLd : Ln (d' + 1) = 24 + 3 * Ln d' := rfl
            have hPd : Pn (d' + 1) = 1 + 3 * Pn d' := rfl
            have l40 : pc [40] = 1 := by decide
            have l41 : pc [41] = 0 := by decide
            simp only [List.length_append, List.length_cons, List.length_nil]
            refine ⟨by rw [sizeLine_eq]; omega, by rw [sizeLine_eq]; omega, by rw [sizeLine_eq]; omega, _, rfl, ts, .inl rfl, ?_, ?_⟩
            · have h7 : ∀ k, k ≤ 3 → ts.length * k ≤ 9 := fun k hk => Nat.mul_le_mul hk4 hk
              have h8 := h7 _ (show ([44, 32] ++ b).length ≤ 3 by simp only [List.length_append, List.length_cons, List.length_nil]; omega)
              refine Nat.le_trans (Nat.add_le_add (Nat.le_trans hs3 (Nat.mul_le_mul_left 3 hL3)) h8) (by decide)
            · simp only [dVar, dC, dOp, dTest, dTru, dAnd, dOr, dNot, dAndV, dOrV, dNotV, dIfE, dNil, dCons, dStar, dTup, dLst, dLstM, dFrz, dNeg, oEq, oNe, dNoO, dSoO, dSl, dNext, dSeq, dBreak, dCont, dExpr, dRet, dRetN, dIf, gNm, gNl, gCn, gTp, dAsg, dSet, dAug, dIter, dRng1, dRng2, dYes, dCallB, f1, dIsi, dJoinAt, dFmt, dJs, dJoined, dCall, dstart, rget, rset, dwipe, gSb, dApp, dPop, fMax2, fMin2, dNever, dPairs, dDispG, dDisp, dDispM, dNewK, dNewT, keyD, if_true, if_false, decide_eq_true_eq, Bool.false_eq_true, List.map_cons, List.map_nil, List.length_cons, List.length_nil, List.cons_append, List.nil_append, Nat.reduceAdd, Nat.reduceSub, List.reduceReplicate, e_vw_non, e_vw_bl, e_vw_int, e_vw_str, e_vw_scr, e_vw_lst, e_vw_tup, e_vw_dic, e_vw_dit, e_vw_obj, e_vw_ty, e_flat_non, e_isn_non, e_ty_non, e_flat_bl, e_isn_bl, e_ty_bl, e_flat_int, e_isn_int, e_ty_int, e_flat_str, e_isn_str, e_ty_str, e_flat_scr, e_isn_scr, e_ty_scr, e_flat_lst, e_isn_lst, e_ty_lst, e_flat_tup, e_isn_tup, e_ty_tup, e_flat_dic, e_isn_dic, e_ty_dic, e_flat_dit, e_isn_dit, e_flat_obj, e_isn_obj, e_flat_ty, e_isn_ty, e_add_ii, e_add_ss, e_add_ll, e_add_tt, e_iadd_ii, e_iadd_ss, e_sub_ii, e_mul_ii, e_mul_li, e_mul_si, e_fdiv_ii, e_mod_ii, e_pow_ii, e_deq_nn, e_deq_ii, e_deq_ss, e_deq_bb, e_deq_tt, e_deq_ll, e_deq_st, e_deq_ts, e_deql_n, e_deql_c, e_deql_nc, e_deql_cn, e_isN, e_ix_l, e_ix_t, e_ix_c, e_ix_s, e_ix_d, e_ix_dt, e_in_l, e_in_t, e_in_s, e_in_d, e_in_dt, e_sl_l, e_sl_t, e_sl_s, e_len_lst, e_len_tup, e_len_s, e_len_c, e_len_d, e_int_i, e_abs_i, e_str_i, e_tup_l, e_tup_t, e_oLst0_l, e_oLst0_t, e_oLst0M_l, e_oLst0M_t, e_set_l, e_set_d, e_set_t, e_key_i, e_key_s, e_isT_non_bool, e_isT_non_int, e_isT_non_str, e_isT_non_list, e_isT_non_tuple, e_isT_non_dict, e_isT_bool_bool, e_isT_bool_int, e_isT_bool_str, e_isT_bool_list, e_isT_bool_tuple, e_isT_bool_dict, e_isT_int_bool, e_isT_int_int, e_isT_int_str, e_isT_int_list, e_isT_int_tuple, e_isT_int_dict, e_isT_str_bool, e_isT_str_int, e_isT_str_str, e_isT_str_list, e_isT_str_tuple, e_isT_str_dict, e_isT_list_bool, e_isT_list_int, e_isT_list_str, e_isT_list_list, e_isT_list_tuple, e_isT_list_dict, e_isT_tuple_bool, e_isT_tuple_int, e_isT_tuple_str, e_isT_tuple_list, e_isT_tuple_tuple, e_isT_tuple_dict, e_isT_dict_bool, e_isT_dict_int, e_isT_dict_str, e_isT_dict_list, e_isT_dict_tuple, e_isT_dict_dict, e_lt, e_le, e_gt, e_ge , List.length_append, List.length_cons, List.length_nil]
              refine ⟨by rw [sizeLine_eq]; omega, by rw [sizeLine_eq]; omega, by rw [sizeLine_eq]; omega, _, cl, q _ ?_ ?_⟩
              · simp only [List.length_append, List.length_cons, List.length_nil]; omega
              · simp only [pc_app, bp, hpv, l40, l41]; omega
/-- _law_spoilt -/
def spS : DSp := fun ds M Q _ => ∃ (p c : Addr) (x : Cd), ds = [.ref p, .str x] ∧ x.length ≤ 1000 ∧ M p = some (.src c) ∧ ∀ y : Cd, y.length ≤ x.length + 1 → pc y ≤ pc x + 1 → Q (.str y) M
theorem ok_sp (m : Mg mg) {f : Addr} {fd : FuncData} (F__law_pick : Fn P w K mg base 1 "_law_pick" ["source", "many"] pkS) (Fd : FunT K "_law_spoilt" s__law_spoilt f fd) (h : mg "_law_spoilt" = some (.ref f)) : Fn P w K mg base 2 "_law_spoilt" ["source", "text"] spS := by
  refine ⟨f, fd, ?_, h, Fd.kp, Fd.bindsN fun _ _ _ _ _ _ us hl => match us, hl with | [_, _], _ => rfl⟩
  refine dfn Fd sc__law_spoilt (fun ds M Q E h => ?_) fun cdv A outer s H E Ed hr => ⟨_, (dss_cons (sSet 2 sc__law_spoilt.nd (cF F__law_pick hr (by omega) rfl (fun σ => passAt (takes_of rfl rfl rfl rfl) σ) (da_cons (vr 0) (da_cons (de_add (de_len rfl m.len (vr 1)) de_int) da_nil)))) (dss_cons (sSet 3 sc__law_spoilt.nd (de_ix (Rm1 hr) (de_lst (da_cons (de_str [40] (by kernel_rfl)) (da_cons (de_str [41] (by kernel_rfl)) (da_cons (de_str [44] (by kernel_rfl)) (da_cons (de_str [32] (by kernel_rfl)) (da_cons (de_str [97] (by kernel_rfl)) (da_cons (de_str [57] (by kernel_rfl)) (da_cons (de_str [65] (by kernel_rfl)) (da_cons (de_str [95] (by kernel_rfl)) (da_cons (de_str [46] (by kernel_rfl)) (da_cons (de_str [9] (by kernel_rfl)) (da_cons (de_str [10] (by kernel_rfl)) (da_cons (de_str [90] (by kernel_rfl)) (da_cons (de_str [45] (by kernel_rfl)) da_nil)))))))))))))) (cF F__law_pick hr (by omega) rfl (fun σ => passAt (takes_of rfl rfl rfl rfl) σ) (da_cons (vr 0) (da_cons de_int da_nil))))) (dss_cons (sSet 4 sc__law_spoilt.nd (cF F__law_pick hr (by omega) rfl (fun σ => passAt (takes_of rfl rfl rfl rfl) σ) (da_cons (vr 0) (da_cons de_int da_nil)))) (dss_cons (ds_if (dt_eq (Rm64 hr) (vr 4) de_int) (dss_one (ds_ret (de_sl (vr 1) do_none (do_some (vr 2))))) dss_nil) (dss_cons (ds_if (dt_eq (Rm64 hr) (vr 4) de_int) (dss_one (ds_ret (de_add (de_add (de_sl (vr 1) do_none (do_some (vr 2))) (vr 3)) (de_sl (vr 1) (do_some (vr 2)) do_none)))) dss_nil) (dss_one (ds_ret (de_if (dt_eq (Rm64 hr) (vr 4) de_int) (de_add (de_sl (vr 1) do_none (do_some (vr 2))) (de_sl (vr 1) (do_some (de_add (vr 2) de_int)) do_none)) (de_add (de_add (de_sl (vr 1) do_none (do_some (vr 2))) (vr 3)) (de_sl (vr 1) (do_some (de_add (vr 2) de_int)) do_none)))))))))), fun ds M Q cl h => ?_⟩
  · obtain ⟨p, c, x, rfl, _⟩ := h; rfl
  · obtain ⟨p, c, x, rfl, hx, hp, q⟩ := h
    simp only [dVar, dC, dOp, dTest, dTru, dAnd, dOr, dNot, dAndV, dOrV, dNotV, dIfE, dNil, dCons, dStar, dTup, dLst, dLstM, dFrz, dNeg, oEq, oNe, dNoO, dSoO, dSl, dNext, dSeq, dBreak, dCont, dExpr, dRet, dRetN, dIf, gNm, gNl, gCn, gTp, dAsg, dSet, dAug, dIter, dRng1, dRng2, dYes, dCallB, f1, dIsi, dJoinAt, dFmt, dJs, dJoined, dCall, dstart, rget, rset, dwipe, gSb, dApp, dPop, fMax2, fMin2, dNever, dPairs, dDispG, dDisp, dDispM, dNewK, dNewT, keyD, if_true, if_false, decide_eq_true_eq, Bool.false_eq_true, List.map_cons, List.map_nil, List.length_cons, List.length_nil, List.cons_append, List.nil_append, Nat.reduceAdd, Nat.reduceSub, List.reduceReplicate, e_vw_non, e_vw_bl, e_vw_int, e_vw_str, e_vw_scr, e_vw_lst, e_vw_tup, e_vw_dic, e_vw_dit, e_vw_obj, e_vw_ty, e_flat_non, e_isn_non, e_ty_non, e_flat_bl, e_isn_bl, e_ty_bl, e_flat_int, e_isn_int, e_ty_int, e_flat_str, e_isn_str, e_ty_str, e_flat_scr, e_isn_scr, e_ty_scr, e_flat_lst, e_isn_lst, e_ty_lst, e_flat_tup, e_isn_tup, e_ty_tup, e_flat_dic, e_isn_dic, e_ty_dic, e_flat_dit, e_isn_dit, e_flat_obj, e_isn_obj, e_flat_ty, e_isn_ty, e_add_ii, e_add_ss, e_add_ll, e_add_tt, e_iadd_ii, e_iadd_ss, e_sub_ii, e_mul_ii, e_mul_li, e_mul_si, e_fdiv_ii, e_mod_ii, e_pow_ii, e_deq_nn, e_deq_ii, e_deq_ss, e_deq_bb, e_deq_tt, e_deq_ll, e_deq_st, e_deq_ts, e_deql_n, e_deql_c, e_deql_nc, e_deql_cn, e_isN, e_ix_l, e_ix_t, e_ix_c, e_ix_s, e_ix_d, e_ix_dt, e_in_l, e_in_t, e_in_s, e_in_d, e_in_dt, e_sl_l, e_sl_t, e_sl_s, e_len_lst, e_len_tup, e_len_s, e_len_c, e_len_d, e_int_i, e_abs_i, e_str_i, e_tup_l, e_tup_t, e_oLst0_l, e_oLst0_t, e_oLst0M_l, e_oLst0M_t, e_set_l, e_set_d, e_set_t, e_key_i, e_key_s, e_isT_non_bool, e_isT_non_int, e_isT_non_str, e_isT_non_list, e_isT_non_tuple, e_isT_non_dict, e_isT_bool_bool, e_isT_bool_int, e_isT_bool_str, e_isT_bool_list, e_isT_bool_tuple, e_isT_bool_dict, e_isT_int_bool, e_isT_int_int, e_isT_int_str, e_isT_int_list, e_isT_int_tuple, e_isT_int_dict, e_isT_str_bool, e_isT_str_int, e_isT_str_str, e_isT_str_list, e_isT_str_tuple, e_isT_str_dict, e_isT_list_bool, e_isT_list_int, e_isT_list_str, e_isT_list_list, e_isT_list_tuple, e_isT_list_dict, e_isT_tuple_bool, e_isT_tuple_int, e_isT_tuple_str, e_isT_tuple_list, e_isT_tuple_tuple, e_isT_tuple_dict, e_isT_dict_bool, e_isT_dict_int, e_isT_dict_str, e_isT_dict_list, e_isT_dict_tuple, e_isT_dict_dict, e_lt, e_le, e_gt, e_ge ]
    have hz : x.length ≤ sizeLine := by rw [sizeLine_eq]; omega
    have hp1 : ∀ k, pc (x.take k) + pc (x.drop k) = pc x := fun k => by rw [← pc_app, List.take_append_drop]
    have hp2 : ∀ k, pc (x.drop (k + 1)) ≤ pc (x.drop k) := fun k => by
      rw [← List.drop_drop]
      exact Suf.pc ⟨(x.drop k).take 1, (List.take_append_drop 1 (x.drop k)).symm⟩
    refine ⟨hz, p, c, _, rfl, hp, by omega, fun k hk => ?_⟩
    have hk : k ≤ x.length := by omega
    refine ⟨by rw [sizeLine_eq]; decide, p, c, 13, rfl, hp, by decide, fun k2 hk2 => ?_⟩
    simp only [dVar, dC, dOp, dTest, dTru, dAnd, dOr, dNot, dAndV, dOrV, dNotV, dIfE, dNil, dCons, dStar, dTup, dLst, dLstM, dFrz, dNeg, oEq, oNe, dNoO, dSoO, dSl, dNext, dSeq, dBreak, dCont, dExpr, dRet, dRetN, dIf, gNm, gNl, gCn, gTp, dAsg, dSet, dAug, dIter, dRng1, dRng2, dYes, dCallB, f1, dIsi, dJoinAt, dFmt, dJs, dJoined, dCall, dstart, rget, rset, dwipe, gSb, dApp, dPop, fMax2, fMin2, dNever, dPairs, dDispG, dDisp, dDispM, dNewK, dNewT, keyD, if_true, if_false, decide_eq_true_eq, Bool.false_eq_true, List.map_cons, List.map_nil, List.length_cons, List.length_nil, List.cons_append, List.nil_append, Nat.reduceAdd, Nat.reduceSub, List.reduceReplicate, e_vw_non, e_vw_bl, e_vw_int, e_vw_str, e_vw_scr, e_vw_lst, e_vw_tup, e_vw_dic, e_vw_dit, e_vw_obj, e_vw_ty, e_flat_non, e_isn_non, e_ty_non, e_flat_bl, e_isn_bl, e_ty_bl, e_flat_int, e_isn_int, e_ty_int, e_flat_str, e_isn_str, e_ty_str, e_flat_scr, e_isn_scr, e_ty_scr, e_flat_lst, e_isn_lst, e_ty_lst, e_flat_tup, e_isn_tup, e_ty_tup, e_flat_dic, e_isn_dic, e_ty_dic, e_flat_dit, e_isn_dit, e_flat_obj, e_isn_obj, e_flat_ty, e_isn_ty, e_add_ii, e_add_ss, e_add_ll, e_add_tt, e_iadd_ii, e_iadd_ss, e_sub_ii, e_mul_ii, e_mul_li, e_mul_si, e_fdiv_ii, e_mod_ii, e_pow_ii, e_deq_nn, e_deq_ii, e_deq_ss, e_deq_bb, e_deq_tt, e_deq_ll, e_deq_st, e_deq_ts, e_deql_n, e_deql_c, e_deql_nc, e_deql_cn, e_isN, e_ix_l, e_ix_t, e_ix_c, e_ix_s, e_ix_d, e_ix_dt, e_in_l, e_in_t, e_in_s, e_in_d, e_in_dt, e_sl_l, e_sl_t, e_sl_s, e_len_lst, e_len_tup, e_len_s, e_len_c, e_len_d, e_int_i, e_abs_i, e_str_i, e_tup_l, e_tup_t, e_oLst0_l, e_oLst0_t, e_oLst0M_l, e_oLst0M_t, e_set_l, e_set_d, e_set_t, e_key_i, e_key_s, e_isT_non_bool, e_isT_non_int, e_isT_non_str, e_isT_non_list, e_isT_non_tuple, e_isT_non_dict, e_isT_bool_bool, e_isT_bool_int, e_isT_bool_str, e_isT_bool_list, e_isT_bool_tuple, e_isT_bool_dict, e_isT_int_bool, e_isT_int_int, e_isT_int_str, e_isT_int_list, e_isT_int_tuple, e_isT_int_dict, e_isT_str_bool, e_isT_str_int, e_isT_str_str, e_isT_str_list, e_isT_str_tuple, e_isT_str_dict, e_isT_list_bool, e_isT_list_int, e_isT_list_str, e_isT_list_list, e_isT_list_tuple, e_isT_list_dict, e_isT_tuple_bool, e_isT_tuple_int, e_isT_tuple_str, e_isT_tuple_list, e_isT_tuple_tuple, e_isT_tuple_dict, e_isT_dict_bool, e_isT_dict_int, e_isT_dict_str, e_isT_dict_list, e_isT_dict_tuple, e_isT_dict_dict, e_lt, e_le, e_gt, e_ge ]
    obtain ⟨y, hy, hy1⟩ : ∃ y : Nat, atI [D.str [40], D.str [41], D.str [44], D.str [32], D.str [97], D.str [57], D.str [65], D.str [95], D.str [46], D.str [9], D.str [10], D.str [90], D.str [45]] (k2 : Int) = some (.str [y]) ∧ pc [y] ≤ 1 := by
      have h13 : k2 < 13 := by omega
      have key : ∀ k, k < 13 → ∃ y : Nat, ([D.str [40], D.str [41], D.str [44], D.str [32], D.str [97], D.str [57], D.str [65], D.str [95], D.str [46], D.str [9], D.str [10], D.str [90], D.str [45]])[k]? = some (.str [y]) ∧ pc [y] ≤ 1 := by
        intro k hk
        match k, hk with
        | 0, _ => exact ⟨_, rfl, by decide⟩
        | 1, _ => exact ⟨_, rfl, by decide⟩
        | 2, _ => exact ⟨_, rfl, by decide⟩
        | 3, _ => exact ⟨_, rfl, by decide⟩
        | 4, _ => exact ⟨_, rfl, by decide⟩
        | 5, _ => exact ⟨_, rfl, by decide⟩
        | 6, _ => exact ⟨_, rfl, by decide⟩
        | 7, _ => exact ⟨_, rfl, by decide⟩
        | 8, _ => exact ⟨_, rfl, by decide⟩
        | 9, _ => exact ⟨_, rfl, by decide⟩
        | 10, _ => exact ⟨_, rfl, by decide⟩
        | 11, _ => exact ⟨_, rfl, by decide⟩
        | 12, _ => exact ⟨_, rfl, by decide⟩
        | k + 13, h => omega
      obtain ⟨y, h1, h2⟩ := key k2 h13
      exact ⟨y, atI_nat h1, h2⟩
    refine ⟨_, hy, ?_⟩
    refine ⟨p, c, 4, rfl, hp, by decide, fun k3 hk3 => ?_⟩
    have d1 : dcut x none (some (k : Int)) = x.take k := dcut_take rfl
    have d2 : dcut x (some (k : Int)) none = x.drop k := dcut_drop rfl
    have d3 : dcut x (some ((k : Int) + 1)) none = x.drop (k + 1) := dcut_drop (by simp)
    have p1 := hp1 k
    have p2 := hp2 k
    have l1 : (x.take k).length = k := by rw [List.length_take]; omega
    have l2 : (x.drop k).length = x.length - k := List.length_drop ..
    have l3 : (x.drop (k + 1)).length = x.length - (k + 1) := List.length_drop ..
    simp only [dVar, dC, dOp, dTest, dTru, dAnd, dOr, dNot, dAndV, dOrV, dNotV, dIfE, dNil, dCons, dStar, dTup, dLst, dLstM, dFrz, dNeg, oEq, oNe, dNoO, dSoO, dSl, dNext, dSeq, dBreak, dCont, dExpr, dRet, dRetN, dIf, gNm, gNl, gCn, gTp, dAsg, dSet, dAug, dIter, dRng1, dRng2, dYes, dCallB, f1, dIsi, dJoinAt, dFmt, dJs, dJoined, dCall, dstart, rget, rset, dwipe, gSb, dApp, dPop, fMax2, fMin2, dNever, dPairs, dDispG, dDisp, dDispM, dNewK, dNewT, keyD, if_true, if_false, decide_eq_true_eq, Bool.false_eq_true, List.map_cons, List.map_nil, List.length_cons, List.length_nil, List.cons_append, List.nil_append, Nat.reduceAdd, Nat.reduceSub, List.reduceReplicate, e_vw_non, e_vw_bl, e_vw_int, e_vw_str, e_vw_scr, e_vw_lst, e_vw_tup, e_vw_dic, e_vw_dit, e_vw_obj, e_vw_ty, e_flat_non, e_isn_non, e_ty_non, e_flat_bl, e_isn_bl, e_ty_bl, e_flat_int, e_isn_int, e_ty_int, e_flat_str, e_isn_str, e_ty_str, e_flat_scr, e_isn_scr, e_ty_scr, e_flat_lst, e_isn_lst, e_ty_lst, e_flat_tup, e_isn_tup, e_ty_tup, e_flat_dic, e_isn_dic, e_ty_dic, e_flat_dit, e_isn_dit, e_flat_obj, e_isn_obj, e_flat_ty, e_isn_ty, e_add_ii, e_add_ss, e_add_ll, e_add_tt, e_iadd_ii, e_iadd_ss, e_sub_ii, e_mul_ii, e_mul_li, e_mul_si, e_fdiv_ii, e_mod_ii, e_pow_ii, e_deq_nn, e_deq_ii, e_deq_ss, e_deq_bb, e_deq_tt, e_deq_ll, e_deq_st, e_deq_ts, e_deql_n, e_deql_c, e_deql_nc, e_deql_cn, e_isN, e_ix_l, e_ix_t, e_ix_c, e_ix_s, e_ix_d, e_ix_dt, e_in_l, e_in_t, e_in_s, e_in_d, e_in_dt, e_sl_l, e_sl_t, e_sl_s, e_len_lst, e_len_tup, e_len_s, e_len_c, e_len_d, e_int_i, e_abs_i, e_str_i, e_tup_l, e_tup_t, e_oLst0_l, e_oLst0_t, e_oLst0M_l, e_oLst0M_t, e_set_l, e_set_d, e_set_t, e_key_i, e_key_s, e_isT_non_bool, e_isT_non_int, e_isT_non_str, e_isT_non_list, e_isT_non_tuple, e_isT_non_dict, e_isT_bool_bool, e_isT_bool_int, e_isT_bool_str, e_isT_bool_list, e_isT_bool_tuple, e_isT_bool_dict, e_isT_int_bool, e_isT_int_int, e_isT_int_str, e_isT_int_list, e_isT_int_tuple, e_isT_int_dict, e_isT_str_bool, e_isT_str_int, e_isT_str_str, e_isT_str_list, e_isT_str_tuple, e_isT_str_dict, e_isT_list_bool, e_isT_list_int, e_isT_list_str, e_isT_list_list, e_isT_list_tuple, e_isT_list_dict, e_isT_tuple_bool, e_isT_tuple_int, e_isT_tuple_str, e_isT_tuple_list, e_isT_tuple_tuple, e_isT_tuple_dict, e_isT_dict_bool, e_isT_dict_int, e_isT_dict_str, e_isT_dict_list, e_isT_dict_tuple, e_isT_dict_dict, e_lt, e_le, e_gt, e_ge , d1, d2, d3, l1, l2, l3, List.length_append]
    have z1 : x.length ≤ sizeLine := hz
    refine ⟨.inl ⟨trivial, trivial⟩, ?_⟩
    split
    · exact ⟨hz, _, cl, q _ (by omega) (by omega)⟩
    refine ⟨.inl ⟨trivial, trivial⟩, ?_⟩
    split
    · exact ⟨hz, by rw [sizeLine_eq]; omega, hz, by rw [sizeLine_eq]; omega, _, cl, q _ (by simp only [List.length_append, l1, l2, List.length_cons, List.length_nil]; omega) (by rw [pc_app, pc_app]; omega)⟩
    refine ⟨.inl ⟨trivial, trivial⟩, ?_⟩
    split
    · exact ⟨hz, hz, by rw [sizeLine_eq]; omega, _, cl, q _ (by simp only [List.length_append, l1, l3]; omega) (by rw [pc_app]; omega)⟩
    · exact ⟨hz, by rw [sizeLine_eq]; omega, hz, by rw [sizeLine_eq]; omega, _, cl, q _ (by simp only [List.length_append, l1, l3, List.length_cons, List.length_nil]; omega) (by rw [pc_app, pc_app]; omega)⟩
end
end K14


set_option Elab.async false
set_option linter.all false
set_option maxRecDepth 100000
set_option maxHeartbeats 400000
namespace K14
open PySem PySem.Spec PyProof.Rows L2 DL
section
variable {P : Program} {w : World} {K : PySem.W.Frag} {mg : Str → Option Value} {base : Heap}
theorem ch_lt {c : Nat} (h : c ∈ chars) : c < 0x110000 := by
  have : ∀ c ∈ chars, c < 0x110000 := by decide
  exact this c h
theorem Wd.pl {v : Cd} (h : Wd v) : v.all (· < 0x110000) = true := List.all_eq_true.mpr fun c hc => by simpa using ch_lt (h.al c hc)
theorem toD_pl : ∀ {n : Nat} {t : Tm}, Ok n t → dPl (toD t) = true ∧ dDep (toD t) ≤ n
  | n, .leaf w, h => by
    have hw : Wd w := by cases n <;> exact h
    rw [toD_leaf]
    exact ⟨by simp only [dPl]; exact hw.pl, by simp [dDep]⟩
  | 0, .node _ _, h => h.elim
  | n + 1, .node w ts, ⟨h1, h2, h3⟩ => by
    rw [toD_node]
    have key : ∀ l : List Tm, (∀ t ∈ l, Ok n t) → dPlL (l.map toD) = true ∧ dDepL (l.map toD) ≤ n := by
      intro l
      induction l with
      | nil => intro _; exact ⟨by simp [dPlL], by simp [dDepL]⟩
      | cons t r ih =>
        intro h
        obtain ⟨a1, a2⟩ := toD_pl (h t (by simp))
        obtain ⟨b1, b2⟩ := ih fun u hu => h u (by simp [hu])
        exact ⟨by simp only [List.map_cons, dPlL, a1, b1]; rfl, by simp only [List.map_cons, dDepL]; omega⟩
    obtain ⟨k1, k2⟩ := key ts h3
    exact ⟨by simp only [dPl, dPlL, h1.pl, k1]; rfl, by simp only [dDep, dDepL]; omega⟩
theorem vw_toD {M : Mp} {t : Tm} : vw M (toD t) = toD t := by cases t <;> simp only [toD_leaf, toD_node, vw]
theorem due_len : ∀ (L : Cd) (s : S5) (d k : Nat) (r : Cd), due s d k L = some r → r.length ≤ L.length
  | [], s, d, k, r, h => by
    have e : due s d k [] = if d = 0 ∧ s.fin = true then none else some [] := by cases s <;> rfl
    rw [e] at h
    split at h
    · cases h
    · cases h; exact Nat.le_refl _
  | c :: z, s, d, k, r, h => by
    simp only [due] at h
    split at h
    · cases h; exact Nat.le_refl _
    · have := due_len z _ _ _ _ h
      simp only [List.length_cons]; omega
/-- the law -/
def lawS : DSp := fun ds M Q _ => ∃ ns : List Int, ds = [.scr ns] ∧ ns.length ≤ 1000 ∧ Q (.bl true) M
theorem ok_law {cB : Addr} (m : Mg mg) {f : Addr} {fd : FuncData} (F__law_source : Fn P w K mg base 1 "_law_source" ["script"] srS) (F__law_pick : Fn P w K mg base 1 "_law_pick" ["source", "many"] pkS)
    (F__law_text : Fn P w K mg base 5 "_law_text" ["source", "deep"] (txS 3)) (F__law_spoilt : Fn P w K mg base 2 "_law_spoilt" ["source", "text"] spS) (F__law_due : Fn P w K mg base 1 "_law_due" ["text"] duS)
    (F__law_said : Fn P w K mg base 21 "_law_said" ["text"] (sdS 15)) (F_write_term : Fn P w K mg base 16 "write_term" ["term"] (wtS 15))
    (F_read_term : Fn P w K mg base 20 "read_term" ["text"] (rtS cB 15)) (Fd : FunT K "law" s_law f fd) : FnOk P w K mg base (L2.CX P w) (21 + 1) f fd ["script"] (lift K lawS) := by
  refine dfn Fd sc_law (fun ds M Q E h => ?_) fun cdv A outer s H E Ed hr => ⟨_, (dss_cons (sSet 1 sc_law.nd (cF F__law_source hr (by omega) rfl (fun σ => passAt (takes_of rfl rfl rfl rfl) σ) (da_cons (vr 0) da_nil))) (dss_cons (dFor1 (passes_of rfl) (di_range1 rfl m.range de_int) (gN 2 sc_law.nd) (dss_cons (sSet 3 sc_law.nd (cF F__law_text hr (by omega) rfl (fun σ => passAt (takes_of rfl rfl rfl rfl) σ) (da_cons (vr 1) (da_cons (cF F__law_pick hr (by omega) rfl (fun σ => passAt (takes_of rfl rfl rfl rfl) σ) (da_cons (vr 1) (da_cons de_int da_nil))) da_nil)))) (dss_cons (ds_if (dt_eq (Rm64 hr) (cF F__law_pick hr (by omega) rfl (fun σ => passAt (takes_of rfl rfl rfl rfl) σ) (da_cons (vr 1) (da_cons de_int da_nil))) de_int) (dss_cons (sSet 3 sc_law.nd (de_str [] (by kernel_rfl))) (dss_one (dFor1 (passes_of rfl) (di_range1 rfl m.range (cF F__law_pick hr (by omega) rfl (fun σ => passAt (takes_of rfl rfl rfl rfl) σ) (da_cons (vr 1) (da_cons de_int da_nil)))) (gN 4 sc_law.nd) (dss_one (sSet 3 sc_law.nd (de_add (vr 3) (de_ix (Rm1 hr) (de_str [40, 41, 44, 32, 97, 98, 57, 95] (by kernel_rfl)) (cF F__law_pick hr (by omega) rfl (fun σ => passAt (takes_of rfl rfl rfl rfl) σ) (da_cons (vr 1) (da_cons de_int da_nil)))))))))) dss_nil) (dss_cons (dFor1 (passes_of rfl) (di_range1 rfl m.range (cF F__law_pick hr (by omega) rfl (fun σ => passAt (takes_of rfl rfl rfl rfl) σ) (da_cons (vr 1) (da_cons de_int da_nil)))) (gN 4 sc_law.nd) (dss_one (sSet 3 sc_law.nd (cF F__law_spoilt hr (by omega) rfl (fun σ => passAt (takes_of rfl rfl rfl rfl) σ) (da_cons (vr 1) (da_cons (vr 3) da_nil)))))) (dss_cons (sSet 5 sc_law.nd (cF F__law_due hr (by omega) rfl (fun σ => passAt (takes_of rfl rfl rfl rfl) σ) (da_cons (vr 3) da_nil))) (dss_cons (ds_if (dt_ne (Rm64 hr) (cF F__law_said hr (by omega) rfl (fun σ => passAt (takes_of rfl rfl rfl rfl) σ) (da_cons (vr 3) da_nil)) (vr 5)) (dss_one (ds_ret de_bl)) dss_nil) (dss_one (ds_if (DW.dt (dw_and (dt_eq (Rm64 hr) (vr 5) (de_neg de_int)) (dw_and1 (dt_ne (Rm64 hr) (cF F_read_term hr (by omega) rfl (fun σ => passAt (takes_of rfl rfl rfl rfl) σ) (da_cons (cF F_write_term hr (by omega) rfl (fun σ => passAt (takes_of rfl rfl rfl rfl) σ) (da_cons (cF F_read_term hr (by omega) rfl (fun σ => passAt (takes_of rfl rfl rfl rfl) σ) (da_cons (vr 3) da_nil)) da_nil)) da_nil)) (cF F_read_term hr (by omega) rfl (fun σ => passAt (takes_of rfl rfl rfl rfl) σ) (da_cons (vr 3) da_nil)))))) (dss_one (ds_ret de_bl)) dss_nil)))))))) (dss_one (ds_ret de_bl)))), fun ds M Q cl h => ?_⟩
  · obtain ⟨_, rfl, _⟩ := h; rfl
  · obtain ⟨ns, rfl, hz, q⟩ := h
    simp only [dVar, dC, dOp, dTest, dTru, dAnd, dOr, dNot, dAndV, dOrV, dNotV, dIfE, dNil, dCons, dStar, dTup, dLst, dLstM, dFrz, dNeg, oEq, oNe, dNoO, dSoO, dSl, dNext, dSeq, dBreak, dCont, dExpr, dRet, dRetN, dIf, gNm, gNl, gCn, gTp, dAsg, dSet, dAug, dIter, dRng1, dRng2, dYes, dCallB, f1, dIsi, dJoinAt, dFmt, dJs, dJoined, dCall, dstart, rget, rset, dwipe, gSb, dApp, dPop, fMax2, fMin2, dNever, dPairs, dDispG, dDisp, dDispM, dNewK, dNewT, keyD, if_true, if_false, decide_eq_true_eq, Bool.false_eq_true, List.map_cons, List.map_nil, List.length_cons, List.length_nil, List.cons_append, List.nil_append, Nat.reduceAdd, Nat.reduceSub, List.reduceReplicate, e_vw_non, e_vw_bl, e_vw_int, e_vw_str, e_vw_scr, e_vw_lst, e_vw_tup, e_vw_dic, e_vw_dit, e_vw_obj, e_vw_ty, e_flat_non, e_isn_non, e_ty_non, e_flat_bl, e_isn_bl, e_ty_bl, e_flat_int, e_isn_int, e_ty_int, e_flat_str, e_isn_str, e_ty_str, e_flat_scr, e_isn_scr, e_ty_scr, e_flat_lst, e_isn_lst, e_ty_lst, e_flat_tup, e_isn_tup, e_ty_tup, e_flat_dic, e_isn_dic, e_ty_dic, e_flat_dit, e_isn_dit, e_flat_obj, e_isn_obj, e_flat_ty, e_isn_ty, e_add_ii, e_add_ss, e_add_ll, e_add_tt, e_iadd_ii, e_iadd_ss, e_sub_ii, e_mul_ii, e_mul_li, e_mul_si, e_fdiv_ii, e_mod_ii, e_pow_ii, e_deq_nn, e_deq_ii, e_deq_ss, e_deq_bb, e_deq_tt, e_deq_ll, e_deq_st, e_deq_ts, e_deql_n, e_deql_c, e_deql_nc, e_deql_cn, e_isN, e_ix_l, e_ix_t, e_ix_c, e_ix_s, e_ix_d, e_ix_dt, e_in_l, e_in_t, e_in_s, e_in_d, e_in_dt, e_sl_l, e_sl_t, e_sl_s, e_len_lst, e_len_tup, e_len_s, e_len_c, e_len_d, e_int_i, e_abs_i, e_str_i, e_tup_l, e_tup_t, e_oLst0_l, e_oLst0_t, e_oLst0M_l, e_oLst0M_t, e_set_l, e_set_d, e_set_t, e_key_i, e_key_s, e_isT_non_bool, e_isT_non_int, e_isT_non_str, e_isT_non_list, e_isT_non_tuple, e_isT_non_dict, e_isT_bool_bool, e_isT_bool_int, e_isT_bool_str, e_isT_bool_list, e_isT_bool_tuple, e_isT_bool_dict, e_isT_int_bool, e_isT_int_int, e_isT_int_str, e_isT_int_list, e_isT_int_tuple, e_isT_int_dict, e_isT_str_bool, e_isT_str_int, e_isT_str_str, e_isT_str_list, e_isT_str_tuple, e_isT_str_dict, e_isT_list_bool, e_isT_list_int, e_isT_list_str, e_isT_list_list, e_isT_list_tuple, e_isT_list_dict, e_isT_tuple_bool, e_isT_tuple_int, e_isT_tuple_str, e_isT_tuple_list, e_isT_tuple_tuple, e_isT_tuple_dict, e_isT_dict_bool, e_isT_dict_int, e_isT_dict_str, e_isT_dict_list, e_isT_dict_tuple, e_isT_dict_dict, e_lt, e_le, e_gt, e_ge ]
    refine ⟨ns, rfl, hz, fun p c ne hp hc => ?_⟩
    refine gen_nx (t := dFor _ _ _) fun R hR => ?_
    generalize hM1 : mset (mset M c .hid) p (.src c) = M1
    have hp1 : M1 p = some (.src c) := by rw [← hM1]; exact mset_same
    have sb : DL.Sub M M1 := by rw [← hM1]; exact (cl.new hc).new hp
    rw [dFor]
    simp only [dVar, dC, dOp, dTest, dTru, dAnd, dOr, dNot, dAndV, dOrV, dNotV, dIfE, dNil, dCons, dStar, dTup, dLst, dLstM, dFrz, dNeg, oEq, oNe, dNoO, dSoO, dSl, dNext, dSeq, dBreak, dCont, dExpr, dRet, dRetN, gNm, gNl, gCn, gTp, dAsg, dSet, dAug, dIter, dRng1, dRng2, dYes, dCallB, f1, dIsi, dJoinAt, dFmt, dJs, dJoined, dCall, dstart, rget, rset, dwipe, gSb, dApp, dPop, fMax2, fMin2, dNever, dPairs, dDispG, dDisp, dDispM, dNewK, dNewT, keyD, if_true, if_false, decide_eq_true_eq, Bool.false_eq_true, List.map_cons, List.map_nil, List.length_cons, List.length_nil, List.cons_append, List.nil_append, Nat.reduceAdd, Nat.reduceSub, List.reduceReplicate, e_vw_non, e_vw_bl, e_vw_int, e_vw_str, e_vw_scr, e_vw_lst, e_vw_tup, e_vw_dic, e_vw_dit, e_vw_obj, e_vw_ty, e_flat_non, e_isn_non, e_ty_non, e_flat_bl, e_isn_bl, e_ty_bl, e_flat_int, e_isn_int, e_ty_int, e_flat_str, e_isn_str, e_ty_str, e_flat_scr, e_isn_scr, e_ty_scr, e_flat_lst, e_isn_lst, e_ty_lst, e_flat_tup, e_isn_tup, e_ty_tup, e_flat_dic, e_isn_dic, e_ty_dic, e_flat_dit, e_isn_dit, e_flat_obj, e_isn_obj, e_flat_ty, e_isn_ty, e_add_ii, e_add_ss, e_add_ll, e_add_tt, e_iadd_ii, e_iadd_ss, e_sub_ii, e_mul_ii, e_mul_li, e_mul_si, e_fdiv_ii, e_mod_ii, e_pow_ii, e_deq_nn, e_deq_ii, e_deq_ss, e_deq_bb, e_deq_tt, e_deq_ll, e_deq_st, e_deq_ts, e_deql_n, e_deql_c, e_deql_nc, e_deql_cn, e_isN, e_ix_l, e_ix_t, e_ix_c, e_ix_s, e_ix_d, e_ix_dt, e_in_l, e_in_t, e_in_s, e_in_d, e_in_dt, e_sl_l, e_sl_t, e_sl_s, e_len_lst, e_len_tup, e_len_s, e_len_c, e_len_d, e_int_i, e_abs_i, e_str_i, e_tup_l, e_tup_t, e_oLst0_l, e_oLst0_t, e_oLst0M_l, e_oLst0M_t, e_set_l, e_set_d, e_set_t, e_key_i, e_key_s, e_isT_non_bool, e_isT_non_int, e_isT_non_str, e_isT_non_list, e_isT_non_tuple, e_isT_non_dict, e_isT_bool_bool, e_isT_bool_int, e_isT_bool_str, e_isT_bool_list, e_isT_bool_tuple, e_isT_bool_dict, e_isT_int_bool, e_isT_int_int, e_isT_int_str, e_isT_int_list, e_isT_int_tuple, e_isT_int_dict, e_isT_str_bool, e_isT_str_int, e_isT_str_str, e_isT_str_list, e_isT_str_tuple, e_isT_str_dict, e_isT_list_bool, e_isT_list_int, e_isT_list_str, e_isT_list_list, e_isT_list_tuple, e_isT_list_dict, e_isT_tuple_bool, e_isT_tuple_int, e_isT_tuple_str, e_isT_tuple_list, e_isT_tuple_tuple, e_isT_tuple_dict, e_isT_dict_bool, e_isT_dict_int, e_isT_dict_str, e_isT_dict_list, e_isT_dict_tuple, e_isT_dict_dict, e_lt, e_le, e_gt, e_ge ]
    refine ⟨by decide, by decide, fun i ρ M' => M' = M1 ∧ ∃ o1 o2 o3 o4, ρ = [some (.scr ns), some (.ref p), o1, o2, o3, o4], ⟨rfl, _, _, _, _, rfl⟩, ?_, ?_⟩
    · rintro i d ρ M' hi ⟨rfl, o1, o2, o3, o4, rfl⟩
      simp only [dVar, dC, dOp, dTest, dTru, dAnd, dOr, dNot, dAndV, dOrV, dNotV, dIfE, dNil, dCons, dStar, dTup, dLst, dLstM, dFrz, dNeg, oEq, oNe, dNoO, dSoO, dSl, dNext, dSeq, dBreak, dCont, dExpr, dRet, dRetN, gNm, gNl, gCn, gTp, dAsg, dSet, dAug, dIter, dRng1, dRng2, dYes, dCallB, f1, dIsi, dJoinAt, dFmt, dJs, dJoined, dCall, dstart, rget, rset, dwipe, gSb, dApp, dPop, fMax2, fMin2, dNever, dPairs, dDispG, dDisp, dDispM, dNewK, dNewT, keyD, if_true, if_false, decide_eq_true_eq, Bool.false_eq_true, List.map_cons, List.map_nil, List.length_cons, List.length_nil, List.cons_append, List.nil_append, Nat.reduceAdd, Nat.reduceSub, List.reduceReplicate, e_vw_non, e_vw_bl, e_vw_int, e_vw_str, e_vw_scr, e_vw_lst, e_vw_tup, e_vw_dic, e_vw_dit, e_vw_obj, e_vw_ty, e_flat_non, e_isn_non, e_ty_non, e_flat_bl, e_isn_bl, e_ty_bl, e_flat_int, e_isn_int, e_ty_int, e_flat_str, e_isn_str, e_ty_str, e_flat_scr, e_isn_scr, e_ty_scr, e_flat_lst, e_isn_lst, e_ty_lst, e_flat_tup, e_isn_tup, e_ty_tup, e_flat_dic, e_isn_dic, e_ty_dic, e_flat_dit, e_isn_dit, e_flat_obj, e_isn_obj, e_flat_ty, e_isn_ty, e_add_ii, e_add_ss, e_add_ll, e_add_tt, e_iadd_ii, e_iadd_ss, e_sub_ii, e_mul_ii, e_mul_li, e_mul_si, e_fdiv_ii, e_mod_ii, e_pow_ii, e_deq_nn, e_deq_ii, e_deq_ss, e_deq_bb, e_deq_tt, e_deq_ll, e_deq_st, e_deq_ts, e_deql_n, e_deql_c, e_deql_nc, e_deql_cn, e_isN, e_ix_l, e_ix_t, e_ix_c, e_ix_s, e_ix_d, e_ix_dt, e_in_l, e_in_t, e_in_s, e_in_d, e_in_dt, e_sl_l, e_sl_t, e_sl_s, e_len_lst, e_len_tup, e_len_s, e_len_c, e_len_d, e_int_i, e_abs_i, e_str_i, e_tup_l, e_tup_t, e_oLst0_l, e_oLst0_t, e_oLst0M_l, e_oLst0M_t, e_set_l, e_set_d, e_set_t, e_key_i, e_key_s, e_isT_non_bool, e_isT_non_int, e_isT_non_str, e_isT_non_list, e_isT_non_tuple, e_isT_non_dict, e_isT_bool_bool, e_isT_bool_int, e_isT_bool_str, e_isT_bool_list, e_isT_bool_tuple, e_isT_bool_dict, e_isT_int_bool, e_isT_int_int, e_isT_int_str, e_isT_int_list, e_isT_int_tuple, e_isT_int_dict, e_isT_str_bool, e_isT_str_int, e_isT_str_str, e_isT_str_list, e_isT_str_tuple, e_isT_str_dict, e_isT_list_bool, e_isT_list_int, e_isT_list_str, e_isT_list_list, e_isT_list_tuple, e_isT_list_dict, e_isT_tuple_bool, e_isT_tuple_int, e_isT_tuple_str, e_isT_tuple_list, e_isT_tuple_tuple, e_isT_tuple_dict, e_isT_dict_bool, e_isT_dict_int, e_isT_dict_str, e_isT_dict_list, e_isT_dict_tuple, e_isT_dict_dict, e_lt, e_le, e_gt, e_ge ]
      refine ⟨p, c, 4, rfl, hp1, by decide, fun k hk => ⟨p, c, k, rfl, by omega, by decide, hp1, fun x hx hpx => ?_⟩⟩
      have hL3 : Ln k ≤ 636 ∧ Pn k ≤ 13 := by
        have : k ≤ 3 := by omega
        match k, this with
        | 0, _ => decide
        | 1, _ => decide
        | 2, _ => decide
        | 3, _ => decide
      have hx : x.length ≤ 636 := by omega
      have hpx : pc x ≤ 13 := by omega
      refine gen_nx (t := dIf _ _ _) fun R2 hR2 => ?_
      have go2 : ∀ (x : Cd) (o : Option D), x.length ≤ 636 → pc x ≤ 13 → R2 [some (.scr ns), some (.ref p), some d, some (.str x), o, o4] M' := by
        intro x o hx hpx
        refine hR2 _ _ ?_
        clear hR2
        simp only [dSeq]
        refine gen_nx (t := dFor _ _ _) fun R3 hR3 => ?_
        rw [dFor]
        simp only [dVar, dC, dOp, dTest, dTru, dAnd, dOr, dNot, dAndV, dOrV, dNotV, dIfE, dNil, dCons, dStar, dTup, dLst, dLstM, dFrz, dNeg, oEq, oNe, dNoO, dSoO, dSl, dNext, dSeq, dBreak, dCont, dExpr, dRet, dRetN, gNm, gNl, gCn, gTp, dAsg, dSet, dAug, dIter, dRng1, dRng2, dYes, dCallB, f1, dIsi, dJoinAt, dFmt, dJs, dJoined, dCall, dstart, rget, rset, dwipe, gSb, dApp, dPop, fMax2, fMin2, dNever, dPairs, dDispG, dDisp, dDispM, dNewK, dNewT, keyD, if_true, if_false, decide_eq_true_eq, Bool.false_eq_true, List.map_cons, List.map_nil, List.length_cons, List.length_nil, List.cons_append, List.nil_append, Nat.reduceAdd, Nat.reduceSub, List.reduceReplicate, e_vw_non, e_vw_bl, e_vw_int, e_vw_str, e_vw_scr, e_vw_lst, e_vw_tup, e_vw_dic, e_vw_dit, e_vw_obj, e_vw_ty, e_flat_non, e_isn_non, e_ty_non, e_flat_bl, e_isn_bl, e_ty_bl, e_flat_int, e_isn_int, e_ty_int, e_flat_str, e_isn_str, e_ty_str, e_flat_scr, e_isn_scr, e_ty_scr, e_flat_lst, e_isn_lst, e_ty_lst, e_flat_tup, e_isn_tup, e_ty_tup, e_flat_dic, e_isn_dic, e_ty_dic, e_flat_dit, e_isn_dit, e_flat_obj, e_isn_obj, e_flat_ty, e_isn_ty, e_add_ii, e_add_ss, e_add_ll, e_add_tt, e_iadd_ii, e_iadd_ss, e_sub_ii, e_mul_ii, e_mul_li, e_mul_si, e_fdiv_ii, e_mod_ii, e_pow_ii, e_deq_nn, e_deq_ii, e_deq_ss, e_deq_bb, e_deq_tt, e_deq_ll, e_deq_st, e_deq_ts, e_deql_n, e_deql_c, e_deql_nc, e_deql_cn, e_isN, e_ix_l, e_ix_t, e_ix_c, e_ix_s, e_ix_d, e_ix_dt, e_in_l, e_in_t, e_in_s, e_in_d, e_in_dt, e_sl_l, e_sl_t, e_sl_s, e_len_lst, e_len_tup, e_len_s, e_len_c, e_len_d, e_int_i, e_abs_i, e_str_i, e_tup_l, e_tup_t, e_oLst0_l, e_oLst0_t, e_oLst0M_l, e_oLst0M_t, e_set_l, e_set_d, e_set_t, e_key_i, e_key_s, e_isT_non_bool, e_isT_non_int, e_isT_non_str, e_isT_non_list, e_isT_non_tuple, e_isT_non_dict, e_isT_bool_bool, e_isT_bool_int, e_isT_bool_str, e_isT_bool_list, e_isT_bool_tuple, e_isT_bool_dict, e_isT_int_bool, e_isT_int_int, e_isT_int_str, e_isT_int_list, e_isT_int_tuple, e_isT_int_dict, e_isT_str_bool, e_isT_str_int, e_isT_str_str, e_isT_str_list, e_isT_str_tuple, e_isT_str_dict, e_isT_list_bool, e_isT_list_int, e_isT_list_str, e_isT_list_list, e_isT_list_tuple, e_isT_list_dict, e_isT_tuple_bool, e_isT_tuple_int, e_isT_tuple_str, e_isT_tuple_list, e_isT_tuple_tuple, e_isT_tuple_dict, e_isT_dict_bool, e_isT_dict_int, e_isT_dict_str, e_isT_dict_list, e_isT_dict_tuple, e_isT_dict_dict, e_lt, e_le, e_gt, e_ge ]
        refine ⟨p, c, 3, rfl, hp1, by decide, fun k3 hk3 => ?_⟩
        simp only [dVar, dC, dOp, dTest, dTru, dAnd, dOr, dNot, dAndV, dOrV, dNotV, dIfE, dNil, dCons, dStar, dTup, dLst, dLstM, dFrz, dNeg, oEq, oNe, dNoO, dSoO, dSl, dNext, dSeq, dBreak, dCont, dExpr, dRet, dRetN, gNm, gNl, gCn, gTp, dAsg, dSet, dAug, dIter, dRng1, dRng2, dYes, dCallB, f1, dIsi, dJoinAt, dFmt, dJs, dJoined, dCall, dstart, rget, rset, dwipe, gSb, dApp, dPop, fMax2, fMin2, dNever, dPairs, dDispG, dDisp, dDispM, dNewK, dNewT, keyD, if_true, if_false, decide_eq_true_eq, Bool.false_eq_true, List.map_cons, List.map_nil, List.length_cons, List.length_nil, List.cons_append, List.nil_append, Nat.reduceAdd, Nat.reduceSub, List.reduceReplicate, e_vw_non, e_vw_bl, e_vw_int, e_vw_str, e_vw_scr, e_vw_lst, e_vw_tup, e_vw_dic, e_vw_dit, e_vw_obj, e_vw_ty, e_flat_non, e_isn_non, e_ty_non, e_flat_bl, e_isn_bl, e_ty_bl, e_flat_int, e_isn_int, e_ty_int, e_flat_str, e_isn_str, e_ty_str, e_flat_scr, e_isn_scr, e_ty_scr, e_flat_lst, e_isn_lst, e_ty_lst, e_flat_tup, e_isn_tup, e_ty_tup, e_flat_dic, e_isn_dic, e_ty_dic, e_flat_dit, e_isn_dit, e_flat_obj, e_isn_obj, e_flat_ty, e_isn_ty, e_add_ii, e_add_ss, e_add_ll, e_add_tt, e_iadd_ii, e_iadd_ss, e_sub_ii, e_mul_ii, e_mul_li, e_mul_si, e_fdiv_ii, e_mod_ii, e_pow_ii, e_deq_nn, e_deq_ii, e_deq_ss, e_deq_bb, e_deq_tt, e_deq_ll, e_deq_st, e_deq_ts, e_deql_n, e_deql_c, e_deql_nc, e_deql_cn, e_isN, e_ix_l, e_ix_t, e_ix_c, e_ix_s, e_ix_d, e_ix_dt, e_in_l, e_in_t, e_in_s, e_in_d, e_in_dt, e_sl_l, e_sl_t, e_sl_s, e_len_lst, e_len_tup, e_len_s, e_len_c, e_len_d, e_int_i, e_abs_i, e_str_i, e_tup_l, e_tup_t, e_oLst0_l, e_oLst0_t, e_oLst0M_l, e_oLst0M_t, e_set_l, e_set_d, e_set_t, e_key_i, e_key_s, e_isT_non_bool, e_isT_non_int, e_isT_non_str, e_isT_non_list, e_isT_non_tuple, e_isT_non_dict, e_isT_bool_bool, e_isT_bool_int, e_isT_bool_str, e_isT_bool_list, e_isT_bool_tuple, e_isT_bool_dict, e_isT_int_bool, e_isT_int_int, e_isT_int_str, e_isT_int_list, e_isT_int_tuple, e_isT_int_dict, e_isT_str_bool, e_isT_str_int, e_isT_str_str, e_isT_str_list, e_isT_str_tuple, e_isT_str_dict, e_isT_list_bool, e_isT_list_int, e_isT_list_str, e_isT_list_list, e_isT_list_tuple, e_isT_list_dict, e_isT_tuple_bool, e_isT_tuple_int, e_isT_tuple_str, e_isT_tuple_list, e_isT_tuple_tuple, e_isT_tuple_dict, e_isT_dict_bool, e_isT_dict_int, e_isT_dict_str, e_isT_dict_list, e_isT_dict_tuple, e_isT_dict_dict, e_lt, e_le, e_gt, e_ge ]
        refine ⟨by omega, by omega, fun i ρ M2 => M2 = M' ∧ i ≤ k3 ∧ ∃ v o, ρ = [some (.scr ns), some (.ref p), some d, some (.str v), o, o4] ∧ v.length ≤ 636 + i ∧ pc v ≤ 13 + i, ⟨rfl, by omega, x, _, rfl, by omega, by omega⟩, ?_, ?_⟩
        · rintro i y ρ M2 hi ⟨rfl, _, v, o, rfl, hv, hpv⟩
          have hlt := (List.getElem?_eq_some_iff.mp hi).1
          simp only [rngD, List.length_map, List.length_range, Int.toNat_natCast] at hlt
          simp only [dVar, dC, dOp, dTest, dTru, dAnd, dOr, dNot, dAndV, dOrV, dNotV, dIfE, dNil, dCons, dStar, dTup, dLst, dLstM, dFrz, dNeg, oEq, oNe, dNoO, dSoO, dSl, dNext, dSeq, dBreak, dCont, dExpr, dRet, dRetN, dIf, gNm, gNl, gCn, gTp, dAsg, dSet, dAug, dIter, dRng1, dRng2, dYes, dCallB, f1, dIsi, dJoinAt, dFmt, dJs, dJoined, dCall, dstart, rget, rset, dwipe, gSb, dApp, dPop, fMax2, fMin2, dNever, dPairs, dDispG, dDisp, dDispM, dNewK, dNewT, keyD, if_true, if_false, decide_eq_true_eq, Bool.false_eq_true, List.map_cons, List.map_nil, List.length_cons, List.length_nil, List.cons_append, List.nil_append, Nat.reduceAdd, Nat.reduceSub, List.reduceReplicate, e_vw_non, e_vw_bl, e_vw_int, e_vw_str, e_vw_scr, e_vw_lst, e_vw_tup, e_vw_dic, e_vw_dit, e_vw_obj, e_vw_ty, e_flat_non, e_isn_non, e_ty_non, e_flat_bl, e_isn_bl, e_ty_bl, e_flat_int, e_isn_int, e_ty_int, e_flat_str, e_isn_str, e_ty_str, e_flat_scr, e_isn_scr, e_ty_scr, e_flat_lst, e_isn_lst, e_ty_lst, e_flat_tup, e_isn_tup, e_ty_tup, e_flat_dic, e_isn_dic, e_ty_dic, e_flat_dit, e_isn_dit, e_flat_obj, e_isn_obj, e_flat_ty, e_isn_ty, e_add_ii, e_add_ss, e_add_ll, e_add_tt, e_iadd_ii, e_iadd_ss, e_sub_ii, e_mul_ii, e_mul_li, e_mul_si, e_fdiv_ii, e_mod_ii, e_pow_ii, e_deq_nn, e_deq_ii, e_deq_ss, e_deq_bb, e_deq_tt, e_deq_ll, e_deq_st, e_deq_ts, e_deql_n, e_deql_c, e_deql_nc, e_deql_cn, e_isN, e_ix_l, e_ix_t, e_ix_c, e_ix_s, e_ix_d, e_ix_dt, e_in_l, e_in_t, e_in_s, e_in_d, e_in_dt, e_sl_l, e_sl_t, e_sl_s, e_len_lst, e_len_tup, e_len_s, e_len_c, e_len_d, e_int_i, e_abs_i, e_str_i, e_tup_l, e_tup_t, e_oLst0_l, e_oLst0_t, e_oLst0M_l, e_oLst0M_t, e_set_l, e_set_d, e_set_t, e_key_i, e_key_s, e_isT_non_bool, e_isT_non_int, e_isT_non_str, e_isT_non_list, e_isT_non_tuple, e_isT_non_dict, e_isT_bool_bool, e_isT_bool_int, e_isT_bool_str, e_isT_bool_list, e_isT_bool_tuple, e_isT_bool_dict, e_isT_int_bool, e_isT_int_int, e_isT_int_str, e_isT_int_list, e_isT_int_tuple, e_isT_int_dict, e_isT_str_bool, e_isT_str_int, e_isT_str_str, e_isT_str_list, e_isT_str_tuple, e_isT_str_dict, e_isT_list_bool, e_isT_list_int, e_isT_list_str, e_isT_list_list, e_isT_list_tuple, e_isT_list_dict, e_isT_tuple_bool, e_isT_tuple_int, e_isT_tuple_str, e_isT_tuple_list, e_isT_tuple_tuple, e_isT_tuple_dict, e_isT_dict_bool, e_isT_dict_int, e_isT_dict_str, e_isT_dict_list, e_isT_dict_tuple, e_isT_dict_dict, e_lt, e_le, e_gt, e_ge ]
          refine ⟨p, c, v, rfl, by omega, hp1, fun y hy hpy => ?_⟩
          exact ⟨rfl, hlt, y, _, rfl, by omega, by omega⟩
        · rintro ρ M2 ⟨rfl, hk4, v, o, rfl, hv, hpv⟩
          refine hR3 _ _ ?_
          simp only [rngD, List.length_map, List.length_range, Int.toNat_natCast] at hv hpv
          have hv : v.length ≤ 638 := by omega
          have hpv : pc v ≤ 15 := by omega
          simp only [dVar, dC, dOp, dTest, dTru, dAnd, dOr, dNot, dAndV, dOrV, dNotV, dIfE, dNil, dCons, dStar, dTup, dLst, dLstM, dFrz, dNeg, oEq, oNe, dNoO, dSoO, dSl, dNext, dSeq, dBreak, dCont, dExpr, dRet, dRetN, dIf, gNm, gNl, gCn, gTp, dAsg, dSet, dAug, dIter, dRng1, dRng2, dYes, dCallB, f1, dIsi, dJoinAt, dFmt, dJs, dJoined, dCall, dstart, rget, rset, dwipe, gSb, dApp, dPop, fMax2, fMin2, dNever, dPairs, dDispG, dDisp, dDispM, dNewK, dNewT, keyD, if_true, if_false, decide_eq_true_eq, Bool.false_eq_true, List.map_cons, List.map_nil, List.length_cons, List.length_nil, List.cons_append, List.nil_append, Nat.reduceAdd, Nat.reduceSub, List.reduceReplicate, e_vw_non, e_vw_bl, e_vw_int, e_vw_str, e_vw_scr, e_vw_lst, e_vw_tup, e_vw_dic, e_vw_dit, e_vw_obj, e_vw_ty, e_flat_non, e_isn_non, e_ty_non, e_flat_bl, e_isn_bl, e_ty_bl, e_flat_int, e_isn_int, e_ty_int, e_flat_str, e_isn_str, e_ty_str, e_flat_scr, e_isn_scr, e_ty_scr, e_flat_lst, e_isn_lst, e_ty_lst, e_flat_tup, e_isn_tup, e_ty_tup, e_flat_dic, e_isn_dic, e_ty_dic, e_flat_dit, e_isn_dit, e_flat_obj, e_isn_obj, e_flat_ty, e_isn_ty, e_add_ii, e_add_ss, e_add_ll, e_add_tt, e_iadd_ii, e_iadd_ss, e_sub_ii, e_mul_ii, e_mul_li, e_mul_si, e_fdiv_ii, e_mod_ii, e_pow_ii, e_deq_nn, e_deq_ii, e_deq_ss, e_deq_bb, e_deq_tt, e_deq_ll, e_deq_st, e_deq_ts, e_deql_n, e_deql_c, e_deql_nc, e_deql_cn, e_isN, e_ix_l, e_ix_t, e_ix_c, e_ix_s, e_ix_d, e_ix_dt, e_in_l, e_in_t, e_in_s, e_in_d, e_in_dt, e_sl_l, e_sl_t, e_sl_s, e_len_lst, e_len_tup, e_len_s, e_len_c, e_len_d, e_int_i, e_abs_i, e_str_i, e_tup_l, e_tup_t, e_oLst0_l, e_oLst0_t, e_oLst0M_l, e_oLst0M_t, e_set_l, e_set_d, e_set_t, e_key_i, e_key_s, e_isT_non_bool, e_isT_non_int, e_isT_non_str, e_isT_non_list, e_isT_non_tuple, e_isT_non_dict, e_isT_bool_bool, e_isT_bool_int, e_isT_bool_str, e_isT_bool_list, e_isT_bool_tuple, e_isT_bool_dict, e_isT_int_bool, e_isT_int_int, e_isT_int_str, e_isT_int_list, e_isT_int_tuple, e_isT_int_dict, e_isT_str_bool, e_isT_str_int, e_isT_str_str, e_isT_str_list, e_isT_str_tuple, e_isT_str_dict, e_isT_list_bool, e_isT_list_int, e_isT_list_str, e_isT_list_list, e_isT_list_tuple, e_isT_list_dict, e_isT_tuple_bool, e_isT_tuple_int, e_isT_tuple_str, e_isT_tuple_list, e_isT_tuple_tuple, e_isT_tuple_dict, e_isT_dict_bool, e_isT_dict_int, e_isT_dict_str, e_isT_dict_list, e_isT_dict_tuple, e_isT_dict_dict, e_lt, e_le, e_gt, e_ge ]
          refine ⟨v, rfl, by omega, ?_⟩
          refine ⟨v, rfl, by omega, hpv, ?_⟩
          rw [saidV_eq hpv]
          have e0 : ∀ (M : Mp) (i : Int), vw M (.int i) = .int i := fun _ _ => rfl
          refine ⟨.inl ⟨rfl, rfl⟩, ?_⟩
          refine ifF (by simp [vw, deq]) ?_
          refine ⟨.inl ⟨rfl, trivial⟩, ?_⟩
          by_cases hdv : dueV v = -1
          · refine ifT (by rw [hdv]; simp [vw, deq]) ?_
            cases e : rd 15 v with
            | bad r =>
              exfalso
              have e1 := (rd_due hpv).2 r e
              have e2 := due_len _ _ _ _ _ e1
              unfold dueV at hdv
              rw [e1] at hdv
              dsimp only at hdv
              omega
            | ok t r =>
              obtain ⟨ok, wl, wp⟩ := rd_Ok (by omega) e
              have e2 := rd_wr ok
              obtain ⟨pl, dp⟩ := toD_pl ok
              have cm := cmpOk_pl pl (by omega)
              refine ⟨v, rfl, by omega, hpv, fun t' r' e' => ?_, fun r' e' => by rw [e] at e'; cases e'⟩
              rw [e] at e'; cases e'
              refine ⟨t, rfl, ok, by omega, ?_⟩
              refine ⟨wr t, rfl, by omega, by omega, fun t' r' e' => ?_, fun r' e' => by rw [e2] at e'; cases e'⟩
              rw [e2] at e'; cases e'
              refine ⟨v, rfl, by omega, hpv, fun t' r' e' => ?_, fun r' e' => by rw [e] at e'; cases e'⟩
              rw [e] at e'; cases e'
              refine ⟨.inr ⟨by rw [vw_toD]; exact cm, by rw [vw_toD]; exact cm⟩, ?_⟩
              refine ifF (by rw [vw_toD, deq_refl _ pl]; simp) ?_
              exact ⟨rfl, _, _, _, _, rfl⟩
          · refine ifF (by simp [vw, deq, hdv]) ?_
            exact ⟨rfl, _, _, _, _, rfl⟩
      clear hR2
      simp only [dVar, dC, dOp, dTest, dTru, dAnd, dOr, dNot, dAndV, dOrV, dNotV, dIfE, dNil, dCons, dStar, dTup, dLst, dLstM, dFrz, dNeg, oEq, oNe, dNoO, dSoO, dSl, dNext, dSeq, dBreak, dCont, dExpr, dRet, dRetN, dIf, gNm, gNl, gCn, gTp, dAsg, dSet, dAug, dIter, dRng1, dRng2, dYes, dCallB, f1, dIsi, dJoinAt, dFmt, dJs, dJoined, dCall, dstart, rget, rset, dwipe, gSb, dApp, dPop, fMax2, fMin2, dNever, dPairs, dDispG, dDisp, dDispM, dNewK, dNewT, keyD, if_true, if_false, decide_eq_true_eq, Bool.false_eq_true, List.map_cons, List.map_nil, List.length_cons, List.length_nil, List.cons_append, List.nil_append, Nat.reduceAdd, Nat.reduceSub, List.reduceReplicate, e_vw_non, e_vw_bl, e_vw_int, e_vw_str, e_vw_scr, e_vw_lst, e_vw_tup, e_vw_dic, e_vw_dit, e_vw_obj, e_vw_ty, e_flat_non, e_isn_non, e_ty_non, e_flat_bl, e_isn_bl, e_ty_bl, e_flat_int, e_isn_int, e_ty_int, e_flat_str, e_isn_str, e_ty_str, e_flat_scr, e_isn_scr, e_ty_scr, e_flat_lst, e_isn_lst, e_ty_lst, e_flat_tup, e_isn_tup, e_ty_tup, e_flat_dic, e_isn_dic, e_ty_dic, e_flat_dit, e_isn_dit, e_flat_obj, e_isn_obj, e_flat_ty, e_isn_ty, e_add_ii, e_add_ss, e_add_ll, e_add_tt, e_iadd_ii, e_iadd_ss, e_sub_ii, e_mul_ii, e_mul_li, e_mul_si, e_fdiv_ii, e_mod_ii, e_pow_ii, e_deq_nn, e_deq_ii, e_deq_ss, e_deq_bb, e_deq_tt, e_deq_ll, e_deq_st, e_deq_ts, e_deql_n, e_deql_c, e_deql_nc, e_deql_cn, e_isN, e_ix_l, e_ix_t, e_ix_c, e_ix_s, e_ix_d, e_ix_dt, e_in_l, e_in_t, e_in_s, e_in_d, e_in_dt, e_sl_l, e_sl_t, e_sl_s, e_len_lst, e_len_tup, e_len_s, e_len_c, e_len_d, e_int_i, e_abs_i, e_str_i, e_tup_l, e_tup_t, e_oLst0_l, e_oLst0_t, e_oLst0M_l, e_oLst0M_t, e_set_l, e_set_d, e_set_t, e_key_i, e_key_s, e_isT_non_bool, e_isT_non_int, e_isT_non_str, e_isT_non_list, e_isT_non_tuple, e_isT_non_dict, e_isT_bool_bool, e_isT_bool_int, e_isT_bool_str, e_isT_bool_list, e_isT_bool_tuple, e_isT_bool_dict, e_isT_int_bool, e_isT_int_int, e_isT_int_str, e_isT_int_list, e_isT_int_tuple, e_isT_int_dict, e_isT_str_bool, e_isT_str_int, e_isT_str_str, e_isT_str_list, e_isT_str_tuple, e_isT_str_dict, e_isT_list_bool, e_isT_list_int, e_isT_list_str, e_isT_list_list, e_isT_list_tuple, e_isT_list_dict, e_isT_tuple_bool, e_isT_tuple_int, e_isT_tuple_str, e_isT_tuple_list, e_isT_tuple_tuple, e_isT_tuple_dict, e_isT_dict_bool, e_isT_dict_int, e_isT_dict_str, e_isT_dict_list, e_isT_dict_tuple, e_isT_dict_dict, e_lt, e_le, e_gt, e_ge ]
      refine ⟨p, c, 3, rfl, hp1, by decide, fun k2 hk2 => ?_⟩
      refine ⟨.inl ⟨rfl, trivial⟩, ?_⟩
      simp only [dVar, dC, dOp, dTest, dTru, dAnd, dOr, dNot, dAndV, dOrV, dNotV, dIfE, dNil, dCons, dStar, dTup, dLst, dLstM, dFrz, dNeg, oEq, oNe, dNoO, dSoO, dSl, dNext, dSeq, dBreak, dCont, dExpr, dRet, dRetN, dIf, gNm, gNl, gCn, gTp, dAsg, dSet, dAug, dIter, dRng1, dRng2, dYes, dCallB, f1, dIsi, dJoinAt, dFmt, dJs, dJoined, dCall, dstart, rget, rset, dwipe, gSb, dApp, dPop, fMax2, fMin2, dNever, dPairs, dDispG, dDisp, dDispM, dNewK, dNewT, keyD, if_true, if_false, decide_eq_true_eq, Bool.false_eq_true, List.map_cons, List.map_nil, List.length_cons, List.length_nil, List.cons_append, List.nil_append, Nat.reduceAdd, Nat.reduceSub, List.reduceReplicate, e_vw_non, e_vw_bl, e_vw_int, e_vw_str, e_vw_scr, e_vw_lst, e_vw_tup, e_vw_dic, e_vw_dit, e_vw_obj, e_vw_ty, e_flat_non, e_isn_non, e_ty_non, e_flat_bl, e_isn_bl, e_ty_bl, e_flat_int, e_isn_int, e_ty_int, e_flat_str, e_isn_str, e_ty_str, e_flat_scr, e_isn_scr, e_ty_scr, e_flat_lst, e_isn_lst, e_ty_lst, e_flat_tup, e_isn_tup, e_ty_tup, e_flat_dic, e_isn_dic, e_ty_dic, e_flat_dit, e_isn_dit, e_flat_obj, e_isn_obj, e_flat_ty, e_isn_ty, e_add_ii, e_add_ss, e_add_ll, e_add_tt, e_iadd_ii, e_iadd_ss, e_sub_ii, e_mul_ii, e_mul_li, e_mul_si, e_fdiv_ii, e_mod_ii, e_pow_ii, e_deq_nn, e_deq_ii, e_deq_ss, e_deq_bb, e_deq_tt, e_deq_ll, e_deq_st, e_deq_ts, e_deql_n, e_deql_c, e_deql_nc, e_deql_cn, e_isN, e_ix_l, e_ix_t, e_ix_c, e_ix_s, e_ix_d, e_ix_dt, e_in_l, e_in_t, e_in_s, e_in_d, e_in_dt, e_sl_l, e_sl_t, e_sl_s, e_len_lst, e_len_tup, e_len_s, e_len_c, e_len_d, e_int_i, e_abs_i, e_str_i, e_tup_l, e_tup_t, e_oLst0_l, e_oLst0_t, e_oLst0M_l, e_oLst0M_t, e_set_l, e_set_d, e_set_t, e_key_i, e_key_s, e_isT_non_bool, e_isT_non_int, e_isT_non_str, e_isT_non_list, e_isT_non_tuple, e_isT_non_dict, e_isT_bool_bool, e_isT_bool_int, e_isT_bool_str, e_isT_bool_list, e_isT_bool_tuple, e_isT_bool_dict, e_isT_int_bool, e_isT_int_int, e_isT_int_str, e_isT_int_list, e_isT_int_tuple, e_isT_int_dict, e_isT_str_bool, e_isT_str_int, e_isT_str_str, e_isT_str_list, e_isT_str_tuple, e_isT_str_dict, e_isT_list_bool, e_isT_list_int, e_isT_list_str, e_isT_list_list, e_isT_list_tuple, e_isT_list_dict, e_isT_tuple_bool, e_isT_tuple_int, e_isT_tuple_str, e_isT_tuple_list, e_isT_tuple_tuple, e_isT_tuple_dict, e_isT_dict_bool, e_isT_dict_int, e_isT_dict_str, e_isT_dict_list, e_isT_dict_tuple, e_isT_dict_dict, e_lt, e_le, e_gt, e_ge ]
      split
      · rw [dFor]
        simp only [dVar, dC, dOp, dTest, dTru, dAnd, dOr, dNot, dAndV, dOrV, dNotV, dIfE, dNil, dCons, dStar, dTup, dLst, dLstM, dFrz, dNeg, oEq, oNe, dNoO, dSoO, dSl, dNext, dSeq, dBreak, dCont, dExpr, dRet, dRetN, dIf, gNm, gNl, gCn, gTp, dAsg, dSet, dAug, dIter, dRng1, dRng2, dYes, dCallB, f1, dIsi, dJoinAt, dFmt, dJs, dJoined, dCall, dstart, rget, rset, dwipe, gSb, dApp, dPop, fMax2, fMin2, dNever, dPairs, dDispG, dDisp, dDispM, dNewK, dNewT, keyD, if_true, if_false, decide_eq_true_eq, Bool.false_eq_true, List.map_cons, List.map_nil, List.length_cons, List.length_nil, List.cons_append, List.nil_append, Nat.reduceAdd, Nat.reduceSub, List.reduceReplicate, e_vw_non, e_vw_bl, e_vw_int, e_vw_str, e_vw_scr, e_vw_lst, e_vw_tup, e_vw_dic, e_vw_dit, e_vw_obj, e_vw_ty, e_flat_non, e_isn_non, e_ty_non, e_flat_bl, e_isn_bl, e_ty_bl, e_flat_int, e_isn_int, e_ty_int, e_flat_str, e_isn_str, e_ty_str, e_flat_scr, e_isn_scr, e_ty_scr, e_flat_lst, e_isn_lst, e_ty_lst, e_flat_tup, e_isn_tup, e_ty_tup, e_flat_dic, e_isn_dic, e_ty_dic, e_flat_dit, e_isn_dit, e_flat_obj, e_isn_obj, e_flat_ty, e_isn_ty, e_add_ii, e_add_ss, e_add_ll, e_add_tt, e_iadd_ii, e_iadd_ss, e_sub_ii, e_mul_ii, e_mul_li, e_mul_si, e_fdiv_ii, e_mod_ii, e_pow_ii, e_deq_nn, e_deq_ii, e_deq_ss, e_deq_bb, e_deq_tt, e_deq_ll, e_deq_st, e_deq_ts, e_deql_n, e_deql_c, e_deql_nc, e_deql_cn, e_isN, e_ix_l, e_ix_t, e_ix_c, e_ix_s, e_ix_d, e_ix_dt, e_in_l, e_in_t, e_in_s, e_in_d, e_in_dt, e_sl_l, e_sl_t, e_sl_s, e_len_lst, e_len_tup, e_len_s, e_len_c, e_len_d, e_int_i, e_abs_i, e_str_i, e_tup_l, e_tup_t, e_oLst0_l, e_oLst0_t, e_oLst0M_l, e_oLst0M_t, e_set_l, e_set_d, e_set_t, e_key_i, e_key_s, e_isT_non_bool, e_isT_non_int, e_isT_non_str, e_isT_non_list, e_isT_non_tuple, e_isT_non_dict, e_isT_bool_bool, e_isT_bool_int, e_isT_bool_str, e_isT_bool_list, e_isT_bool_tuple, e_isT_bool_dict, e_isT_int_bool, e_isT_int_int, e_isT_int_str, e_isT_int_list, e_isT_int_tuple, e_isT_int_dict, e_isT_str_bool, e_isT_str_int, e_isT_str_str, e_isT_str_list, e_isT_str_tuple, e_isT_str_dict, e_isT_list_bool, e_isT_list_int, e_isT_list_str, e_isT_list_list, e_isT_list_tuple, e_isT_list_dict, e_isT_tuple_bool, e_isT_tuple_int, e_isT_tuple_str, e_isT_tuple_list, e_isT_tuple_tuple, e_isT_tuple_dict, e_isT_dict_bool, e_isT_dict_int, e_isT_dict_str, e_isT_dict_list, e_isT_dict_tuple, e_isT_dict_dict, e_lt, e_le, e_gt, e_ge ]
        refine ⟨p, c, 7, rfl, hp1, by decide, fun k3 hk3 => ?_⟩
        simp only [dVar, dC, dOp, dTest, dTru, dAnd, dOr, dNot, dAndV, dOrV, dNotV, dIfE, dNil, dCons, dStar, dTup, dLst, dLstM, dFrz, dNeg, oEq, oNe, dNoO, dSoO, dSl, dNext, dSeq, dBreak, dCont, dExpr, dRet, dRetN, dIf, gNm, gNl, gCn, gTp, dAsg, dSet, dAug, dIter, dRng1, dRng2, dYes, dCallB, f1, dIsi, dJoinAt, dFmt, dJs, dJoined, dCall, dstart, rget, rset, dwipe, gSb, dApp, dPop, fMax2, fMin2, dNever, dPairs, dDispG, dDisp, dDispM, dNewK, dNewT, keyD, if_true, if_false, decide_eq_true_eq, Bool.false_eq_true, List.map_cons, List.map_nil, List.length_cons, List.length_nil, List.cons_append, List.nil_append, Nat.reduceAdd, Nat.reduceSub, List.reduceReplicate, e_vw_non, e_vw_bl, e_vw_int, e_vw_str, e_vw_scr, e_vw_lst, e_vw_tup, e_vw_dic, e_vw_dit, e_vw_obj, e_vw_ty, e_flat_non, e_isn_non, e_ty_non, e_flat_bl, e_isn_bl, e_ty_bl, e_flat_int, e_isn_int, e_ty_int, e_flat_str, e_isn_str, e_ty_str, e_flat_scr, e_isn_scr, e_ty_scr, e_flat_lst, e_isn_lst, e_ty_lst, e_flat_tup, e_isn_tup, e_ty_tup, e_flat_dic, e_isn_dic, e_ty_dic, e_flat_dit, e_isn_dit, e_flat_obj, e_isn_obj, e_flat_ty, e_isn_ty, e_add_ii, e_add_ss, e_add_ll, e_add_tt, e_iadd_ii, e_iadd_ss, e_sub_ii, e_mul_ii, e_mul_li, e_mul_si, e_fdiv_ii, e_mod_ii, e_pow_ii, e_deq_nn, e_deq_ii, e_deq_ss, e_deq_bb, e_deq_tt, e_deq_ll, e_deq_st, e_deq_ts, e_deql_n, e_deql_c, e_deql_nc, e_deql_cn, e_isN, e_ix_l, e_ix_t, e_ix_c, e_ix_s, e_ix_d, e_ix_dt, e_in_l, e_in_t, e_in_s, e_in_d, e_in_dt, e_sl_l, e_sl_t, e_sl_s, e_len_lst, e_len_tup, e_len_s, e_len_c, e_len_d, e_int_i, e_abs_i, e_str_i, e_tup_l, e_tup_t, e_oLst0_l, e_oLst0_t, e_oLst0M_l, e_oLst0M_t, e_set_l, e_set_d, e_set_t, e_key_i, e_key_s, e_isT_non_bool, e_isT_non_int, e_isT_non_str, e_isT_non_list, e_isT_non_tuple, e_isT_non_dict, e_isT_bool_bool, e_isT_bool_int, e_isT_bool_str, e_isT_bool_list, e_isT_bool_tuple, e_isT_bool_dict, e_isT_int_bool, e_isT_int_int, e_isT_int_str, e_isT_int_list, e_isT_int_tuple, e_isT_int_dict, e_isT_str_bool, e_isT_str_int, e_isT_str_str, e_isT_str_list, e_isT_str_tuple, e_isT_str_dict, e_isT_list_bool, e_isT_list_int, e_isT_list_str, e_isT_list_list, e_isT_list_tuple, e_isT_list_dict, e_isT_tuple_bool, e_isT_tuple_int, e_isT_tuple_str, e_isT_tuple_list, e_isT_tuple_tuple, e_isT_tuple_dict, e_isT_dict_bool, e_isT_dict_int, e_isT_dict_str, e_isT_dict_list, e_isT_dict_tuple, e_isT_dict_dict, e_lt, e_le, e_gt, e_ge ]
        refine ⟨by omega, by omega, fun i ρ M2 => M2 = M' ∧ i ≤ k3 ∧ ∃ v o, ρ = [some (.scr ns), some (.ref p), some d, some (.str v), o, o4] ∧ v.length = i ∧ pc v ≤ i, ⟨rfl, by omega, [], _, rfl, rfl, by decide⟩, ?_, ?_⟩
        · rintro i y ρ M2 hi ⟨rfl, _, v, o, rfl, hv, hpv⟩
          have hlt := (List.getElem?_eq_some_iff.mp hi).1
          simp only [rngD, List.length_map, List.length_range, Int.toNat_natCast] at hlt
          simp only [dVar, dC, dOp, dTest, dTru, dAnd, dOr, dNot, dAndV, dOrV, dNotV, dIfE, dNil, dCons, dStar, dTup, dLst, dLstM, dFrz, dNeg, oEq, oNe, dNoO, dSoO, dSl, dNext, dSeq, dBreak, dCont, dExpr, dRet, dRetN, dIf, gNm, gNl, gCn, gTp, dAsg, dSet, dAug, dIter, dRng1, dRng2, dYes, dCallB, f1, dIsi, dJoinAt, dFmt, dJs, dJoined, dCall, dstart, rget, rset, dwipe, gSb, dApp, dPop, fMax2, fMin2, dNever, dPairs, dDispG, dDisp, dDispM, dNewK, dNewT, keyD, if_true, if_false, decide_eq_true_eq, Bool.false_eq_true, List.map_cons, List.map_nil, List.length_cons, List.length_nil, List.cons_append, List.nil_append, Nat.reduceAdd, Nat.reduceSub, List.reduceReplicate, e_vw_non, e_vw_bl, e_vw_int, e_vw_str, e_vw_scr, e_vw_lst, e_vw_tup, e_vw_dic, e_vw_dit, e_vw_obj, e_vw_ty, e_flat_non, e_isn_non, e_ty_non, e_flat_bl, e_isn_bl, e_ty_bl, e_flat_int, e_isn_int, e_ty_int, e_flat_str, e_isn_str, e_ty_str, e_flat_scr, e_isn_scr, e_ty_scr, e_flat_lst, e_isn_lst, e_ty_lst, e_flat_tup, e_isn_tup, e_ty_tup, e_flat_dic, e_isn_dic, e_ty_dic, e_flat_dit, e_isn_dit, e_flat_obj, e_isn_obj, e_flat_ty, e_isn_ty, e_add_ii, e_add_ss, e_add_ll, e_add_tt, e_iadd_ii, e_iadd_ss, e_sub_ii, e_mul_ii, e_mul_li, e_mul_si, e_fdiv_ii, e_mod_ii, e_pow_ii, e_deq_nn, e_deq_ii, e_deq_ss, e_deq_bb, e_deq_tt, e_deq_ll, e_deq_st, e_deq_ts, e_deql_n, e_deql_c, e_deql_nc, e_deql_cn, e_isN, e_ix_l, e_ix_t, e_ix_c, e_ix_s, e_ix_d, e_ix_dt, e_in_l, e_in_t, e_in_s, e_in_d, e_in_dt, e_sl_l, e_sl_t, e_sl_s, e_len_lst, e_len_tup, e_len_s, e_len_c, e_len_d, e_int_i, e_abs_i, e_str_i, e_tup_l, e_tup_t, e_oLst0_l, e_oLst0_t, e_oLst0M_l, e_oLst0M_t, e_set_l, e_set_d, e_set_t, e_key_i, e_key_s, e_isT_non_bool, e_isT_non_int, e_isT_non_str, e_isT_non_list, e_isT_non_tuple, e_isT_non_dict, e_isT_bool_bool, e_isT_bool_int, e_isT_bool_str, e_isT_bool_list, e_isT_bool_tuple, e_isT_bool_dict, e_isT_int_bool, e_isT_int_int, e_isT_int_str, e_isT_int_list, e_isT_int_tuple, e_isT_int_dict, e_isT_str_bool, e_isT_str_int, e_isT_str_str, e_isT_str_list, e_isT_str_tuple, e_isT_str_dict, e_isT_list_bool, e_isT_list_int, e_isT_list_str, e_isT_list_list, e_isT_list_tuple, e_isT_list_dict, e_isT_tuple_bool, e_isT_tuple_int, e_isT_tuple_str, e_isT_tuple_list, e_isT_tuple_tuple, e_isT_tuple_dict, e_isT_dict_bool, e_isT_dict_int, e_isT_dict_str, e_isT_dict_list, e_isT_dict_tuple, e_isT_dict_dict, e_lt, e_le, e_gt, e_ge ]
          refine ⟨p, c, 8, rfl, hp1, by decide, fun k4 hk4 => ?_⟩
          have h8 : k4 < ([40, 41, 44, 32, 97, 98, 57, 95] : Cd).length := by simp only [List.length_cons, List.length_nil]; omega
          have hc8 : atI ([40, 41, 44, 32, 97, 98, 57, 95] : Cd) (k4 : Int) = some (([40, 41, 44, 32, 97, 98, 57, 95] : Cd)[k4]) := atI_nat (List.getElem?_eq_getElem h8)
          generalize ([40, 41, 44, 32, 97, 98, 57, 95] : Cd)[k4] = c8 at hc8
          have hp8 : pc [c8] ≤ 1 := List.count_le_length
          simp only [dVar, dC, dOp, dTest, dTru, dAnd, dOr, dNot, dAndV, dOrV, dNotV, dIfE, dNil, dCons, dStar, dTup, dLst, dLstM, dFrz, dNeg, oEq, oNe, dNoO, dSoO, dSl, dNext, dSeq, dBreak, dCont, dExpr, dRet, dRetN, dIf, gNm, gNl, gCn, gTp, dAsg, dSet, dAug, dIter, dRng1, dRng2, dYes, dCallB, f1, dIsi, dJoinAt, dFmt, dJs, dJoined, dCall, dstart, rget, rset, dwipe, gSb, dApp, dPop, fMax2, fMin2, dNever, dPairs, dDispG, dDisp, dDispM, dNewK, dNewT, keyD, if_true, if_false, decide_eq_true_eq, Bool.false_eq_true, List.map_cons, List.map_nil, List.length_cons, List.length_nil, List.cons_append, List.nil_append, Nat.reduceAdd, Nat.reduceSub, List.reduceReplicate, e_vw_non, e_vw_bl, e_vw_int, e_vw_str, e_vw_scr, e_vw_lst, e_vw_tup, e_vw_dic, e_vw_dit, e_vw_obj, e_vw_ty, e_flat_non, e_isn_non, e_ty_non, e_flat_bl, e_isn_bl, e_ty_bl, e_flat_int, e_isn_int, e_ty_int, e_flat_str, e_isn_str, e_ty_str, e_flat_scr, e_isn_scr, e_ty_scr, e_flat_lst, e_isn_lst, e_ty_lst, e_flat_tup, e_isn_tup, e_ty_tup, e_flat_dic, e_isn_dic, e_ty_dic, e_flat_dit, e_isn_dit, e_flat_obj, e_isn_obj, e_flat_ty, e_isn_ty, e_add_ii, e_add_ss, e_add_ll, e_add_tt, e_iadd_ii, e_iadd_ss, e_sub_ii, e_mul_ii, e_mul_li, e_mul_si, e_fdiv_ii, e_mod_ii, e_pow_ii, e_deq_nn, e_deq_ii, e_deq_ss, e_deq_bb, e_deq_tt, e_deq_ll, e_deq_st, e_deq_ts, e_deql_n, e_deql_c, e_deql_nc, e_deql_cn, e_isN, e_ix_l, e_ix_t, e_ix_c, e_ix_s, e_ix_d, e_ix_dt, e_in_l, e_in_t, e_in_s, e_in_d, e_in_dt, e_sl_l, e_sl_t, e_sl_s, e_len_lst, e_len_tup, e_len_s, e_len_c, e_len_d, e_int_i, e_abs_i, e_str_i, e_tup_l, e_tup_t, e_oLst0_l, e_oLst0_t, e_oLst0M_l, e_oLst0M_t, e_set_l, e_set_d, e_set_t, e_key_i, e_key_s, e_isT_non_bool, e_isT_non_int, e_isT_non_str, e_isT_non_list, e_isT_non_tuple, e_isT_non_dict, e_isT_bool_bool, e_isT_bool_int, e_isT_bool_str, e_isT_bool_list, e_isT_bool_tuple, e_isT_bool_dict, e_isT_int_bool, e_isT_int_int, e_isT_int_str, e_isT_int_list, e_isT_int_tuple, e_isT_int_dict, e_isT_str_bool, e_isT_str_int, e_isT_str_str, e_isT_str_list, e_isT_str_tuple, e_isT_str_dict, e_isT_list_bool, e_isT_list_int, e_isT_list_str, e_isT_list_list, e_isT_list_tuple, e_isT_list_dict, e_isT_tuple_bool, e_isT_tuple_int, e_isT_tuple_str, e_isT_tuple_list, e_isT_tuple_tuple, e_isT_tuple_dict, e_isT_dict_bool, e_isT_dict_int, e_isT_dict_str, e_isT_dict_list, e_isT_dict_tuple, e_isT_dict_dict, e_lt, e_le, e_gt, e_ge ]
          exact ⟨by rw [sizeLine_eq]; decide, c8, hc8, by rw [sizeLine_eq]; omega, trivial, hlt, v ++ [c8], _, rfl, by simp [hv], by rw [pc_app]; omega⟩
        · rintro ρ M2 ⟨rfl, hk4, v, o, rfl, hv, hpv⟩
          exact go2 v o (by omega) (by omega)
      · exact go2 x _ hx hpx
    · rintro ρ M' ⟨rfl, o1, o2, o3, o4, rfl⟩
      refine hR _ _ ?_
      simp only [dVar, dC, dOp, dTest, dTru, dAnd, dOr, dNot, dAndV, dOrV, dNotV, dIfE, dNil, dCons, dStar, dTup, dLst, dLstM, dFrz, dNeg, oEq, oNe, dNoO, dSoO, dSl, dNext, dSeq, dBreak, dCont, dExpr, dRet, dRetN, dIf, gNm, gNl, gCn, gTp, dAsg, dSet, dAug, dIter, dRng1, dRng2, dYes, dCallB, f1, dIsi, dJoinAt, dFmt, dJs, dJoined, dCall, dstart, rget, rset, dwipe, gSb, dApp, dPop, fMax2, fMin2, dNever, dPairs, dDispG, dDisp, dDispM, dNewK, dNewT, keyD, if_true, if_false, decide_eq_true_eq, Bool.false_eq_true, List.map_cons, List.map_nil, List.length_cons, List.length_nil, List.cons_append, List.nil_append, Nat.reduceAdd, Nat.reduceSub, List.reduceReplicate, e_vw_non, e_vw_bl, e_vw_int, e_vw_str, e_vw_scr, e_vw_lst, e_vw_tup, e_vw_dic, e_vw_dit, e_vw_obj, e_vw_ty, e_flat_non, e_isn_non, e_ty_non, e_flat_bl, e_isn_bl, e_ty_bl, e_flat_int, e_isn_int, e_ty_int, e_flat_str, e_isn_str, e_ty_str, e_flat_scr, e_isn_scr, e_ty_scr, e_flat_lst, e_isn_lst, e_ty_lst, e_flat_tup, e_isn_tup, e_ty_tup, e_flat_dic, e_isn_dic, e_ty_dic, e_flat_dit, e_isn_dit, e_flat_obj, e_isn_obj, e_flat_ty, e_isn_ty, e_add_ii, e_add_ss, e_add_ll, e_add_tt, e_iadd_ii, e_iadd_ss, e_sub_ii, e_mul_ii, e_mul_li, e_mul_si, e_fdiv_ii, e_mod_ii, e_pow_ii, e_deq_nn, e_deq_ii, e_deq_ss, e_deq_bb, e_deq_tt, e_deq_ll, e_deq_st, e_deq_ts, e_deql_n, e_deql_c, e_deql_nc, e_deql_cn, e_isN, e_ix_l, e_ix_t, e_ix_c, e_ix_s, e_ix_d, e_ix_dt, e_in_l, e_in_t, e_in_s, e_in_d, e_in_dt, e_sl_l, e_sl_t, e_sl_s, e_len_lst, e_len_tup, e_len_s, e_len_c, e_len_d, e_int_i, e_abs_i, e_str_i, e_tup_l, e_tup_t, e_oLst0_l, e_oLst0_t, e_oLst0M_l, e_oLst0M_t, e_set_l, e_set_d, e_set_t, e_key_i, e_key_s, e_isT_non_bool, e_isT_non_int, e_isT_non_str, e_isT_non_list, e_isT_non_tuple, e_isT_non_dict, e_isT_bool_bool, e_isT_bool_int, e_isT_bool_str, e_isT_bool_list, e_isT_bool_tuple, e_isT_bool_dict, e_isT_int_bool, e_isT_int_int, e_isT_int_str, e_isT_int_list, e_isT_int_tuple, e_isT_int_dict, e_isT_str_bool, e_isT_str_int, e_isT_str_str, e_isT_str_list, e_isT_str_tuple, e_isT_str_dict, e_isT_list_bool, e_isT_list_int, e_isT_list_str, e_isT_list_list, e_isT_list_tuple, e_isT_list_dict, e_isT_tuple_bool, e_isT_tuple_int, e_isT_tuple_str, e_isT_tuple_list, e_isT_tuple_tuple, e_isT_tuple_dict, e_isT_dict_bool, e_isT_dict_int, e_isT_dict_str, e_isT_dict_list, e_isT_dict_tuple, e_isT_dict_dict, e_lt, e_le, e_gt, e_ge ]
      exact ⟨M, sb, q⟩
end
end K14


set_option Elab.async false
set_option linter.all false
set_option maxRecDepth 100000
set_option maxHeartbeats 0
namespace K14
open PySem PySem.Spec PyProof.Rows L2 DL
def mth (s : Stmt) (i : Nat) : Stmt := match s with
  | .ClassDef _ _ _ b _ _ _ _ _ _ _ => b.getD i (.Pass ⟨0, 0, 0, 0⟩)
  | s => s
def ini (x : Str) (v : Bool) (q : Str) (s : Stmt) : IniD := ⟨x, v, q, defArgs s, defBody s, defScope s⟩
def df (x : Str) (i : Nat) : He.DefD := ⟨(x, none), x, x, defArgs (top i), defBody (top i), defScope (top i), [], []⟩
def fn : List He.DefD := [df "write_term" 7, df "behind_blanks" 8, df "behind_word" 9, df "term_at" 10, df "read_term" 11, df "_law_source" 13, df "_law_pick" 14, df "_law_text" 15, df "_law_spoilt" 16, df "_law_due" 17, df "_law_said" 18, df "law" 19]
def fa : List He.Fa := [.glo "write_term", .glo "behind_blanks", .glo "behind_word", .glo "term_at", .glo "read_term", .glo "_law_source", .glo "_law_pick", .glo "_law_text", .glo "_law_spoilt", .glo "_law_due", .glo "_law_said", .glo "law",
  .free "len", .free "int", .free "abs", .free "str", .free "tuple", .free "isinstance", .free "range", .free "super", .str "LETTERS" "abcdefghijklmnopqrstuvwxyz", .str "CHARACTERS" "abcdefghijklmnopqrstuvwxyz0123456789", .int "MOST_CHARACTERS" 12, .glo "BadText"]
def ix : List IniD := [ini "BadText" true "BadText.__init__" (mth (top 2) 0)]
def ex (K : PySem.W.Frag) : Bool := He.eqO (PySem.W.findIn K (.ref (He.ga K "BadText")) "place") (some none) && (xfB K (He.ga K "BadText") && decide (PySem.W.exmOne K (.ref (He.ga K "BadText")) (.ref (He.ga K "BadText")) = some true))
abbrev R : PySem.W.OpenRow := PySem.W.OpenLaw.row PySem.Challenge.rw_equalkin_k14_texts_that_tell_no_term
abbrev fl : Str := PySem.Challenge.pw_equalkin_k14_texts_that_tell_no_term.main.file
abbrev hk : PySem.W.Hook := hookE 5 fl fa fn ix [] ex
def ob (s : PySem.W.SharedT) : AlE := obsEG 5 fl fa fn ix [] ex (HandSHeadRun.getT s)
theorem ob_eq (s : PySem.W.SharedT) : ob s = hk.obs s.abs := obsEG_eq (HandSHeadRun.getT_eq s)
def names : List Str := ["EqualkinError", "BadText", "LETTERS", "CHARACTERS", "MOST_CHARACTERS", "write_term", "behind_blanks", "behind_word", "term_at", "read_term", "_law_source", "_law_pick", "_law_text", "_law_spoilt", "_law_due", "_law_said"]
theorem run (w : World) : HandSHeadRun.RunEq R (PySem.W.view R.prog [19]) hk ob 4000 names w := by
  intro os
  kernel_rfl
section
variable {w : World} {K : PySem.W.Frag} {mg : Str → Option Value} {base : Heap}
abbrev PP : Program := PySem.Challenge.pw_equalkin_k14_texts_that_tell_no_term
theorem ex_bt {veB : List Value} {C fI cda cc : Addr} {fd : FuncData} (T : XCls K C "ValueError" "ValueError.__new__" "ValueError.__init__" veB)
    (Y : XIni PP K C fI "ValueError.__init__" "__init__" "BadText.__init__" (defArgs (mth (top 2) 0)) (defBody (mth (top 2) 0)) (defScope (mth (top 2) 0)) cda cc fd)
    (hno : PySem.W.findIn K (.ref C) "place" = some none) (hsm : mg "super" = none) (hm : mg "BadText" = some (.ref C)) : EX1 PP w K mg base "BadText" C "place" okI := by
  have hs : FnScopeX ["self", "place"] ["self", "place"] (defScope (mth (top 2) 0)) := by constructor <;> first | rfl | decide +kernel
  refine ⟨_, _, _, _, fI, fd, ["self", "place"], T, Y.ini, Y.ty, ?_, Y.binds fun _ _ _ _ _ us hl => match us, hl with | [_, _], _ => rfl, hm⟩
  refine fn_S1 (N := ["self", "place"]) (x := "place") (self := "self") T Y hs rfl rfl rfl hsm rfl hno rfl rfl rfl rfl rfl (by decide) (by decide) (by decide) (by decide) (fun _ => rfl) (fun A outer s H E => ?_) (fun _ => rfl)
  exact joinI (i := 0) (te := tVar 1) (pe_var rfl (.inl rfl) (by decide) (by decide)) (by decide +kernel) (by decide +kernel)
theorem facts {h : Heap} {f : Addr} (X : K.In h) (G : h.Ns mainGlobals mg) (hfa : mg ("law" : Str) = some (.ref f)) (c : SaysE PP.main.file fa fn ix [] ex K) :
    ∃ fd : FuncData, (∀ (s : Shared) (v : Value), BindsTo s fd ⟨[v], []⟩ [("script", v)]) ∧ ∀ base : Heap, K.In base → base.Ns mainGlobals mg → FnOk PP w K mg base (L2.CX PP w) 22 f fd ["script"] (lift K lawS) := by
  have gl := fun (i : Nat) (x : Str) (e : fa[i]? = some (.glo x)) => He.glo_ok X G (c.fact i e)
  have fr := fun (i : Nat) (x : Str) (e : fa[i]? = some (.free x)) => He.free_ok X G (c.fact i e)
  have m : Mg mg := ⟨fr 12 _ rfl, fr 13 _ rfl, fr 14 _ rfl, fr 15 _ rfl, fr 16 _ rfl, fr 17 _ rfl, fr 18 _ rfl,
    (let ⟨t, e⟩ := He.str_ok X G (c.fact 20 (f := .str "LETTERS" "abcdefghijklmnopqrstuvwxyz") rfl); ⟨_, e, t, by kernel_rfl⟩),
    (let ⟨t, e⟩ := He.str_ok X G (c.fact 21 (f := .str "CHARACTERS" "abcdefghijklmnopqrstuvwxyz0123456789") rfl); ⟨_, e, t, by kernel_rfl⟩),
    (let ⟨t, e⟩ := He.int_ok X G (c.fact 22 (f := .int "MOST_CHARACTERS" 12) rfl); ⟨_, e, t, rfl⟩)⟩
  have hsup : mg "super" = none := fr 19 _ rfl
  have hbt := gl 23 "BadText" rfl
  obtain ⟨_, D0⟩ := c.def_ 0 rfl
  obtain ⟨_, D1⟩ := c.def_ 1 rfl
  obtain ⟨_, D2⟩ := c.def_ 2 rfl
  obtain ⟨_, D3⟩ := c.def_ 3 rfl
  obtain ⟨_, D4⟩ := c.def_ 4 rfl
  obtain ⟨_, D5⟩ := c.def_ 5 rfl
  obtain ⟨_, D6⟩ := c.def_ 6 rfl
  obtain ⟨_, D7⟩ := c.def_ 7 rfl
  obtain ⟨_, D8⟩ := c.def_ 8 rfl
  obtain ⟨_, D9⟩ := c.def_ 9 rfl
  obtain ⟨_, D10⟩ := c.def_ 10 rfl
  obtain ⟨fd, D11⟩ := c.def_ 11 (d := df "law" 19) rfl
  obtain ⟨T, cda, cc, fdi, Y⟩ := SaysE.ini (P := PP) c (by decide +kernel) 0 rfl
  obtain ⟨x1, x2⟩ := He.ba c.exB
  obtain ⟨x2, x3⟩ := He.ba x2
  have hno := He.eqO_ok x1
  have I : XInf K mg "BadText" (He.ga K "BadText") "place" := ⟨hbt, of_decide_eq_true x3, xfB_ok x2, hno⟩
  have e := hfa.symm.trans (gl 11 "law" rfl)
  cases e
  have b := FunD.bindsA (ps := ["script"]) D11 fun _ _ _ _ _ _ us hl => match us, hl with | [_], _ => rfl
  refine ⟨fd, fun s v => b s [v] rfl, fun base _ _ => ?_⟩
  have E1 : EX1 PP w K mg base "BadText" (He.ga K "BadText") "place" okI := ex_bt T Y hno hsup hbt
  have Fbb := fn_bb (P := PP) (w := w) (base := base) m D1 (gl 1 _ rfl)
  have Fbw := fn_bw (P := PP) (w := w) (base := base) m E1 D2 (gl 2 _ rfl)
  have Fpk := fn_pk (P := PP) (w := w) (base := base) m D6 (gl 6 _ rfl)
  have Fsr := fn_sr (P := PP) (w := w) (base := base) m D5 (gl 5 _ rfl)
  have Frt := ok_rt m 15 E1 Fbb (ok_ta m E1 Fbb Fbw D3 (gl 3 _ rfl) 15) D4 (gl 4 _ rfl)
  exact ok_law m Fsr Fpk (ok_tx m Fpk D7 (gl 7 _ rfl) 3) (ok_sp m Fpk D8 (gl 8 _ rfl)) (ok_du m D9 (gl 9 _ rfl)) (ok_sd m 15 I Frt D10 (gl 10 _ rfl)) (ok_wt m D0 (gl 0 _ rfl) 15) Frt D11
end
/-- what is let out, seen from far -/
def CXV : CXT := fun _ _ _ E _ _ => ∃ cls d H, E cls d H
theorem FnOk.cx {P : Program} {w : World} {K : PySem.W.Frag} {mg : Str → Option Value} {base : Heap} {k : Nat} {f : Addr} {fd : FuncData} {ps : List Str} {sp : Sp} (F : FnOk P w K mg base (L2.CX P w) k f fd ps sp) : FnOk P w K mg base CXV k f fd ps sp :=
  ⟨F.len, fun A outer s H args us vs Q E hr he hb hv hs => codeAny_mono (F.run A outer s H args us vs Q E hr he hb hv hs) fun r s' hq => by
    cases r with
    | error e =>
      obtain ⟨_, _, _, _, _, _, _, _, _, _, _, _, z⟩ := hq
      exact ⟨_, _, _, z⟩
    | ok fl =>
      cases fl with
      | ret u => exact hq
      | next => exact hq
      | brk => exact hq
      | cont => exact hq⟩
/-- the script -/
theorem start_law {K : PySem.W.Frag} {sp : DSp} {a : Addr} {ns : List Int} {H : Hp} (hO : Only H) (hS : SqL K H a (ns.map V.int)) (h : sp [.scr ns] (fun _ => none) (fun d _ => d = .bl true) (fun _ _ _ => False)) :
    lift K sp [.ref a] H (fun v _ => v = .bl true) fun _ _ _ => False := by
  refine ⟨H, fun _ => none, [.scr ns], _, _, ⟨fun _ _ e => .inl e, fun _ _ e => by cases e⟩, .cons (.scr ?_) .nil, h, fun v H' F' d M' s r q => ?_, fun _ _ _ _ _ _ _ _ _ _ z => z⟩
  · rcases hS with (hS | hS) | hS
    · rcases hO a with z | ⟨o, xs, z⟩ <;> rw [hS] at z <;> cases z
    · exact .inl hS
    · exact .inr hS
  · subst q; cases r; rfl
end K14
open PySem PySem.W PySem.Calls PyProof.Rows
theorem PySem.Challenge.cw_equalkin_k14_texts_that_tell_no_term_holds : PySem.Challenge.rw_equalkin_k14_texts_that_tell_no_term.Holds := by
  w_on; o_law
  refine HandSHeadRun.head_any (r := OpenLaw.row PySem.Challenge.rw_equalkin_k14_texts_that_tell_no_term) (q := view (OpenLaw.row PySem.Challenge.rw_equalkin_k14_texts_that_tell_no_term).prog [19]) (H := K14.hk) (ob := K14.ob) (M := 4000) (loose := K14.names) (d := HandSHeadRun.topDef (OpenLaw.row PySem.Challenge.rw_equalkin_k14_texts_that_tell_no_term).prog 19) (kwd := []) K14.ob_eq
    (by kernel_rfl) (fun s => by kernel_rfl) K14.run (by kernel_rfl) (by kernel_rfl) (by kernel_rfl) (by rfl) (by first | assumption | decide +kernel) (by decide +kernel) ⟨rfl, rfl, rfl, rfl, rfl, by decide +kernel⟩ ?hw ?hc
  case hw => w_witness2
  case hc =>
    refine L2.walk_ofE (l := PySem.Challenge.rw_equalkin_k14_texts_that_tell_no_term) (n := 63) (k := 22) (x := "script") (CX := K14.CXV) rfl (by decide) (by kernel_rfl) ⟨rfl, by decide, by decide⟩ ?F (fun _ _ _ _ z => by obtain ⟨_, _, _, z⟩ := z; exact z)
    intro w mg fa h Y G hmg0
    obtain ⟨K, KX, c⟩ := Y
    have hmg : mg ("law" : PySem.Str) = some (.ref fa) := by
      have e : (HandSHeadRun.topDef (OpenLaw.row PySem.Challenge.rw_equalkin_k14_texts_that_tell_no_term).prog 19).name = ("law" : PySem.Str) := by kernel_rfl
      rw [← e]
      exact hmg0
    obtain ⟨fd, hb, hF⟩ := K14.facts (w := w) KX G hmg c
    exact ⟨K, fd, _, KX, hb, fun H a ns hl hO hS => K14.start_law hO hS ⟨ns, rfl, by omega, rfl⟩, fun base h1 h2 => K14.FnOk.cx (hF base h1 h2)⟩

