import PyProof.Rows.All
import Wide.All
import OpenK.AllK
import Wide.FinOn
import KE.KStateDown
import Lean
import HandS.ForExc
import HandS.ForMost
import HandS.Defaults
import HandS.Star
import HandS.FStr
import HandS.Flow
import HandS.IsInst
import HandS.TryMany
import HandS.Conv
import HandS.CallSlots
import HandS.AnyAll
import HandS.Zip
import HandS.Small
import HandS.ExcInit
import HandS.ExcOwn
import KE.KSuper
import KE.KExcSuper
import HandS.ExcField
import HandS.TryOnly
import HandS.Head0
import HandS.Head1
import HandS.Head2
import HandS.HeadEnd
import HandS.HeadHook1
import HandS.HeadHook2
import HandS.DictComp
import HandS.SlotsOwn
import HandS.SetFor
import PyProof.StrLawsRepr
import HandS.Finally
import PySem.Challenge.RW_equalkin_k51_whole_equations
set_option Elab.async false
set_option linter.all false
set_option maxRecDepth 100000
set_option maxHeartbeats 4000000
/-! A layer of pure data over the hand layer: values are trees, a heap is kept only for what is changed in place. -/
namespace DL
open PySem PySem.Spec PyProof.Rows L2

abbrev Cd := List Nat
abbrev DK := Sum Int Cd
def mkS (l : Cd) : Str := ⟨l.toArray⟩
theorem tl_mkS (l : Cd) : (mkS l).cps.toList = l := rfl
theorem mkS_tl (x : Str) : mkS x.cps.toList = x := by cases x; rfl
theorem mkS_inj {a b : Cd} (h : mkS a = mkS b) : a = b := by
  have := congrArg (fun x : Str => x.cps.toList) h
  exact this
theorem mkS_len (l : Cd) : (mkS l).length = l.length := by simp [mkS, Str.length]
theorem mkS_app (a b : Cd) : mkS a ++ mkS b = mkS (a ++ b) := by
  show (⟨a.toArray ++ b.toArray⟩ : Str) = ⟨(a ++ b).toArray⟩
  simp
def toK : DK → Key
  | .inl i => .inl i
  | .inr s => .inr (mkS s)
theorem toK_inj {a b : DK} (h : toK a = toK b) : a = b := by
  cases a <;> cases b <;> simp [toK] at h ⊢
  · exact h
  · exact mkS_inj h

/-- an int list that stands in the written part -/
def KL (K : PySem.W.Frag) (a : Addr) (ns : List Int) : Prop := ∃ (o : Obj) (its : Array Value) (n : Nat), K.lookup a = some o ∧ o.cls = .type "list" ∧ o.dict = none ∧ o.data = .seq its n ∧ its.size ≤ sizeLine ∧ Vals (ns.map V.int) its.toList
inductive D where
  | non | bl (b : Bool) | int (i : Int) | str (s : Cd) | ty (n : String) | ref (a : Addr) | scr (ns : List Int)
  | lst (xs : List D) | tup (xs : List D) | dic (kvs : List (DK × D)) | dit (kvs : List (List DK × D)) | obj (C : Addr) (fs : List (Str × D))

mutual
inductive Rp (K : PySem.W.Frag) (F : Hp) : V → D → Prop
  | non : Rp K F .non .non
  | bl (b : Bool) : Rp K F (.bl b) (.bl b)
  | int (i : Int) : Rp K F (.int i) (.int i)
  | str (s : Cd) : Rp K F (.str (mkS s)) (.str s)
  | ty (n : String) : Rp K F (.ty n) (.ty n)
  | ref (a : Addr) : Rp K F (.ref a) (.ref a)
  | scr {a : Addr} {ns : List Int} : ((∃ o, F a = some (.frz o (.lst (ns.map V.int)))) ∨ KL K a ns) → Rp K F (.ref a) (.scr ns)
  | lst {a : Addr} {xs : List V} {ds : List D} : F a = some (.lst xs) → RpL K F xs ds → Rp K F (.ref a) (.lst ds)
  | tup {a : Addr} {xs : List V} {ds : List D} : F a = some (.tup xs) → RpL K F xs ds → Rp K F (.ref a) (.tup ds)
  | dic {a : Addr} {xs : List (Key × V)} {ds : List (DK × D)} : F a = some (.dK xs) → RpK K F xs ds → Rp K F (.ref a) (.dic ds)
  | dit {a : Addr} {xs : List (List Key × V)} {ds : List (List DK × D)} : F a = some (.dT xs) → RpT K F xs ds → Rp K F (.ref a) (.dit ds)
  | obj {a C dx : Addr} {xs : List (Str × V)} {ds : List (Str × D)} : F a = some (.ins C dx xs) → RpF K F xs ds → Rp K F (.ref a) (.obj C ds)
inductive RpL (K : PySem.W.Frag) (F : Hp) : List V → List D → Prop
  | nil : RpL K F [] []
  | cons {v : V} {d : D} {vs : List V} {ds : List D} : Rp K F v d → RpL K F vs ds → RpL K F (v :: vs) (d :: ds)
inductive RpK (K : PySem.W.Frag) (F : Hp) : List (Key × V) → List (DK × D) → Prop
  | nil : RpK K F [] []
  | cons {k : DK} {v : V} {d : D} {vs : List (Key × V)} {ds : List (DK × D)} : Rp K F v d → RpK K F vs ds → RpK K F ((toK k, v) :: vs) ((k, d) :: ds)
inductive RpT (K : PySem.W.Frag) (F : Hp) : List (List Key × V) → List (List DK × D) → Prop
  | nil : RpT K F [] []
  | cons {k : List DK} {v : V} {d : D} {vs : List (List Key × V)} {ds : List (List DK × D)} : Rp K F v d → RpT K F vs ds → RpT K F ((k.map toK, v) :: vs) ((k, d) :: ds)
inductive RpF (K : PySem.W.Frag) (F : Hp) : List (Str × V) → List (Str × D) → Prop
  | nil : RpF K F [] []
  | cons {k : Str} {v : V} {d : D} {vs : List (Str × V)} {ds : List (Str × D)} : Rp K F v d → RpF K F vs ds → RpF K F ((k, v) :: vs) ((k, d) :: ds)
end

abbrev Fle (F F' : Hp) : Prop := ∀ a o, F a = some o → F' a = some o
mutual
theorem Rp.mono {K : PySem.W.Frag} {F F' : Hp} (h : Fle F F') : ∀ {v : V} {d : D}, Rp K F v d → Rp K F' v d
  | _, _, .non => .non
  | _, _, .bl b => .bl b
  | _, _, .int i => .int i
  | _, _, .str s => .str s
  | _, _, .ty n => .ty n
  | _, _, .ref a => .ref a
  | _, _, .scr e => .scr (e.imp (fun ⟨o, e⟩ => ⟨o, h _ _ e⟩) id)
  | _, _, .lst e r => .lst (h _ _ e) (RpL.mono h r)
  | _, _, .tup e r => .tup (h _ _ e) (RpL.mono h r)
  | _, _, .dic e r => .dic (h _ _ e) (RpK.mono h r)
  | _, _, .dit e r => .dit (h _ _ e) (RpT.mono h r)
  | _, _, .obj e r => .obj (h _ _ e) (RpF.mono h r)
theorem RpL.mono {K : PySem.W.Frag} {F F' : Hp} (h : Fle F F') : ∀ {v : List V} {d : List D}, RpL K F v d → RpL K F' v d
  | _, _, .nil => .nil
  | _, _, .cons a b => .cons (Rp.mono h a) (RpL.mono h b)
theorem RpK.mono {K : PySem.W.Frag} {F F' : Hp} (h : Fle F F') : ∀ {v : List (Key × V)} {d : List (DK × D)}, RpK K F v d → RpK K F' v d
  | _, _, .nil => .nil
  | _, _, .cons a b => .cons (Rp.mono h a) (RpK.mono h b)
theorem RpT.mono {K : PySem.W.Frag} {F F' : Hp} (h : Fle F F') : ∀ {v : List (List Key × V)} {d : List (List DK × D)}, RpT K F v d → RpT K F' v d
  | _, _, .nil => .nil
  | _, _, .cons a b => .cons (Rp.mono h a) (RpT.mono h b)
theorem RpF.mono {K : PySem.W.Frag} {F F' : Hp} (h : Fle F F') : ∀ {v : List (Str × V)} {d : List (Str × D)}, RpF K F v d → RpF K F' v d
  | _, _, .nil => .nil
  | _, _, .cons a b => .cons (Rp.mono h a) (RpF.mono h b)
end

/-! ### what is changed in place -/
inductive MO where
  | lst (xs : List D) | dic (kvs : List (DK × D)) | dit (kvs : List (List DK × D)) | ins (C : Addr) (fs : List (Str × D)) | src (c : Addr) | hid
abbrev Mp := Addr → Option MO
def mset (M : Mp) (a : Addr) (o : MO) : Mp := fun b => if b = a then some o else M b
def mdel (M : Mp) (a : Addr) : Mp := fun b => if b = a then none else M b
theorem mset_same {M : Mp} {a : Addr} {o : MO} : mset M a o a = some o := if_pos rfl
theorem mset_ne {M : Mp} {a b : Addr} {o : MO} (h : b ≠ a) : mset M a o b = M b := if_neg h
theorem mdel_same {M : Mp} {a : Addr} : mdel M a a = none := if_pos rfl
theorem mdel_ne {M : Mp} {a b : Addr} (h : b ≠ a) : mdel M a b = M b := if_neg h
theorem mset_mset {M : Mp} {a : Addr} {o u : MO} : mset (mset M a o) a u = mset M a u := by
  funext b; unfold mset; split <;> rfl
theorem mset_self {M : Mp} {a : Addr} {o : MO} (h : M a = some o) : mset M a o = M := by
  funext b; unfold mset; split
  · rename_i e; rw [e, h]
  · rfl
theorem mdel_mset {M : Mp} {a : Addr} {o : MO} (h : M a = none) : mdel (mset M a o) a = M := by
  funext b; unfold mdel mset; split
  · rename_i e; rw [e, h]
  · rfl

def isDic : HO → Prop
  | .dK _ => True
  | .dT _ => True
  | _ => False
def Le (F H : Hp) : Prop := ∀ a o, F a = some o → H a = some o ∨ (isDic o ∧ ∃ ob, H a = some (.frz ob o))
theorem Le.at {F H : Hp} (h : Le F H) {a : Addr} {o : HO} (e : F a = some o) (n : ¬ isDic o) : H a = some o := by
  rcases h a o e with q | ⟨q, _⟩
  · exact q
  · exact absurd q n
theorem Le.rd {F H : Hp} (h : Le F H) {a : Addr} {o : HO} (e : F a = some o) : Rd H a o := by
  rcases h a o e with q | ⟨_, ob, q⟩
  · exact .inl q
  · exact .inr ⟨ob, q⟩
def srcD (c : Addr) (l m t : Int) : HO := .dK [(.inr "cells", .ref c), (.inr "left", .int l), (.inr "mixed", .int m), (.inr "turn", .int t)]
def MOk (K : PySem.W.Frag) (F H : Hp) (M : Mp) (p : Addr) : MO → Prop
  | .lst ds => ∃ xs, H p = some (.lst xs) ∧ RpL K F xs ds
  | .dic ds => ∃ xs, H p = some (.dK xs) ∧ RpK K F xs ds
  | .dit ds => ∃ xs, H p = some (.dT xs) ∧ RpT K F xs ds
  | .ins C ds => ∃ dx xs, H p = some (.ins C dx xs) ∧ RpF K F xs ds
  | .src c => M c = some .hid ∧ ∃ (l m t : Int) (ns : List Int), H p = some (srcD c l m t) ∧ H c = some (.lst (ns.map V.int))
  | .hid => ∃ xs, H p = some (.lst xs)
structure HM (K : PySem.W.Frag) (F : Hp) (M : Mp) (H : Hp) : Prop where
  le : Le F H
  mo : ∀ p o, M p = some o → F p = none ∧ MOk K F H M p o
theorem MOk.there {K : PySem.W.Frag} {F H : Hp} {M : Mp} {p : Addr} {o : MO} (h : MOk K F H M p o) : ∃ u, H p = some u := by
  cases o with
  | lst _ => obtain ⟨_, e, _⟩ := h; exact ⟨_, e⟩
  | dic _ => obtain ⟨_, e, _⟩ := h; exact ⟨_, e⟩
  | dit _ => obtain ⟨_, e, _⟩ := h; exact ⟨_, e⟩
  | ins _ _ => obtain ⟨_, _, e, _⟩ := h; exact ⟨_, e⟩
  | src _ => obtain ⟨_, _, _, _, _, e, _⟩ := h; exact ⟨_, e⟩
  | hid => obtain ⟨_, e⟩ := h; exact ⟨_, e⟩
theorem HM.there {K : PySem.W.Frag} {F H : Hp} {M : Mp} (h : HM K F M H) {p : Addr} {o : MO} (e : M p = some o) : ∃ u, H p = some u := (h.mo p o e).2.there
theorem HM.none {K : PySem.W.Frag} {F H : Hp} {M : Mp} (h : HM K F M H) {p : Addr} (e : H p = none) : M p = none ∧ F p = none := by
  constructor
  · cases q : M p with
    | none => rfl
    | some o => obtain ⟨u, z⟩ := h.there q; rw [e] at z; cases z
  · cases q : F p with
    | none => rfl
    | some o => rcases h.le p o q with z | ⟨_, _, z⟩ <;> rw [e] at z <;> cases z

structure Step (K : PySem.W.Frag) (F : Hp) (M : Mp) (H : Hp) (F' : Hp) (M' : Mp) (H' : Hp) : Prop where
  fle : Fle F F'
  hm : HM K F' M' H'
  frm : ∀ a o, H a = some o → M a = none → H' a = some o
  dom : ∀ a o, M' a = some o → M a ≠ none ∨ H a = none
  fnew : ∀ a o, F' a = some o → F a = some o ∨ H a = none ∨ M a ≠ none ∨ ∃ ys, H a = some (.tup ys)
section
variable {K : PySem.W.Frag} {F F1 F2 : Hp} {M M1 M2 : Mp} {H H1 H2 : Hp}
theorem Step.refl (h : HM K F M H) : Step K F M H F M H := ⟨fun _ _ e => e, h, fun _ _ e _ => e, fun a o e => .inl (by rw [e]; exact fun z => nomatch z), fun _ _ e => .inl e⟩
theorem Step.trans (a : Step K F M H F1 M1 H1) (b : Step K F1 M1 H1 F2 M2 H2) : Step K F M H F2 M2 H2 := by
  have mm : ∀ x u, M1 x = some u → M x ≠ none ∨ H x = none := a.dom
  have hh : ∀ x u, H x = some u → M x = none → H1 x = some u := a.frm
  refine ⟨fun x o e => b.fle x o (a.fle x o e), b.hm, fun x o e n => ?_, fun x o e => ?_, fun x o e => ?_⟩
  · have e1 := a.frm x o e n
    refine b.frm x o e1 ?_
    cases q : M1 x with
    | none => rfl
    | some u =>
      rcases a.dom x u q with z | z
      · exact absurd n z
      · rw [e] at z; cases z
  · rcases b.dom x o e with z | z
    · cases q : M1 x with
      | none => exact absurd q z
      | some u => exact a.dom x u q
    · cases q : H x with
      | none => exact .inr rfl
      | some u =>
        refine .inl fun n => ?_
        rw [a.frm x u q n] at z; cases z
  · rcases b.fnew x o e with z | z | z | ⟨ys, z⟩
    · rcases a.fnew x o z with y | y | y | y
      · exact .inl y
      · exact .inr (.inl y)
      · exact .inr (.inr (.inl y))
      · exact .inr (.inr (.inr y))
    · cases q : H x with
      | none => exact .inr (.inl rfl)
      | some u =>
        refine .inr (.inr (.inl fun n => ?_))
        rw [hh x u q n] at z; cases z
    · cases q : M1 x with
      | none => exact absurd q z
      | some u =>
        rcases mm x u q with y | y
        · exact .inr (.inr (.inl y))
        · exact .inr (.inl y)
    · cases q : H x with
      | none => exact .inr (.inl rfl)
      | some u =>
        cases n : M x with
        | none =>
          rw [hh x u q n] at z
          exact .inr (.inr (.inr ⟨ys, by rw [← Option.some.inj z]⟩))
        | some w => exact .inr (.inr (.inl (fun y => nomatch y)))
theorem MOk.mono (hf : Fle F F1) {p : Addr} {o : MO} (h : MOk K F H M p o) (hp : ∀ u, H p = some u → H1 p = some u) (hc : ∀ c, o = .src c → M1 c = M c ∧ ∀ u, H c = some u → H1 c = some u) : MOk K F1 H1 M1 p o := by
  cases o with
  | lst _ => obtain ⟨xs, e, r⟩ := h; exact ⟨xs, hp _ e, r.mono hf⟩
  | dic _ => obtain ⟨xs, e, r⟩ := h; exact ⟨xs, hp _ e, r.mono hf⟩
  | dit _ => obtain ⟨xs, e, r⟩ := h; exact ⟨xs, hp _ e, r.mono hf⟩
  | ins _ _ => obtain ⟨dx, xs, e, r⟩ := h; exact ⟨dx, xs, hp _ e, r.mono hf⟩
  | src c => obtain ⟨m, l, mi, t, ns, e, q⟩ := h; obtain ⟨c1, c2⟩ := hc c rfl; exact ⟨c1.trans m, l, mi, t, ns, hp _ e, c2 _ q⟩
  | hid => obtain ⟨u, e⟩ := h; exact ⟨u, hp _ e⟩
theorem upd_none {p a : Addr} {o : HO} (hp : H p = none) {u : HO} (e : H a = some u) : upd H p o a = some u := by rw [upd_ne (ne_of_none e hp)]; exact e
/-- a new object that is never changed -/
theorem Step.newF (h : HM K F M H) {p : Addr} (hp : H p = none) (o : HO) : Step K F M H (upd F p o) M (upd H p o) := by
  obtain ⟨nM, nF⟩ := h.none hp
  have hf : Fle F (upd F p o) := fun a u e => by rw [upd_ne (ne_of_none e nF)]; exact e
  refine ⟨hf, ⟨fun a u e => ?_, fun q u e => ?_⟩, fun a u e _ => upd_none hp e, fun a u e => .inl (by rw [e]; exact fun z => nomatch z), fun a u e => ?_⟩
  rotate_right
  · by_cases ha : a = p
    · exact .inr (.inl (by rw [ha]; exact hp))
    · rw [upd_ne ha] at e; exact .inl e
  · by_cases ha : a = p
    · subst ha; rw [upd_same] at e; cases e; exact .inl upd_same
    · rw [upd_ne ha] at e
      rcases h.le a u e with z | ⟨z1, ob, z⟩
      · exact .inl (upd_none hp z)
      · exact .inr ⟨z1, ob, upd_none hp z⟩
  · obtain ⟨a1, a2⟩ := h.mo q u e
    have qp : q ≠ p := fun z => by rw [z, nM] at e; cases e
    refine ⟨by rw [upd_ne qp]; exact a1, a2.mono hf (fun w z => upd_none hp z) fun c _ => ⟨rfl, fun w z => upd_none hp z⟩⟩
/-- a new object that will be changed -/
theorem Step.newM (h : HM K F M H) {p : Addr} (hp : H p = none) {o : HO} {mo : MO} (hk : MOk K F (upd H p o) (mset M p mo) p mo) : Step K F M H F (mset M p mo) (upd H p o) := by
  obtain ⟨nM, nF⟩ := h.none hp
  refine ⟨fun _ _ e => e, ⟨fun a u e => ?_, fun q u e => ?_⟩, fun a u e _ => upd_none hp e, fun a u e => ?_, fun _ _ e => .inl e⟩
  · rcases h.le a u e with z | ⟨z1, ob, z⟩
    · exact .inl (upd_none hp z)
    · exact .inr ⟨z1, ob, upd_none hp z⟩
  · by_cases hq : q = p
    · subst hq; rw [mset_same] at e; cases e; exact ⟨nF, hk⟩
    · rw [mset_ne hq] at e
      obtain ⟨a1, a2⟩ := h.mo q u e
      refine ⟨a1, a2.mono (fun _ _ e => e) (fun w z => upd_none hp z) fun c ec => ⟨?_, fun w z => upd_none hp z⟩⟩
      subst ec
      refine mset_ne fun z => ?_
      have := a2.1
      rw [z, nM] at this; cases this
  · by_cases ha : a = p
    · exact .inr (by rw [ha]; exact hp)
    · rw [mset_ne ha] at e; exact .inl (by rw [e]; exact fun z => nomatch z)
/-- an object is changed -/
theorem Step.wr (h : HM K F M H) {p : Addr} {old mo : MO} {o : HO} (e : M p = some old) (n : old ≠ .hid) (hk : MOk K F (upd H p o) (mset M p mo) p mo) : Step K F M H F (mset M p mo) (upd H p o) := by
  have nF := (h.mo p old e).1
  refine ⟨fun _ _ e => e, ⟨fun a u q => ?_, fun q u eq => ?_⟩, fun a u q na => ?_, fun a u q => ?_, fun _ _ e => .inl e⟩
  · have ap : a ≠ p := ne_of_none q nF
    rw [upd_ne ap]; exact h.le a u q
  · by_cases hq : q = p
    · subst hq; rw [mset_same] at eq; cases eq; exact ⟨nF, hk⟩
    · rw [mset_ne hq] at eq
      obtain ⟨a1, a2⟩ := h.mo q u eq
      refine ⟨a1, a2.mono (fun _ _ e => e) (fun w z => by rw [upd_ne hq]; exact z) fun c ec => ?_⟩
      subst ec
      have cp : c ≠ p := fun z => by
        have := a2.1
        rw [z, e] at this
        exact n (Option.some.inj this)
      exact ⟨mset_ne cp, fun w z => by rw [upd_ne cp]; exact z⟩
  · have ap : a ≠ p := fun z => by rw [z, e] at na; cases na
    rw [upd_ne ap]; exact q
  · by_cases ha : a = p
    · exact .inl (by rw [ha, e]; exact fun z => nomatch z)
    · rw [mset_ne ha] at q; exact .inl (by rw [q]; exact fun z => nomatch z)
/-- what was changed is never changed again -/
theorem Step.frz (h : HM K F M H) {p : Addr} {old : MO} {o : HO} (e : M p = some old) (n : old ≠ .hid) (ho : H p = some o) : Step K F M H (upd F p o) (mdel M p) H := by
  have nF := (h.mo p old e).1
  have hf : Fle F (upd F p o) := fun a u e => by rw [upd_ne (ne_of_none e nF)]; exact e
  refine ⟨hf, ⟨fun a u q => ?_, fun q u eq => ?_⟩, fun a u q _ => q, fun a u q => ?_, fun a u q => ?_⟩
  rotate_right
  · by_cases ha : a = p
    · exact .inr (.inr (.inl (by rw [ha, e]; exact fun z => nomatch z)))
    · rw [upd_ne ha] at q; exact .inl q
  · by_cases ha : a = p
    · subst ha; rw [upd_same] at q; cases q; exact .inl ho
    · rw [upd_ne ha] at q; exact h.le a u q
  · have hq : q ≠ p := fun z => by rw [z, mdel_same] at eq; cases eq
    rw [mdel_ne hq] at eq
    obtain ⟨a1, a2⟩ := h.mo q u eq
    refine ⟨by rw [upd_ne hq]; exact a1, a2.mono hf (fun _ z => z) fun c ec => ?_⟩
    subst ec
    have cp : c ≠ p := fun z => by
      have := a2.1
      rw [z, e] at this
      exact n (Option.some.inj this)
    exact ⟨mdel_ne cp, fun _ z => z⟩
  · have ha : a ≠ p := fun z => by rw [z, mdel_same] at q; cases q
    rw [mdel_ne ha] at q; exact .inl (by rw [q]; exact fun z => nomatch z)
/-- some are forgotten -/
structure Sub (M' M : Mp) : Prop where
  le : ∀ a o, M' a = some o → M a = some o
  cl : ∀ a c, M' a = some (.src c) → M' c = some .hid
theorem Sub.to (s : Sub M1 M) (h : HM K F M H) : HM K F M1 H := ⟨h.le, fun p o e => by
  obtain ⟨a1, a2⟩ := h.mo p o (s.le p o e)
  refine ⟨a1, ?_⟩
  cases o with
  | src c => obtain ⟨m, r⟩ := a2; exact ⟨s.cl p c e, r⟩
  | _ => exact a2⟩
theorem Step.drop (s : Sub M2 M1) (h : Step K F M H F1 M1 H1) : Step K F M H F1 M2 H1 := ⟨h.fle, s.to h.hm, h.frm, fun a o e => h.dom a o (s.le a o e), h.fnew⟩
/-- an object that nothing else knows of -/
theorem Step.hset (h : Step K F M H F1 M1 H1) {p : Addr} (hp : H p = none) (nF : F1 p = none) (nM : M1 p = none) (o : HO) : Step K F M H F1 M1 (upd H1 p o) := by
  refine ⟨h.fle, ⟨fun a u e => ?_, fun q u e => ?_⟩, fun a u e n => ?_, h.dom, h.fnew⟩
  · rw [upd_ne (ne_of_none e nF)]; exact h.hm.le a u e
  · obtain ⟨a1, a2⟩ := h.hm.mo q u e
    have qp : q ≠ p := fun z => by rw [z, nM] at e; cases e
    refine ⟨a1, a2.mono (fun _ _ e => e) (fun w z => by rw [upd_ne qp]; exact z) fun c ec => ⟨rfl, fun w z => ?_⟩⟩
    subst ec
    have cp : c ≠ p := fun z => by
      have := a2.1
      rw [z, nM] at this; cases this
    rw [upd_ne cp]; exact z
  · rw [upd_ne (ne_of_none e hp)]; exact h.frm a u e n
theorem Step.hfrz (h : Step K F M H F1 M1 H1) {p : Addr} {o : HO} (hp : H p = none) (nF : F1 p = none) (nM : M1 p = none) (e : H1 p = some o) : Step K F M H (upd F1 p o) M1 H1 := by
  have hf : Fle F1 (upd F1 p o) := fun a u e => by rw [upd_ne (ne_of_none e nF)]; exact e
  refine ⟨fun a u e => hf a u (h.fle a u e), ⟨fun a u q => ?_, fun q u eq => ?_⟩, h.frm, h.dom, fun a u q => ?_⟩
  · by_cases ha : a = p
    · subst ha; rw [upd_same] at q; cases q; exact .inl e
    · rw [upd_ne ha] at q; exact h.hm.le a u q
  · obtain ⟨a1, a2⟩ := h.hm.mo q u eq
    have qp : q ≠ p := fun z => by rw [z, nM] at eq; cases eq
    exact ⟨by rw [upd_ne qp]; exact a1, a2.mono hf (fun _ z => z) fun c _ => ⟨rfl, fun _ z => z⟩⟩
  · by_cases ha : a = p
    · exact .inr (.inl (by rw [ha]; exact hp))
    · rw [upd_ne ha] at q; exact h.fnew a u q
theorem Step.hmut (h : Step K F M H F1 M1 H1) {p : Addr} {mo : MO} (hp : H p = none) (nF : F1 p = none) (nM : M1 p = none) (hk : MOk K F1 H1 (mset M1 p mo) p mo) : Step K F M H F1 (mset M1 p mo) H1 := by
  refine ⟨h.fle, ⟨h.hm.le, fun q u eq => ?_⟩, h.frm, fun a u q => ?_, h.fnew⟩
  · by_cases hq : q = p
    · subst hq; rw [mset_same] at eq; cases eq; exact ⟨nF, hk⟩
    · rw [mset_ne hq] at eq
      obtain ⟨a1, a2⟩ := h.hm.mo q u eq
      refine ⟨a1, a2.mono (fun _ _ e => e) (fun _ z => z) fun c ec => ⟨?_, fun _ z => z⟩⟩
      subst ec
      refine mset_ne fun z => ?_
      have := a2.1
      rw [z, nM] at this; cases this
  · by_cases ha : a = p
    · exact .inr (by rw [ha]; exact hp)
    · rw [mset_ne ha] at q; exact h.dom a u q
/-- such an object stays as it is -/
theorem Step.hid (h : Step K F M H F1 M1 H1) {p : Addr} {xs : List V} (e : H p = some (.lst xs)) (nF : F p = none) (nM : M p = none) : H1 p = some (.lst xs) ∧ F1 p = none ∧ M1 p = none := by
  refine ⟨h.frm p _ e nM, ?_, ?_⟩
  · cases q : F1 p with
    | none => rfl
    | some o =>
      rcases h.fnew p o q with z | z | z | ⟨ys, z⟩
      · rw [nF] at z; cases z
      · rw [e] at z; cases z
      · exact absurd nM z
      · rw [e] at z; cases z
  · cases q : M1 p with
    | none => rfl
    | some o =>
      rcases h.dom p o q with z | z
      · exact absurd nM z
      · rw [e] at z; cases z
theorem HM.closed (h : HM K F M H) : Sub M M := ⟨fun _ _ e => e, fun a c e => (h.mo a _ e).2.1⟩
theorem Sub.new (s : Sub M1 M) {p : Addr} {o : MO} (n : M1 p = none) : Sub M1 (mset M p o) := ⟨fun a u e => by
  rw [mset_ne (fun z => by rw [z, n] at e; cases e)]; exact s.le a u e, s.cl⟩
theorem Sub.set (s : Sub M1 M) {p : Addr} {o : MO} (h1 : M1 p ≠ some .hid) (h2 : ∀ c, o ≠ .src c) : Sub (mset M1 p o) (mset M p o) := ⟨fun a u e => by
  by_cases ha : a = p
  · rw [ha, mset_same] at e; rw [ha, mset_same]; exact e
  · rw [mset_ne ha] at e; rw [mset_ne ha]; exact s.le a u e, fun a c e => by
  by_cases ha : a = p
  · rw [ha, mset_same] at e; exact absurd (Option.some.inj e) (h2 c)
  · rw [mset_ne ha] at e
    have := s.cl a c e
    rw [mset_ne (fun z => h1 (by rw [← z]; exact this))]; exact this⟩
theorem Sub.del (s : Sub M1 M) {p : Addr} (n : M1 p = none) : Sub M1 (mdel M p) := ⟨fun a u e => by
  rw [mdel_ne (fun z => by rw [z, n] at e; cases e)]; exact s.le a u e, s.cl⟩
end
end DL


set_option Elab.async false
set_option linter.all false
set_option maxRecDepth 100000
set_option maxHeartbeats 4000000
namespace DL
open PySem PySem.Spec PyProof.Rows L2

abbrev DEnv := List (Option D)
def rget : DEnv → Nat → Option D
  | [], _ => none
  | x :: _, 0 => x
  | _ :: r, n + 1 => rget r n
def rset : DEnv → Nat → Option D → DEnv
  | [], _, _ => []
  | _ :: r, 0, d => d :: r
  | x :: r, n + 1, d => x :: rset r n d
theorem rset_length : ∀ (ρ : DEnv) (i : Nat) (d : Option D), (rset ρ i d).length = ρ.length
  | [], _, _ => rfl
  | _ :: _, 0, _ => rfl
  | _ :: r, n + 1, d => by simp [rset, rset_length r n d]
theorem rget_rset_ne : ∀ (ρ : DEnv) {i j : Nat} (d : Option D), j ≠ i → rget (rset ρ i d) j = rget ρ j
  | [], _, _, _, _ => rfl
  | _ :: _, 0, 0, _, h => absurd rfl h
  | _ :: _, 0, j + 1, _, _ => rfl
  | _ :: _, i + 1, 0, _, _ => rfl
  | _ :: r, i + 1, j + 1, d, h => rget_rset_ne r d (fun e => h (by rw [e]))
theorem rget_rset : ∀ (ρ : DEnv) {i : Nat} {d e : Option D} {x : D}, rget (rset ρ i d) i = some x → d = some x ∧ i < ρ.length
  | [], _, _, _, _, h => nomatch h
  | _ :: _, 0, _, _, _, h => ⟨h, by simp⟩
  | _ :: r, i + 1, d, e, x, h => by
    obtain ⟨a, b⟩ := rget_rset r (e := e) h
    exact ⟨a, by simpa using b⟩
structure RpE (K : PySem.W.Frag) (F : Hp) (σ : L2.St) (ρ : DEnv) : Prop where
  len : σ.length = ρ.length
  get : ∀ i d, rget ρ i = some d → ∃ v, σ[i]? = some (some v) ∧ Rp K F v d
theorem RpE.mono {K : PySem.W.Frag} {F F' : Hp} (h : Fle F F') {σ : L2.St} {ρ : DEnv} (e : RpE K F σ ρ) : RpE K F' σ ρ :=
  ⟨e.len, fun i d q => let ⟨v, a, b⟩ := e.get i d q; ⟨v, a, b.mono h⟩⟩
theorem RpE.set {K : PySem.W.Frag} {F : Hp} {σ : L2.St} {ρ : DEnv} (e : RpE K F σ ρ) (i : Nat) {v : V} {d : D} (r : Rp K F v d) : RpE K F (σ.set i (some v)) (rset ρ i (some d)) := by
  refine ⟨by rw [List.length_set, rset_length]; exact e.len, fun j x q => ?_⟩
  by_cases h : j = i
  · subst h
    obtain ⟨a, b⟩ := rget_rset ρ (e := none) q
    cases a
    exact ⟨v, by rw [List.getElem?_set_self (by rw [e.len]; exact b)], r⟩
  · rw [rget_rset_ne ρ _ h] at q
    obtain ⟨u, a, b⟩ := e.get j x q
    exact ⟨u, by rw [List.getElem?_set_ne (Ne.symm h)]; exact a, b⟩
theorem RpE.unset {K : PySem.W.Frag} {F : Hp} {σ : L2.St} {ρ : DEnv} (e : RpE K F σ ρ) (i : Nat) : RpE K F (σ.set i none) (rset ρ i none) := by
  refine ⟨by rw [List.length_set, rset_length]; exact e.len, fun j x q => ?_⟩
  by_cases h : j = i
  · subst h
    obtain ⟨a, b⟩ := rget_rset ρ (e := none) q
    cases a
  · rw [rget_rset_ne ρ _ h] at q
    obtain ⟨u, a, b⟩ := e.get j x q
    exact ⟨u, by rw [List.getElem?_set_ne (Ne.symm h)]; exact a, b⟩
def dwipe (ρ : DEnv) : List Nat → DEnv
  | [] => ρ
  | i :: r => rset (dwipe ρ r) i none
theorem RpE.wipe {K : PySem.W.Frag} {F : Hp} {σ : L2.St} {ρ : DEnv} (e : RpE K F σ ρ) : ∀ vs, RpE K F (L2.wipe σ vs) (dwipe ρ vs)
  | [] => e
  | _ :: vs => (RpE.wipe e vs).unset _
theorem wipe_set (σ : L2.St) (i : Nat) (x : Option V) : ∀ {ws : List Nat}, i ∈ ws → L2.wipe (σ.set i x) ws = L2.wipe σ ws
  | [], h => by cases h
  | w :: ws, h => by
    show (L2.wipe (σ.set i x) ws).set w none = (L2.wipe σ ws).set w none
    by_cases e : i ∈ ws
    · rw [wipe_set σ i x e]
    · have hw : i = w := by
        rcases List.mem_cons.mp h with z | z
        · exact z
        · exact absurd z e
      subst hw
      have comm : ∀ (vs : List Nat) (τ : L2.St), i ∉ vs → L2.wipe (τ.set i x) vs = (L2.wipe τ vs).set i x := by
        intro vs
        induction vs with
        | nil => intro τ _; rfl
        | cons v vs ih =>
          intro τ hn
          simp only [List.mem_cons, not_or] at hn
          show (L2.wipe (τ.set i x) vs).set v none = ((L2.wipe τ vs).set v none).set i x
          rw [ih τ hn.2, List.set_comm _ _ hn.1]
      rw [comm ws σ e, List.set_set]

abbrev DXK := Addr → List (Str × D) → Mp → Prop
abbrev TDE := DEnv → Mp → (D → Mp → Prop) → Prop
abbrev TDT := DEnv → Mp → (Bool → Mp → Prop) → Prop
abbrev TDA := DEnv → Mp → (List D → Mp → Prop) → Prop
def XAt (H : Hp) : Option Addr → List (Str × V) → Prop
  | none, fs => fs = []
  | some a, fs => H a = some (.xd fs)
def XC (K : PySem.W.Frag) (E0 : L2.St → XK) (Ee : DEnv → DXK) (F : Hp) (M : Mp) (H : Hp) : Prop :=
  ∀ F' M' H' σ ρ C d xs ds, Step K F M H F' M' H' → RpE K F' σ ρ → XAt H' d xs → RpF K F' xs ds → Ee ρ C ds M' → E0 σ (.ref C) d H'
structure SS (K : PySem.W.Frag) (E0 : L2.St → XK) (Ee : DEnv → DXK) (σ : L2.St) (H F : Hp) (M : Mp) (ρ : DEnv) : Prop where
  hm : HM K F M H
  env : RpE K F σ ρ
  xc : XC K E0 Ee F M H
section
variable {K : PySem.W.Frag} {E0 : L2.St → XK} {Ee : DEnv → DXK} {σ σ' : L2.St} {H F H' F' : Hp} {M M' : Mp} {ρ ρ' : DEnv}
theorem XC.step (x : XC K E0 Ee F M H) (s : Step K F M H F' M' H') : XC K E0 Ee F' M' H' := fun F1 M1 H1 σ ρ C d xs ds s1 => x F1 M1 H1 σ ρ C d xs ds (s.trans s1)
theorem SS.step (x : SS K E0 Ee σ H F M ρ) (s : Step K F M H F' M' H') : SS K E0 Ee σ H' F' M' ρ := ⟨s.hm, x.env.mono s.fle, x.xc.step s⟩
theorem SS.to (x : SS K E0 Ee σ H F M ρ) (s : Step K F M H F' M' H') (e : RpE K F' σ' ρ') : SS K E0 Ee σ' H' F' M' ρ' := ⟨s.hm, e, x.xc.step s⟩
end
/-- what follows -/
def Kont {α β : Type} (K : PySem.W.Frag) (R : Hp → α → β → Prop) (F : Hp) (M : Mp) (H : Hp) (Q : β → Mp → Prop) (Q0 : α → Hp → Prop) : Prop :=
  ∀ v H' F' d M', Step K F M H F' M' H' → R F' v d → Q d M' → Q0 v H'
section
variable {α β : Type} {K : PySem.W.Frag} {R : Hp → α → β → Prop} {F F' : Hp} {M M' : Mp} {H H' : Hp} {Q : β → Mp → Prop} {Q0 : α → Hp → Prop}
theorem Kont.step (k : Kont K R F M H Q Q0) (s : Step K F M H F' M' H') : Kont K R F' M' H' Q Q0 := fun v H1 F1 d M1 s1 => k v H1 F1 d M1 (s.trans s1)
theorem Kont.end (k : Kont K R F M H Q Q0) (h : HM K F M H) {v : α} {d : β} (r : R F v d) (q : Q d M) : Q0 v H := k v H F d M (.refl h) r q
end
abbrev KE (K : PySem.W.Frag) := Kont K (fun F (v : V) (d : D) => Rp K F v d)
abbrev KB (K : PySem.W.Frag) := Kont K (fun _ (v : Bool) (d : Bool) => v = d)
abbrev KA (K : PySem.W.Frag) := Kont K (fun F (v : List V) (d : List D) => RpL K F v d)
def lowE (K : PySem.W.Frag) (E0 : L2.St → XK) (Ee : DEnv → DXK) (t : TDE) : TE := fun σ H Q0 => ∃ F M ρ Q, SS K E0 Ee σ H F M ρ ∧ t ρ M Q ∧ KE K F M H Q Q0
def lowT (K : PySem.W.Frag) (E0 : L2.St → XK) (Ee : DEnv → DXK) (t : TDT) : TT := fun σ H Q0 => ∃ F M ρ Q, SS K E0 Ee σ H F M ρ ∧ t ρ M Q ∧ KB K F M H Q Q0
def lowA (K : PySem.W.Frag) (E0 : L2.St → XK) (Ee : DEnv → DXK) (t : TDA) : TA := fun σ H Q0 => ∃ F M ρ Q, SS K E0 Ee σ H F M ρ ∧ t ρ M Q ∧ KA K F M H Q Q0
def DE (X : Cx) (E0 : L2.St → XK) (Ee : DEnv → DXK) (e : Expr) (t : TDE) : Prop := PE X e (lowE X.K E0 Ee t)
def DT (X : Cx) (E0 : L2.St → XK) (Ee : DEnv → DXK) (e : Expr) (t : TDT) : Prop := PT X e (lowT X.K E0 Ee t)
def DW (X : Cx) (E0 : L2.St → XK) (Ee : DEnv → DXK) (e : Expr) (t : TDT) : Prop := PW X e (lowT X.K E0 Ee t)
def DA (X : Cx) (E0 : L2.St → XK) (Ee : DEnv → DXK) (es : List Expr) (t : TDA) : Prop := PA X es (lowA X.K E0 Ee t)
theorem PEimp {X : Cx} {e : Expr} {t u : TE} (h : PE X e t) (i : ∀ σ H Q, u σ H Q → t σ H Q) : PE X e u := ⟨fun pins s σ H Q I q => h.run pins s σ H Q I (i _ _ _ q)⟩
theorem PTimp {X : Cx} {e : Expr} {t u : TT} (h : PT X e t) (i : ∀ σ H Q, u σ H Q → t σ H Q) : PT X e u := ⟨fun pins s σ H Q I q => h.run pins s σ H Q I (i _ _ _ q)⟩
theorem PWimp {X : Cx} {e : Expr} {t u : TT} (h : PW X e t) (i : ∀ σ H Q, u σ H Q → t σ H Q) : PW X e u := ⟨fun wh pins s σ H Q I q => h.run wh pins s σ H Q I (i _ _ _ q)⟩
theorem PAimp {X : Cx} {e : List Expr} {t u : TA} (h : PA X e t) (i : ∀ σ H Q, u σ H Q → t σ H Q) : PA X e u := ⟨fun pos pins s σ H Q I q => h.run pos pins s σ H Q I (i _ _ _ q)⟩
theorem PSimp {X : Cx} {e : Stmt} {t u : TS} (h : PS X e t) (i : ∀ D σ H, u D σ H → t D σ H) : PS X e u := ⟨fun pins s σ H D I q => h.run pins s σ H D I (i _ _ _ q)⟩
theorem PSsimp {X : Cx} {e : List Stmt} {t u : TS} (h : PSs X e t) (i : ∀ D σ H, u D σ H → t D σ H) : PSs X e u := ⟨fun pins s σ H D I q => h.run pins s σ H D I (i _ _ _ q)⟩

/-! ### what a datum is at the heap -/
def vw (M : Mp) : D → D
  | .ref p => match M p with
    | some (.lst ds) => .lst ds
    | some (.dic ds) => .dic ds
    | some (.dit ds) => .dit ds
    | some (.ins C fs) => .obj C fs
    | _ => .ref p
  | d => d
def Ct (K : PySem.W.Frag) (F H : Hp) (v : V) : D → Prop
  | .lst ds => ∃ a xs, v = .ref a ∧ H a = some (.lst xs) ∧ RpL K F xs ds
  | .tup ds => ∃ a xs, v = .ref a ∧ H a = some (.tup xs) ∧ RpL K F xs ds
  | .dic ds => ∃ a xs, v = .ref a ∧ Rd H a (.dK xs) ∧ RpK K F xs ds
  | .dit ds => ∃ a xs, v = .ref a ∧ Rd H a (.dT xs) ∧ RpT K F xs ds
  | .obj C ds => ∃ a dx xs, v = .ref a ∧ H a = some (.ins C dx xs) ∧ RpF K F xs ds
  | .scr ns => ∃ a, v = .ref a ∧ SqL K H a (ns.map V.int) ∧ TyX K H (.ref a) (.type "list")
  | .non => v = .non
  | .bl b => v = .bl b
  | .int i => v = .int i
  | .str s => v = .str (mkS s)
  | .ty n => v = .ty n
  | .ref a => v = .ref a
theorem Ct.of {K : PySem.W.Frag} {F H : Hp} {v : V} {d : D} (le : Le F H) (r : Rp K F v d) : Ct K F H v d := by
  cases r with
  | non => rfl
  | bl => rfl
  | int => rfl
  | str => rfl
  | ty => rfl
  | ref => rfl
  | scr e =>
    rcases e with ⟨o, e⟩ | e
    · exact ⟨_, rfl, .inl (.inr ⟨o, le.at e (fun z => z)⟩), .base (.frz (le.at e (fun z => z)))⟩
    · exact ⟨_, rfl, .inr e, let ⟨o, _, _, h1, h2, _⟩ := e; .kList h1 h2⟩
  | lst e q => exact ⟨_, _, rfl, le.at e (fun z => z), q⟩
  | tup e q => exact ⟨_, _, rfl, le.at e (fun z => z), q⟩
  | dic e q => exact ⟨_, _, rfl, le.rd e, q⟩
  | dit e q => exact ⟨_, _, rfl, le.rd e, q⟩
  | obj e q => exact ⟨_, _, _, rfl, le.at e (fun z => z), q⟩
theorem Ct.vw {K : PySem.W.Frag} {F H : Hp} {M : Mp} {v : V} {d : D} (h : HM K F M H) (r : Rp K F v d) : Ct K F H v (vw M d) := by
  have c := Ct.of h.le r
  cases d with
  | ref p =>
    have e : v = .ref p := c
    subst e
    cases q : M p with
    | none =>
      have z : DL.vw M (.ref p) = .ref p := by simp only [DL.vw, q]
      rw [z]; rfl
    | some o =>
      have z := (h.mo p o q).2
      cases o with
      | lst ds =>
        obtain ⟨xs, e, r⟩ := z
        have z : DL.vw M (.ref p) = .lst ds := by simp only [DL.vw, q]
        rw [z]; exact ⟨p, xs, rfl, e, r⟩
      | dic ds =>
        obtain ⟨xs, e, r⟩ := z
        have z : DL.vw M (.ref p) = .dic ds := by simp only [DL.vw, q]
        rw [z]; exact ⟨p, xs, rfl, .inl e, r⟩
      | dit ds =>
        obtain ⟨xs, e, r⟩ := z
        have z : DL.vw M (.ref p) = .dit ds := by simp only [DL.vw, q]
        rw [z]; exact ⟨p, xs, rfl, .inl e, r⟩
      | ins C ds =>
        obtain ⟨dx, xs, e, r⟩ := z
        have z : DL.vw M (.ref p) = .obj C ds := by simp only [DL.vw, q]
        rw [z]; exact ⟨p, dx, xs, rfl, e, r⟩
      | src c =>
        have z : DL.vw M (.ref p) = .ref p := by simp only [DL.vw, q]
        rw [z]; rfl
      | hid =>
        have z : DL.vw M (.ref p) = .ref p := by simp only [DL.vw, q]
        rw [z]; rfl
  | _ => exact c
section
variable {K : PySem.W.Frag} {F H : Hp}
theorem RpL.length : ∀ {xs : List V} {ds : List D}, RpL K F xs ds → xs.length = ds.length
  | _, _, .nil => rfl
  | _, _, .cons _ b => by simp [RpL.length b]
theorem RpL.app : ∀ {xs ys : List V} {ds es : List D}, RpL K F xs ds → RpL K F ys es → RpL K F (xs ++ ys) (ds ++ es)
  | _, _, _, _, .nil, b => b
  | _, _, _, _, .cons a t, b => .cons a (RpL.app t b)
theorem RpL.at : ∀ {xs : List V} {ds : List D} {i : Nat} {d : D}, RpL K F xs ds → ds[i]? = some d → ∃ v, xs[i]? = some v ∧ Rp K F v d
  | _, _, _, _, .nil, e => nomatch (show (none : Option D) = _ from e)
  | _, _, 0, _, .cons a t, e => ⟨_, rfl, by cases (show some _ = some _ from e); exact a⟩
  | _, _, i + 1, _, .cons a t, e => RpL.at (i := i) t e
theorem RpL.at' : ∀ {xs : List V} {ds : List D} {i : Nat} {v : V}, RpL K F xs ds → xs[i]? = some v → ∃ d, ds[i]? = some d ∧ Rp K F v d
  | _, _, _, _, .nil, e => nomatch (show (none : Option V) = _ from e)
  | _, _, 0, _, .cons a t, e => ⟨_, rfl, by cases (show some _ = some _ from e); exact a⟩
  | _, _, i + 1, _, .cons a t, e => RpL.at' (i := i) t e
theorem RpL.take : ∀ {xs : List V} {ds : List D} (n : Nat), RpL K F xs ds → RpL K F (xs.take n) (ds.take n)
  | _, _, 0, _ => .nil
  | _, _, _ + 1, .nil => .nil
  | _, _, n + 1, .cons a t => .cons a (RpL.take n t)
theorem RpL.drop : ∀ {xs : List V} {ds : List D} (n : Nat), RpL K F xs ds → RpL K F (xs.drop n) (ds.drop n)
  | _, _, 0, r => r
  | _, _, _ + 1, .nil => .nil
  | _, _, n + 1, .cons _ t => RpL.drop n t
theorem RpL.set : ∀ {xs : List V} {ds : List D} (i : Nat) {v : V} {d : D}, RpL K F xs ds → Rp K F v d → RpL K F (xs.set i v) (ds.set i d)
  | _, _, _, _, _, .nil, _ => .nil
  | _, _, 0, _, _, .cons _ t, r => .cons r t
  | _, _, i + 1, _, _, .cons a t, r => .cons a (RpL.set i t r)
theorem RpL.rev {xs : List V} {ds : List D} (r : RpL K F xs ds) : RpL K F xs.reverse ds.reverse := by
  induction xs generalizing ds with
  | nil => cases r; exact .nil
  | cons x xs ih =>
    cases r with
    | cons a t => rw [List.reverse_cons, List.reverse_cons]; exact RpL.app (ih t) (.cons a .nil)
theorem RpL.rep {xs : List V} {ds : List D} (r : RpL K F xs ds) : ∀ n : Nat, RpL K F (List.replicate n xs).flatten (List.replicate n ds).flatten
  | 0 => .nil
  | n + 1 => by rw [List.replicate_succ, List.replicate_succ, List.flatten_cons, List.flatten_cons]; exact RpL.app r (RpL.rep r n)
theorem RpL.ints : ∀ (ns : List Int), RpL K F (ns.map V.int) (ns.map D.int)
  | [] => .nil
  | n :: r => .cons (.int n) (RpL.ints r)
theorem RpL.of_ints : ∀ {ns : List Int} {xs : List V}, RpL K F xs (ns.map D.int) → xs = ns.map V.int
  | [], _, .nil => rfl
  | n :: r, _, .cons a t => by cases a; rw [RpL.of_ints t]; rfl
theorem RpL.of_strs : ∀ {ns : List Cd} {xs : List V}, RpL K F xs (ns.map D.str) → xs = (ns.map mkS).map V.str
  | [], _, .nil => rfl
  | n :: r, _, .cons a t => by cases a; rw [RpL.of_strs t]; rfl
theorem RpL.strs : ∀ (ns : List Cd), RpL K F ((ns.map mkS).map V.str) (ns.map D.str)
  | [] => .nil
  | n :: r => .cons (.str n) (RpL.strs r)
theorem RpL.of_bls : ∀ {ns : List Bool} {xs : List V}, RpL K F xs (ns.map D.bl) → xs = ns.map V.bl
  | [], _, .nil => rfl
  | n :: r, _, .cons a t => by cases a; rw [RpL.of_bls t]; rfl
/-- a new frozen list, tuple -/
theorem newLst {H : Hp} {F : Hp} {M : Mp} {ds : List D} {xs : List V} {Q : D → Mp → Prop} {Q0 : VK} (h : HM K F M H) (r : RpL K F xs ds) (q : Q (.lst ds) M) (k : KE K F M H Q Q0) : ∀ p, H p = none → Q0 (.ref p) (upd H p (.lst xs)) := fun p hp => by
  have s := Step.newF h hp (.lst xs)
  exact k _ _ _ _ _ s (.lst upd_same (r.mono s.fle)) q
theorem newTup {H : Hp} {F : Hp} {M : Mp} {ds : List D} {xs : List V} {Q : D → Mp → Prop} {Q0 : VK} (h : HM K F M H) (r : RpL K F xs ds) (q : Q (.tup ds) M) (k : KE K F M H Q Q0) : ∀ p, H p = none → Q0 (.ref p) (upd H p (.tup xs)) := fun p hp => by
  have s := Step.newF h hp (.tup xs)
  exact k _ _ _ _ _ s (.tup upd_same (r.mono s.fle)) q
theorem newMut {H : Hp} {F : Hp} {M : Mp} {ds : List D} {xs : List V} {Q : D → Mp → Prop} {Q0 : VK} (h : HM K F M H) (r : RpL K F xs ds) (q : ∀ p, M p = none → Q (.ref p) (mset M p (.lst ds))) (k : KE K F M H Q Q0) : ∀ p, H p = none → Q0 (.ref p) (upd H p (.lst xs)) := fun p hp => by
  have s := Step.newM h hp (o := .lst xs) (mo := .lst ds) ⟨xs, upd_same, r⟩
  exact k _ _ _ _ _ s (.ref p) (q p (h.none hp).1)
end

section
variable {X : Cx} {E0 : L2.St → XK} {Ee : DEnv → DXK} {a b c e : Expr} {es : List Expr} {ta tb tc te : TDE} {pos : Pos}
/-! ### names and constants -/
def dVar (i : Nat) : TDE := fun ρ M Q => match rget ρ i with
  | some d => Q d M
  | none => False
def dC (d : D) : TDE := fun _ M Q => Q d M
theorem de_pv {i : Nat} {e : Expr} (h : PE X e (tVar i)) : DE X E0 Ee e (dVar i) := PEimp h fun σ H Q0 ⟨F, M, ρ, Q, ss, q, k⟩ => by
  unfold dVar at q
  cases z : rget ρ i with
  | none => rw [z] at q; exact q.elim
  | some d =>
    rw [z] at q
    obtain ⟨v, e1, r⟩ := ss.env.get i d z
    exact ⟨v, e1, k.end ss.hm r q⟩
theorem de_c {v : V} {d : D} (h : PE X e (tC v)) (r : ∀ F, Rp X.K F v d) : DE X E0 Ee e (dC d) := PEimp h fun σ H Q0 ⟨F, M, ρ, Q, ss, q, k⟩ => k.end ss.hm (r F) q
theorem de_int {i : Int} {j} : DE X E0 Ee (.Constant (.int i) j pos) (dC (.int i)) := de_c pe_int fun _ => .int i
theorem de_bl {b : Bool} {j} : DE X E0 Ee (.Constant (.bool b) j pos) (dC (.bl b)) := de_c pe_bl fun _ => .bl b
theorem de_non {j} : DE X E0 Ee (.Constant .none j pos) (dC .non) := de_c pe_non fun _ => .non
theorem de_str {x : Str} {j} (l : Cd) (h : mkS l = x) : DE X E0 Ee (.Constant (.str x) j pos) (dC (.str l)) := de_c pe_str fun _ => by rw [← h]; exact .str l
/-- a module's name -/
theorem de_glob {x : Str} {v : V} {d : D} {u : Value} (hg : Gl X x) (hm : X.mg x = some u) (r : RelV v u) (rd : ∀ F, Rp X.K F v d) (hd : (x == ("__debug__" : Str)) = false := by decide) : DE X E0 Ee (.Name x pos) (dC d) := de_c (pe_glob hg hm r hd) rd

/-! ### operations on two values -/
def OpD (K : PySem.W.Frag) (r : R2) (f : D → D → Mp → (D → Mp → Prop) → Prop) : Prop :=
  ∀ x y dx dy F M H Q Q0, HM K F M H → Ct K F H x dx → Ct K F H y dy → f dx dy M Q → KE K F M H Q Q0 → r x y H Q0
def dOp (f : D → D → Mp → (D → Mp → Prop) → Prop) (ta tb : TDE) : TDE := fun ρ M Q => ta ρ M fun x M1 => tb ρ M1 fun y M2 => f (vw M2 x) (vw M2 y) M2 Q
theorem low_op {K : PySem.W.Frag} {r : R2} {f} (hd : OpD K r f) {σ : L2.St} {H : Hp} {Q0 : VK} (h : lowE K E0 Ee (dOp f ta tb) σ H Q0) : tOp r (lowE K E0 Ee ta) (lowE K E0 Ee tb) σ H Q0 := by
  obtain ⟨F, M, ρ, Q, ss, q, k⟩ := h
  refine ⟨F, M, ρ, _, ss, q, fun x H1 F1 dx M1 s1 rx q1 => ⟨F1, M1, ρ, _, ss.step s1, q1, fun y H2 F2 dy M2 s2 ry q2 => ?_⟩⟩
  exact hd x y _ _ F2 M2 H2 Q Q0 s2.hm (Ct.vw s2.hm (rx.mono s2.fle)) (Ct.vw s2.hm ry) q2 (k.step (s1.trans s2))
theorem de_op {op : Operator} {r : R2} {f} (ho : OpR X (binaryOp op) r) (hd : OpD X.K r f) (ha : DE X E0 Ee a ta) (hb : DE X E0 Ee b tb) : DE X E0 Ee (.BinOp a op b pos) (dOp f ta tb) := PEimp (pe_op ho ha hb) fun σ H Q0 h => low_op hd h
theorem de_cmp {op : CmpOp} {r : R2} {f} (ho : OpR X (compareOp op) r) (hd : OpD X.K r f) (ha : DE X E0 Ee a ta) (hb : DE X E0 Ee b tb) (hm : behindInMarks op b = false) : DE X E0 Ee (.Compare a [op] [b] pos) (dOp f ta tb) := PEimp (pe_cmpR ho ha hb hm) fun σ H Q0 h => low_op hd h
def dTest (t : TDE) : TDT := fun ρ M Q => t ρ M fun d M1 => match d with
  | .bl b => Q b M1
  | _ => False
theorem low_test {K : PySem.W.Frag} {t : TDE} {t0 : TE} (i : ∀ σ H Q0, lowE K E0 Ee t σ H Q0 → t0 σ H Q0) {σ : L2.St} {H : Hp} {Q0} (h : lowT K E0 Ee (dTest t) σ H Q0) : t0 σ H fun x H' => ∃ k, x = .bl k ∧ Q0 k H' := by
  obtain ⟨F, M, ρ, Q, ss, q, k⟩ := h
  refine i _ _ _ ⟨F, M, ρ, _, ss, q, fun v H1 F1 d M1 s1 r q1 => ?_⟩
  cases r with
  | bl b => exact ⟨b, rfl, k b H1 F1 b M1 s1 rfl q1⟩
  | _ => exact False.elim q1
theorem dt_cmp {op : CmpOp} {r : R2} {f} (ho : OpR X (compareOp op) r) (hd : OpD X.K r f) (ha : DE X E0 Ee a ta) (hb : DE X E0 Ee b tb) (hm : behindInMarks op b = false) : DT X E0 Ee (.Compare a [op] [b] pos) (dTest (dOp f ta tb)) :=
  PTimp (pt_cmpR ho ha hb hm) fun σ H Q0 h => low_test (t0 := tOp r (lowE X.K E0 Ee ta) (lowE X.K E0 Ee tb)) (fun _ _ _ h => low_op hd h) h
/-- an expression whose value is a bool -/
theorem dt_val (h : DE X E0 Ee e te) (he : ∀ whole, isTrue e X.env whole = (do let v ← whole; standAt e.pos; holding [v] (truthy v)) := by intro _; rfl) : DT X E0 Ee e (dTest te) := PTimp (pt_val h he) fun σ H Q0 h => low_test (t0 := lowE X.K E0 Ee te) (fun _ _ _ h => h) h
/-- by truth -/
def dTru (t : TDE) : TDT := fun ρ M Q => t ρ M fun d M1 => match vw M1 d with
  | .non => Q false M1
  | .bl b => Q b M1
  | .int i => Q (i != 0) M1
  | .str s => s.length ≤ sizeLine ∧ Q (!s.isEmpty) M1
  | .lst s => Q (!s.isEmpty) M1
  | .tup s => Q (!s.isEmpty) M1
  | _ => False
theorem RpL.empty {K : PySem.W.Frag} {F : Hp} {xs : List V} {ds : List D} (r : RpL K F xs ds) : xs.isEmpty = ds.isEmpty := by cases r <;> rfl
theorem dt_tru (h : DE X E0 Ee e te) (he : ∀ whole, isTrue e X.env whole = (do let v ← whole; standAt e.pos; holding [v] (truthy v)) := by intro _; rfl) : DT X E0 Ee e (dTru te) := PTimp (pt_truth h he) fun σ H Q0 ⟨F, M, ρ, Q, ss, q, k⟩ => by
  refine ⟨F, M, ρ, _, ss, q, fun v H1 F1 d M1 s1 r q1 => ?_⟩
  have c := Ct.vw s1.hm r
  have fin : ∀ b, Q b M1 → Q0 b H1 := fun b z => k b H1 F1 b M1 s1 rfl z
  generalize vw M1 d = d' at c q1
  cases d' with
  | non => cases c; exact ⟨false, rfl, fin _ q1⟩
  | bl b => cases c; exact ⟨b, rfl, fin _ q1⟩
  | int i => cases c; exact ⟨_, rfl, fin _ q1⟩
  | str s =>
    cases c
    refine ⟨!s.isEmpty, ⟨by rw [mkS_len]; exact q1.1, ?_⟩, fin _ q1.2⟩
    rw [mkS_len]
    cases s with
    | nil => rfl
    | cons x t => simp; omega
  | lst s => obtain ⟨p, xs, rfl, e, rl⟩ := c; exact ⟨_, .inl ⟨xs, SqL.of e, by rw [rl.empty]⟩, fin _ q1⟩
  | tup s => obtain ⟨p, xs, rfl, e, rl⟩ := c; exact ⟨_, .inr (.inl ⟨xs, SqT.of e, by rw [rl.empty]⟩), fin _ q1⟩
  | _ => exact False.elim q1
/-! ### and, or, not, if -/
def dAnd (t u : TDT) : TDT := fun ρ M Q => t ρ M fun c M1 => if c = true then u ρ M1 Q else Q false M1
def dOr (t u : TDT) : TDT := fun ρ M Q => t ρ M fun c M1 => if c = true then Q true M1 else u ρ M1 Q
def dNot (t : TDT) : TDT := fun ρ M Q => t ρ M fun c M1 => Q (!c) M1
variable {t u : TDT} {rest : List Expr}
theorem DW.dt (h : DW X E0 Ee e t) : DT X E0 Ee e t := PW.pt h
theorem dw_and1 (h : DT X E0 Ee a t) : DW X E0 Ee (.BoolOp .And [a] pos) t := pw_and1 h
theorem dw_or1 (h : DT X E0 Ee a t) : DW X E0 Ee (.BoolOp .Or [a] pos) t := pw_or1 h
theorem dw_and (ha : DT X E0 Ee a t) (hb : DW X E0 Ee (.BoolOp .And (b :: rest) pos) u) : DW X E0 Ee (.BoolOp .And (a :: b :: rest) pos) (dAnd t u) := PWimp (pw_and ha hb) fun σ H Q0 ⟨F, M, ρ, Q, ss, q, k⟩ => by
  refine ⟨F, M, ρ, _, ss, q, fun c H1 F1 d M1 s1 r q1 => ?_⟩
  have r' : c = d := r
  subst r'
  cases c with
  | true => exact iteT ⟨F1, M1, ρ, Q, ss.step s1, by simpa using q1, k.step s1⟩
  | false => exact iteF (k _ _ _ _ _ s1 rfl (by simpa using q1))
theorem dw_or (ha : DT X E0 Ee a t) (hb : DW X E0 Ee (.BoolOp .Or (b :: rest) pos) u) : DW X E0 Ee (.BoolOp .Or (a :: b :: rest) pos) (dOr t u) := PWimp (pw_or ha hb) fun σ H Q0 ⟨F, M, ρ, Q, ss, q, k⟩ => by
  refine ⟨F, M, ρ, _, ss, q, fun c H1 F1 d M1 s1 r q1 => ?_⟩
  have r' : c = d := r
  subst r'
  cases c with
  | true => exact iteT (k _ _ _ _ _ s1 rfl (by simpa using q1))
  | false => exact iteF ⟨F1, M1, ρ, Q, ss.step s1, by simpa using q1, k.step s1⟩
theorem dt_not (ha : DT X E0 Ee a t) : DT X E0 Ee (.UnaryOp .Not a pos) (dNot t) := PTimp (pt_not ha) fun σ H Q0 ⟨F, M, ρ, Q, ss, q, k⟩ =>
  ⟨F, M, ρ, _, ss, q, fun c H1 F1 d M1 s1 r q1 => k _ H1 F1 (!d) M1 s1 (by have r' : c = d := r; subst r'; rfl) q1⟩
def dAndV (ta tb : TDE) : TDE := fun ρ M Q => ta ρ M fun d M1 => match d with
  | .bl c => if c = true then tb ρ M1 Q else Q (.bl false) M1
  | _ => False
def dOrV (ta tb : TDE) : TDE := fun ρ M Q => ta ρ M fun d M1 => match d with
  | .bl c => if c = true then Q (.bl true) M1 else tb ρ M1 Q
  | _ => False
def dNotV (ta : TDE) : TDE := fun ρ M Q => ta ρ M fun d M1 => match d with
  | .bl c => Q (.bl (!c)) M1
  | _ => False
theorem de_one {op} (h : DE X E0 Ee a ta) : DE X E0 Ee (.BoolOp op [a] pos) ta := pe_one h
theorem de_and (ha : DE X E0 Ee a ta) (hb : DE X E0 Ee (.BoolOp .And (b :: rest) pos) tb) : DE X E0 Ee (.BoolOp .And (a :: b :: rest) pos) (dAndV ta tb) := PEimp (pe_and ha hb) fun σ H Q0 ⟨F, M, ρ, Q, ss, q, k⟩ => by
  refine ⟨F, M, ρ, _, ss, q, fun v H1 F1 d M1 s1 r q1 => ?_⟩
  cases r with
  | bl c =>
    refine ⟨c, rfl, ?_⟩
    cases c with
    | true => exact iteT ⟨F1, M1, ρ, Q, ss.step s1, by simpa using q1, k.step s1⟩
    | false => exact iteF (k _ _ _ _ _ s1 (.bl false) (by simpa using q1))
  | _ => exact False.elim q1
theorem de_or (ha : DE X E0 Ee a ta) (hb : DE X E0 Ee (.BoolOp .Or (b :: rest) pos) tb) : DE X E0 Ee (.BoolOp .Or (a :: b :: rest) pos) (dOrV ta tb) := PEimp (pe_or ha hb) fun σ H Q0 ⟨F, M, ρ, Q, ss, q, k⟩ => by
  refine ⟨F, M, ρ, _, ss, q, fun v H1 F1 d M1 s1 r q1 => ?_⟩
  cases r with
  | bl c =>
    refine ⟨c, rfl, ?_⟩
    cases c with
    | true => exact iteT (k _ _ _ _ _ s1 (.bl true) (by simpa using q1))
    | false => exact iteF ⟨F1, M1, ρ, Q, ss.step s1, by simpa using q1, k.step s1⟩
  | _ => exact False.elim q1
theorem de_not (ha : DE X E0 Ee a ta) : DE X E0 Ee (.UnaryOp .Not a pos) (dNotV ta) := PEimp (pe_not ha) fun σ H Q0 ⟨F, M, ρ, Q, ss, q, k⟩ => by
  refine ⟨F, M, ρ, _, ss, q, fun v H1 F1 d M1 s1 r q1 => ?_⟩
  cases r with
  | bl c => exact ⟨c, rfl, k _ _ _ _ _ s1 (.bl _) q1⟩
  | _ => exact False.elim q1
def dIfE (t : TDT) (ta tb : TDE) : TDE := fun ρ M Q => t ρ M fun c M1 => if c = true then ta ρ M1 Q else tb ρ M1 Q
theorem de_if (hc : DT X E0 Ee c t) (ha : DE X E0 Ee a ta) (hb : DE X E0 Ee b tb) : DE X E0 Ee (.IfExp c a b pos) (dIfE t ta tb) := PEimp (pe_ifExp hc ha hb) fun σ H Q0 ⟨F, M, ρ, Q, ss, q, k⟩ => by
  refine ⟨F, M, ρ, _, ss, q, fun c H1 F1 d M1 s1 r q1 => ?_⟩
  have r' : c = d := r
  subst r'
  cases c with
  | true => exact iteT ⟨F1, M1, ρ, Q, ss.step s1, by simpa using q1, k.step s1⟩
  | false => exact iteF ⟨F1, M1, ρ, Q, ss.step s1, by simpa using q1, k.step s1⟩
/-! ### arguments, displays -/
def dNil : TDA := fun _ M Q => Q [] M
def dCons (ta : TDE) (tr : TDA) : TDA := fun ρ M Q => ta ρ M fun x M1 => tr ρ M1 fun xs M2 => Q (x :: xs) M2
variable {tr : TDA}
theorem da_nil : DA X E0 Ee [] dNil := PAimp pa_nil fun σ H Q0 ⟨F, M, ρ, Q, ss, q, k⟩ => k.end ss.hm .nil q
theorem da_cons (ha : DE X E0 Ee e te) (hr : DA X E0 Ee es tr) (hs : starEach (e :: es) X.env = (false, eval e X.env) :: starEach es X.env := by rfl) : DA X E0 Ee (e :: es) (dCons te tr) := PAimp (pa_cons ha hr hs) fun σ H Q0 ⟨F, M, ρ, Q, ss, q, k⟩ =>
  ⟨F, M, ρ, _, ss, q, fun x H1 F1 dx M1 s1 rx q1 => ⟨F1, M1, ρ, _, ss.step s1, q1, fun xs H2 F2 ds M2 s2 rs q2 => k _ _ _ _ _ (s1.trans s2) (.cons (rx.mono s2.fle) rs) q2⟩⟩
def dStar (te : TDE) (tr : TDA) : TDA := fun ρ M Q => te ρ M fun x M1 => match vw M1 x with
  | .lst xs => tr ρ M1 fun ys M2 => Q (xs ++ ys) M2
  | .tup xs => tr ρ M1 fun ys M2 => Q (xs ++ ys) M2
  | _ => False
theorem da_star {p : Pos} (he : DE X E0 Ee e te) (hr : DA X E0 Ee es tr) (hs : starEach (.Starred e p :: es) X.env = (true, eval e X.env) :: starEach es X.env := by rfl) : DA X E0 Ee (.Starred e p :: es) (dStar te tr) := PAimp (StX.pa_star he hr hs) fun σ H Q0 ⟨F, M, ρ, Q, ss, q, k⟩ => by
  refine ⟨F, M, ρ, _, ss, q, fun v H1 F1 d M1 s1 r q1 => ?_⟩
  have c := Ct.vw s1.hm r
  generalize vw M1 d = d' at c q1
  cases d' with
  | lst s => obtain ⟨p, xs, rfl, e, rl⟩ := c; exact ⟨p, xs, rfl, .inr (SqL.of e), F1, M1, ρ, _, ss.step s1, q1, fun ys H2 F2 ds M2 s2 rs q2 => k _ _ _ _ _ (s1.trans s2) ((rl.mono s2.fle).app rs) q2⟩
  | tup s => obtain ⟨p, xs, rfl, e, rl⟩ := c; exact ⟨p, xs, rfl, .inl (SqT.of e), F1, M1, ρ, _, ss.step s1, q1, fun ys H2 F2 ds M2 s2 rs q2 => k _ _ _ _ _ (s1.trans s2) ((rl.mono s2.fle).app rs) q2⟩
  | _ => exact False.elim q1
def dTup (tr : TDA) : TDE := fun ρ M Q => tr ρ M fun xs M1 => xs.length ≤ sizeLine ∧ Q (.tup xs) M1
def dLst (tr : TDA) : TDE := fun ρ M Q => tr ρ M fun xs M1 => xs.length ≤ sizeLine ∧ Q (.lst xs) M1
/-- a list that will be changed in place -/
def dLstM (tr : TDA) : TDE := fun ρ M Q => tr ρ M fun xs M1 => xs.length ≤ sizeLine ∧ ∀ p, M1 p = none → Q (.ref p) (mset M1 p (.lst xs))
theorem de_tup {j} (h : DA X E0 Ee es tr) : DE X E0 Ee (.Tuple es j pos) (dTup tr) := PEimp (pe_tup h) fun σ H Q0 ⟨F, M, ρ, Q, ss, q, k⟩ =>
  ⟨F, M, ρ, _, ss, q, fun xs H1 F1 ds M1 s1 rs q1 => ⟨by rw [rs.length]; exact q1.1, newTup s1.hm rs q1.2 (k.step s1)⟩⟩
theorem de_lst (h : DA X E0 Ee es tr) : DE X E0 Ee (.List es pos) (dLst tr) := PEimp (pe_lst h) fun σ H Q0 ⟨F, M, ρ, Q, ss, q, k⟩ =>
  ⟨F, M, ρ, _, ss, q, fun xs H1 F1 ds M1 s1 rs q1 => ⟨by rw [rs.length]; exact q1.1, newLst s1.hm rs q1.2 (k.step s1)⟩⟩
theorem de_lstM (h : DA X E0 Ee es tr) : DE X E0 Ee (.List es pos) (dLstM tr) := PEimp (pe_lst h) fun σ H Q0 ⟨F, M, ρ, Q, ss, q, k⟩ =>
  ⟨F, M, ρ, _, ss, q, fun xs H1 F1 ds M1 s1 rs q1 => ⟨by rw [rs.length]; exact q1.1, newMut s1.hm rs q1.2 (k.step s1)⟩⟩
/-- ghost steps: a list that was changed in place is data from now on -/
def dFrz (te : TDE) : TDE := fun ρ M Q => te ρ M fun d M1 => match d with
  | .ref p => match M1 p with
    | some (.lst ds) => Q (.lst ds) (mdel M1 p)
    | some (.dic ds) => Q (.dic ds) (mdel M1 p)
    | some (.dit ds) => Q (.dit ds) (mdel M1 p)
    | some (.ins C ds) => Q (.obj C ds) (mdel M1 p)
    | _ => False
  | _ => False
theorem de_frz (h : DE X E0 Ee e te) : DE X E0 Ee e (dFrz te) := PEimp h fun σ H Q0 ⟨F, M, ρ, Q, ss, q, k⟩ => by
  refine ⟨F, M, ρ, _, ss, q, fun v H1 F1 d M1 s1 r q1 => ?_⟩
  cases r with
  | ref p =>
    dsimp only at q1
    cases z : M1 p with
    | none => rw [z] at q1; exact q1.elim
    | some o =>
      rw [z] at q1
      have y := (s1.hm.mo p o z).2
      cases o with
      | lst ds =>
        obtain ⟨xs, e, rl⟩ := y
        have s2 := Step.frz s1.hm z (by intro z; cases z) e
        exact k _ _ _ _ _ (s1.trans s2) (.lst upd_same (rl.mono s2.fle)) q1
      | dic ds =>
        obtain ⟨xs, e, rl⟩ := y
        have s2 := Step.frz s1.hm z (by intro z; cases z) e
        exact k _ _ _ _ _ (s1.trans s2) (.dic upd_same (rl.mono s2.fle)) q1
      | dit ds =>
        obtain ⟨xs, e, rl⟩ := y
        have s2 := Step.frz s1.hm z (by intro z; cases z) e
        exact k _ _ _ _ _ (s1.trans s2) (.dit upd_same (rl.mono s2.fle)) q1
      | ins C ds =>
        obtain ⟨dx, xs, e, rl⟩ := y
        have s2 := Step.frz s1.hm z (by intro z; cases z) e
        exact k _ _ _ _ _ (s1.trans s2) (.obj upd_same (rl.mono s2.fle)) q1
      | src c => exact q1.elim
      | hid => exact q1.elim
  | _ => exact False.elim q1
end
end DL


set_option Elab.async false
set_option linter.all false
set_option maxRecDepth 100000
set_option maxHeartbeats 4000000
namespace DL
open PySem PySem.Spec PyProof.Rows L2

/-! ### arithmetic -/
abbrev TOp := D → D → Mp → (D → Mp → Prop) → Prop
def oAdd : TOp
  | .int i, .int j, M, Q => Q (.int (i + j)) M
  | .str a, .str b, M, Q => a.length + b.length ≤ sizeLine ∧ Q (.str (a ++ b)) M
  | .lst a, .lst b, M, Q => a.length + b.length ≤ sizeLine ∧ Q (.lst (a ++ b)) M
  | .tup a, .tup b, M, Q => a ≠ [] ∧ b ≠ [] ∧ a.length + b.length ≤ sizeLine ∧ Q (.tup (a ++ b)) M
  | _, _, _, _ => False
def oSub : TOp
  | .int i, .int j, M, Q => Q (.int (i - j)) M
  | _, _, _, _ => False
def strMul (a : Cd) (n : Int) : Cd := (List.replicate n.toNat a).flatten
def oMul : TOp
  | .int i, .int j, M, Q => CMul i j ∧ Q (.int (i * j)) M
  | .lst a, .int k, M, Q => -(2 ^ 63) ≤ k ∧ k < 2 ^ 63 ∧ a.length * k.toNat ≤ sizeLine ∧ Q (.lst (List.replicate k.toNat a).flatten) M
  | .str a, .int k, M, Q => (-(2 ^ 63) ≤ k ∧ k ≤ 16777216 ∧ a.length * k.toNat ≤ 16777216) ∧ Q (.str (strMul a k)) M
  | _, _, _, _ => False
def oFdiv : TOp
  | .int i, .int j, M, Q => CDiv i j ∧ Q (.int (i / j)) M
  | _, _, _, _ => False
def oMod : TOp
  | .int i, .int j, M, Q => 0 < j ∧ Q (.int (i % j)) M
  | _, _, _, _ => False
def oPow : TOp
  | .int i, .int j, M, Q => CPow i j ∧ Q (.int (i ^ j.toNat)) M
  | _, _, _, _ => False

theorem mulStr_eq (a : Cd) (n : Int) : Txt.mul (mkS a) n = mkS (strMul a n) := by
  have key : ∀ (k : Nat) (acc : Array Nat), ((List.replicate k a.toArray).foldl (· ++ ·) acc).toList = acc.toList ++ (List.replicate k a).flatten := by
    intro k
    induction k with
    | zero => intro acc; simp
    | succ k ih => intro acc; rw [List.replicate_succ, List.foldl_cons, ih, List.replicate_succ, List.flatten_cons]; simp
  have fin : ∀ x : Str, x.cps.toList = strMul a n → x = mkS (strMul a n) := fun x h => by rw [← h, mkS_tl]
  apply fin
  unfold Txt.mul strMul
  by_cases h1 : n < 1
  · rw [if_pos h1]
    have e : n.toNat = 0 := by omega
    rw [e]; rfl
  · rw [if_neg h1]
    by_cases h2 : n = 1
    · subst h2
      show a = (List.replicate 1 a).flatten
      simp
    · by_cases h3 : a = []
      · subst h3
        have e : (n == 1 || (mkS []).length == 0) = true := by rw [mkS_len]; simp
        rw [e, if_pos rfl]
        show ([] : Cd) = _
        induction n.toNat with
        | zero => rfl
        | succ k ih => rw [List.replicate_succ, List.flatten_cons, ← ih]; rfl
      · have e : (n == 1 || (mkS a).length == 0) = false := by
          have a1 : (n == 1) = false := by simpa using h2
          rw [a1, mkS_len]
          cases a with
          | nil => exact absurd rfl h3
          | cons x t => rfl
        rw [e, if_neg Bool.false_ne_true]
        show ((List.replicate n.toNat a.toArray).foldl (· ++ ·) #[]).toList = _
        rw [key]; simp
theorem op_mulS {X : Cx} : OpR X (binaryOp .Mult) (fun x y H Q => ∃ (a : Cd) (k : Int), x = .str (mkS a) ∧ y = .int k ∧ (-(2 ^ 63) ≤ k ∧ k ≤ 16777216 ∧ a.length * k.toNat ≤ 16777216) ∧ Q (.str (mkS (strMul a k))) H) := by
  intro pins s σ H x y v u Q I rx ry h
  obtain ⟨a, k, rfl, rfl, hz, q⟩ := h
  obtain ⟨t, rfl⟩ := rx
  obtain ⟨t', rfl⟩ := ry
  refine PySem.SB.mul (PyProof.Rows.mulOk_of a.length k.toNat (by rw [mkS_len]; exact Nat.le_refl _) (by omega) (by omega) (by omega) hz.2.2) fun t' tk => ?_
  rw [mulStr_eq]
  exact ⟨.str _, H, I.tok _, ⟨_, rfl⟩, q⟩
section
variable {X : Cx} {K : PySem.W.Frag} {E0 : L2.St → XK} {Ee : DEnv → DXK} {a b c e : Expr} {es : List Expr} {ta tb tc te : TDE} {pos : Pos}

abbrev rAdd4 (K : PySem.W.Frag) : R2 := fun x y H Q => rI0 (fun i j => .int (i + j)) x y H Q ∨ ((∃ i j, x = .str i ∧ y = .str j ∧ i.length + j.length ≤ sizeLine ∧ Q (.str (i ++ j)) H) ∨ (rCat x y H Q ∨ rCatT K x y H Q))
theorem op_add4 : OpR X (binaryOp .Add) (rAdd4 X.K) := op_add.or (op_add_str.or (op_cat.or op_catT))
theorem od_add : OpD K (rAdd4 K) oAdd := by
  intro x y dx dy F M H Q Q0 hm cx cy q k
  cases dx with
  | int i =>
    cases dy with
    | int j => cases cx; cases cy; exact .inl ⟨i, j, rfl, rfl, k.end hm (.int _) q⟩
    | _ => exact False.elim q
  | str a =>
    cases dy with
    | str b =>
      cases cx; cases cy
      refine .inr (.inl ⟨_, _, rfl, rfl, by rw [mkS_len, mkS_len]; exact q.1, ?_⟩)
      rw [mkS_app]
      exact k.end hm (.str _) q.2
    | _ => exact False.elim q
  | lst a =>
    cases dy with
    | lst b =>
      obtain ⟨p, xs, rfl, e1, r1⟩ := cx
      obtain ⟨p', ys, rfl, e2, r2⟩ := cy
      exact .inr (.inr (.inl ⟨p, p', xs, ys, rfl, rfl, e1, e2, by rw [r1.length, r2.length]; exact q.1, newLst hm (r1.app r2) q.2 k⟩))
    | _ => exact False.elim q
  | tup a =>
    cases dy with
    | tup b =>
      obtain ⟨p, xs, rfl, e1, r1⟩ := cx
      obtain ⟨p', ys, rfl, e2, r2⟩ := cy
      obtain ⟨q1, q2, q3, q4⟩ := q
      have h1 : xs ≠ [] := fun z => q1 (List.length_eq_zero_iff.mp (by rw [← r1.length, z]; rfl))
      have h2 : ys ≠ [] := fun z => q2 (List.length_eq_zero_iff.mp (by rw [← r2.length, z]; rfl))
      exact .inr (.inr (.inr ⟨p, p', xs, ys, rfl, rfl, SqT.of e1, SqT.of e2, h1, by rw [r1.length, r2.length]; exact q3, fun z => absurd z h2, fun _ => newTup hm (r1.app r2) q4 k⟩))
    | _ => exact False.elim q
  | _ => exact False.elim q
theorem od_sub : OpD K (rI0 fun i j => .int (i - j)) oSub := by
  intro x y dx dy F M H Q Q0 hm cx cy q k
  cases dx with
  | int i =>
    cases dy with
    | int j => cases cx; cases cy; exact ⟨i, j, rfl, rfl, k.end hm (.int _) q⟩
    | _ => exact False.elim q
  | _ => exact False.elim q
abbrev rMul3 : R2 := fun x y H Q => rI CMul (fun i j => .int (i * j)) x y H Q ∨ (rRep x y H Q ∨ (∃ (a : Cd) (k : Int), x = .str (mkS a) ∧ y = .int k ∧ (-(2 ^ 63) ≤ k ∧ k ≤ 16777216 ∧ a.length * k.toNat ≤ 16777216) ∧ Q (.str (mkS (strMul a k))) H))
theorem op_mul3 : OpR X (binaryOp .Mult) rMul3 := op_mul.or (op_rep.or op_mulS)
theorem od_mul : OpD K rMul3 oMul := by
  intro x y dx dy F M H Q Q0 hm cx cy q k
  cases dx with
  | int i =>
    cases dy with
    | int j => cases cx; cases cy; exact .inl ⟨i, j, rfl, rfl, q.1, k.end hm (.int _) q.2⟩
    | _ => exact False.elim q
  | lst a =>
    cases dy with
    | int j =>
      obtain ⟨p, xs, rfl, e1, r1⟩ := cx
      cases cy
      obtain ⟨q1, q2, q3, q4⟩ := q
      exact .inr (.inl ⟨p, j, xs, rfl, rfl, e1, q1, q2, by rw [r1.length]; exact q3, newLst hm (r1.rep _) q4 k⟩)
    | _ => exact False.elim q
  | str a =>
    cases dy with
    | int j => cases cx; cases cy; exact .inr (.inr ⟨a, j, rfl, rfl, q.1, k.end hm (.str _) q.2⟩)
    | _ => exact False.elim q
  | _ => exact False.elim q
theorem od_ii {C : Int → Int → Prop} {g : Int → Int → Int} {f : TOp} (hf : ∀ i j M Q, f (.int i) (.int j) M Q → C i j ∧ Q (.int (g i j)) M) (hn : ∀ x y M Q, f x y M Q → ∃ i j, x = .int i ∧ y = .int j) : OpD K (rI C fun i j => .int (g i j)) f := by
  intro x y dx dy F M H Q Q0 hm cx cy q k
  obtain ⟨i, j, rfl, rfl⟩ := hn _ _ _ _ q
  obtain ⟨q1, q2⟩ := hf _ _ _ _ q
  cases cx; cases cy
  exact ⟨i, j, rfl, rfl, q1, k.end hm (.int _) q2⟩
theorem od_fdiv : OpD K (rI CDiv fun i j => .int (i / j)) oFdiv := od_ii (fun _ _ _ _ h => h) fun x y M Q h => by
  cases x with
  | int i =>
    cases y with
    | int j => exact ⟨i, j, rfl, rfl⟩
    | _ => exact h.elim
  | _ => exact h.elim
theorem od_mod : OpD K (rI (fun _ j => 0 < j) fun i j => .int (i % j)) oMod := od_ii (fun _ _ _ _ h => h) fun x y M Q h => by
  cases x with
  | int i =>
    cases y with
    | int j => exact ⟨i, j, rfl, rfl⟩
    | _ => exact h.elim
  | _ => exact h.elim
theorem od_pow : OpD K (rI CPow fun i j => .int (i ^ j.toNat)) oPow := od_ii (fun _ _ _ _ h => h) fun x y M Q h => by
  cases x with
  | int i =>
    cases y with
    | int j => exact ⟨i, j, rfl, rfl⟩
    | _ => exact h.elim
  | _ => exact h.elim
theorem de_add (ha : DE X E0 Ee a ta) (hb : DE X E0 Ee b tb) : DE X E0 Ee (.BinOp a .Add b pos) (dOp oAdd ta tb) := de_op op_add4 od_add ha hb
theorem de_sub (ha : DE X E0 Ee a ta) (hb : DE X E0 Ee b tb) : DE X E0 Ee (.BinOp a .Sub b pos) (dOp oSub ta tb) := de_op op_sub od_sub ha hb
theorem de_mul (ha : DE X E0 Ee a ta) (hb : DE X E0 Ee b tb) : DE X E0 Ee (.BinOp a .Mult b pos) (dOp oMul ta tb) := de_op op_mul3 od_mul ha hb
theorem de_fdiv (ha : DE X E0 Ee a ta) (hb : DE X E0 Ee b tb) : DE X E0 Ee (.BinOp a .FloorDiv b pos) (dOp oFdiv ta tb) := de_op op_fdiv od_fdiv ha hb
theorem de_mod (ha : DE X E0 Ee a ta) (hb : DE X E0 Ee b tb) : DE X E0 Ee (.BinOp a .Mod b pos) (dOp oMod ta tb) := de_op op_mod od_mod ha hb
theorem de_pow (ha : DE X E0 Ee a ta) (hb : DE X E0 Ee b tb) : DE X E0 Ee (.BinOp a .Pow b pos) (dOp oPow ta tb) := de_op op_pow od_pow ha hb
def dNeg (ta : TDE) : TDE := fun ρ M Q => ta ρ M fun d M1 => match d with
  | .int i => Q (.int (-i)) M1
  | _ => False
theorem de_neg (ha : DE X E0 Ee a ta) : DE X E0 Ee (.UnaryOp .USub a pos) (dNeg ta) := PEimp (pe_un un_neg ha) fun σ H Q0 ⟨F, M, ρ, Q, ss, q, k⟩ => by
  refine ⟨F, M, ρ, _, ss, q, fun v H1 F1 d M1 s1 r q1 => ?_⟩
  cases r with
  | int i => exact ⟨i, rfl, k _ _ _ _ _ s1 (.int _) q1⟩
  | _ => exact False.elim q1

/-! ### comparisons -/
def oCmp (p : Int → Int → Bool) : TOp
  | .int i, .int j, M, Q => Q (.bl (p i j)) M
  | _, _, _, _ => False
theorem od_cmp {p : Int → Int → Bool} : OpD K (rI0 fun i j => .bl (p i j)) (oCmp p) := by
  intro x y dx dy F M H Q Q0 hm cx cy q k
  cases dx with
  | int i =>
    cases dy with
    | int j => cases cx; cases cy; exact ⟨i, j, rfl, rfl, k.end hm (.bl _) q⟩
    | _ => exact False.elim q
  | _ => exact False.elim q
abbrev oLt : TOp := oCmp fun i j => decide (i < j)
abbrev oLe : TOp := oCmp fun i j => decide (i ≤ j)
abbrev oGt : TOp := oCmp fun i j => decide (j < i)
abbrev oGe : TOp := oCmp fun i j => decide (j ≤ i)
theorem dt_lt (ha : DE X E0 Ee a ta) (hb : DE X E0 Ee b tb) : DT X E0 Ee (.Compare a [.Lt] [b] pos) (dTest (dOp oLt ta tb)) := dt_cmp op_lt od_cmp ha hb (nomark _)
theorem dt_le (ha : DE X E0 Ee a ta) (hb : DE X E0 Ee b tb) : DT X E0 Ee (.Compare a [.LtE] [b] pos) (dTest (dOp oLe ta tb)) := dt_cmp op_le od_cmp ha hb (nomark _)
theorem dt_gt (ha : DE X E0 Ee a ta) (hb : DE X E0 Ee b tb) : DT X E0 Ee (.Compare a [.Gt] [b] pos) (dTest (dOp oGt ta tb)) := dt_cmp op_gt od_cmp ha hb (nomark _)
theorem dt_ge (ha : DE X E0 Ee a ta) (hb : DE X E0 Ee b tb) : DT X E0 Ee (.Compare a [.GtE] [b] pos) (dTest (dOp oGe ta tb)) := dt_cmp op_ge od_cmp ha hb (nomark _)
theorem de_lt (ha : DE X E0 Ee a ta) (hb : DE X E0 Ee b tb) : DE X E0 Ee (.Compare a [.Lt] [b] pos) (dOp oLt ta tb) := de_cmp op_lt od_cmp ha hb (nomark _)
theorem de_le (ha : DE X E0 Ee a ta) (hb : DE X E0 Ee b tb) : DE X E0 Ee (.Compare a [.LtE] [b] pos) (dOp oLe ta tb) := de_cmp op_le od_cmp ha hb (nomark _)
theorem de_gt (ha : DE X E0 Ee a ta) (hb : DE X E0 Ee b tb) : DE X E0 Ee (.Compare a [.Gt] [b] pos) (dOp oGt ta tb) := de_cmp op_gt od_cmp ha hb (nomark _)
theorem de_ge (ha : DE X E0 Ee a ta) (hb : DE X E0 Ee b tb) : DE X E0 Ee (.Compare a [.GtE] [b] pos) (dOp oGe ta tb) := de_cmp op_ge od_cmp ha hb (nomark _)

/-! ### == of data -/
mutual
def D.py : D → Option PyData
  | .non => some .none
  | .bl b => some (.bool b)
  | .int i => some (.int i)
  | .str s => some (.str (mkS s))
  | .lst xs => (pyL xs).map .list
  | .tup xs => (pyL xs).map .tuple
  | .ty _ | .ref _ | .scr _ | .dic _ | .dit _ | .obj _ _ => none
def pyL : List D → Option (List PyData)
  | [] => some []
  | x :: xs => match x.py, pyL xs with
    | some p, some ps => some (p :: ps)
    | _, _ => none
end
mutual
/-- == as Python has it -/
def deq : D → D → Bool
  | .non, .non => true
  | .bl a, .bl b => a == b
  | .bl a, .int j => (if a then 1 else 0) == j
  | .int i, .bl b => i == (if b then 1 else 0)
  | .int i, .int j => i == j
  | .str x, .str y => x == y
  | .lst xs, .lst ys => deqL xs ys
  | .tup xs, .tup ys => deqL xs ys
  | _, _ => false
def deqL : List D → List D → Bool
  | [], [] => true
  | x :: xs, y :: ys => deq x y && deqL xs ys
  | _, _ => false
end
/-- what may be compared: none, bools, numbers, texts, lists, tuples, at most 64 deep -/
def cmpOk (d : D) : Bool := match d.py with
  | some p => SeqAt.shaped p
  | none => false
mutual
theorem deq_py : ∀ (x y : D) {p q : PyData}, x.py = some p → y.py = some q → PyData.eqv p q = deq x y
  | .non, y, p, q, h1, h2 => by
    cases h1
    cases y with
    | lst ys => simp only [D.py, Option.map_eq_some_iff] at h2; obtain ⟨_, _, rfl⟩ := h2; rfl
    | tup ys => simp only [D.py, Option.map_eq_some_iff] at h2; obtain ⟨_, _, rfl⟩ := h2; rfl
    | _ => first | (cases h2; done) | (cases h2; rfl)
  | .bl a, y, p, q, h1, h2 => by
    cases h1
    cases y with
    | lst ys => simp only [D.py, Option.map_eq_some_iff] at h2; obtain ⟨_, _, rfl⟩ := h2; rfl
    | tup ys => simp only [D.py, Option.map_eq_some_iff] at h2; obtain ⟨_, _, rfl⟩ := h2; rfl
    | _ => first | (cases h2; done) | (cases h2; rfl)
  | .int a, y, p, q, h1, h2 => by
    cases h1
    cases y with
    | lst ys => simp only [D.py, Option.map_eq_some_iff] at h2; obtain ⟨_, _, rfl⟩ := h2; rfl
    | tup ys => simp only [D.py, Option.map_eq_some_iff] at h2; obtain ⟨_, _, rfl⟩ := h2; rfl
    | _ => first | (cases h2; done) | (cases h2; rfl)
  | .str a, y, p, q, h1, h2 => by
    cases h1
    cases y with
    | str b =>
      cases h2
      simp only [deq, PyData.eqv]
      rw [Bool.eq_iff_iff]
      simp only [beq_iff_eq]
      exact ⟨fun h => mkS_inj h, fun h => by rw [h]⟩
    | lst ys => simp only [D.py, Option.map_eq_some_iff] at h2; obtain ⟨_, _, rfl⟩ := h2; rfl
    | tup ys => simp only [D.py, Option.map_eq_some_iff] at h2; obtain ⟨_, _, rfl⟩ := h2; rfl
    | _ => first | (cases h2; done) | (cases h2; rfl)
  | .lst xs, y, p, q, h1, h2 => by
    simp only [D.py, Option.map_eq_some_iff] at h1
    obtain ⟨ps, e1, rfl⟩ := h1
    cases y with
    | lst ys =>
      simp only [D.py, Option.map_eq_some_iff] at h2; obtain ⟨qs, e2, rfl⟩ := h2
      simp only [PyData.eqv, deq]
      exact deqL_py xs ys e1 e2
    | tup ys => simp only [D.py, Option.map_eq_some_iff] at h2; obtain ⟨_, _, rfl⟩ := h2; rfl
    | _ => first | (cases h2; done) | (cases h2; rfl)
  | .tup xs, y, p, q, h1, h2 => by
    simp only [D.py, Option.map_eq_some_iff] at h1
    obtain ⟨ps, e1, rfl⟩ := h1
    cases y with
    | tup ys =>
      simp only [D.py, Option.map_eq_some_iff] at h2; obtain ⟨qs, e2, rfl⟩ := h2
      simp only [PyData.eqv, deq]
      exact deqL_py xs ys e1 e2
    | lst ys => simp only [D.py, Option.map_eq_some_iff] at h2; obtain ⟨_, _, rfl⟩ := h2; rfl
    | _ => first | (cases h2; done) | (cases h2; rfl)
  | .ty _, _, _, _, h1, _ => by simp [D.py] at h1
  | .ref _, _, _, _, h1, _ => by simp [D.py] at h1
  | .scr _, _, _, _, h1, _ => by simp [D.py] at h1
  | .dic _, _, _, _, h1, _ => by simp [D.py] at h1
  | .dit _, _, _, _, h1, _ => by simp [D.py] at h1
  | .obj _ _, _, _, _, h1, _ => by simp [D.py] at h1
theorem deqL_py : ∀ (xs ys : List D) {ps qs : List PyData}, pyL xs = some ps → pyL ys = some qs → PyData.eqvAll ps qs = deqL xs ys
  | [], ys, ps, qs, h1, h2 => by
    cases h1
    cases ys with
    | nil => cases h2; simp [PyData.eqvAll, deqL]
    | cons y ys =>
      simp only [pyL] at h2
      split at h2
      · cases h2; simp [PyData.eqvAll, deqL]
      · cases h2
  | x :: xs, ys, ps, qs, h1, h2 => by
    simp only [pyL] at h1
    split at h1
    · rename_i p ps' e1 e2
      cases h1
      cases ys with
      | nil => cases h2; simp [PyData.eqvAll, deqL]
      | cons y ys =>
        simp only [pyL] at h2
        split at h2
        · rename_i q qs' e3 e4
          cases h2
          simp only [PyData.eqvAll, deqL]
          rw [deq_py x y e1 e3, deqL_py xs ys e2 e4]
        · cases h2
    · cases h1
end
mutual
theorem dp_of {K : PySem.W.Frag} {F H : Hp} (le : Le F H) : ∀ {v : V} {d : D} {p : PyData}, Rp K F v d → d.py = some p → Dp K H v p
  | _, _, _, .non, h => by cases h; exact .non
  | _, _, _, .bl b, h => by cases h; exact .bl b
  | _, _, _, .int b, h => by cases h; exact .int b
  | _, _, _, .str b, h => by cases h; exact .str _
  | _, _, _, .lst e r, h => by
    simp only [D.py, Option.map_eq_some_iff] at h; obtain ⟨ps, e1, rfl⟩ := h
    exact .lst (SqL.of (le.at e (fun z => z))) (dpL_of le r e1)
  | _, _, _, .tup e r, h => by
    simp only [D.py, Option.map_eq_some_iff] at h; obtain ⟨ps, e1, rfl⟩ := h
    exact .tup (SqT.of (le.at e (fun z => z))) (dpL_of le r e1)
  | _, _, _, .ty _, h => by simp [D.py] at h
  | _, _, _, .ref _, h => by simp [D.py] at h
  | _, _, _, .scr _, h => by simp [D.py] at h
  | _, _, _, .dic _ _, h => by simp [D.py] at h
  | _, _, _, .dit _ _, h => by simp [D.py] at h
  | _, _, _, .obj _ _, h => by simp [D.py] at h
theorem dpL_of {K : PySem.W.Frag} {F H : Hp} (le : Le F H) : ∀ {v : List V} {d : List D} {p : List PyData}, RpL K F v d → pyL d = some p → DpAll K H v p
  | _, _, _, .nil, h => by cases h; exact .nil
  | _, _, _, .cons a r, h => by
    simp only [pyL] at h
    split at h
    · rename_i p ps e1 e2
      cases h
      exact .cons (dp_of le a e1) (dpL_of le r e2)
    · cases h
end
theorem dp_ct {K : PySem.W.Frag} {F H : Hp} (le : Le F H) {v : V} {d : D} {p : PyData} (c : Ct K F H v d) (h : d.py = some p) : Dp K H v p := by
  cases d with
  | non => cases c; cases h; exact .non
  | bl b => cases c; cases h; exact .bl b
  | int b => cases c; cases h; exact .int b
  | str b => cases c; cases h; exact .str _
  | lst xs =>
    simp only [D.py, Option.map_eq_some_iff] at h; obtain ⟨ps, e1, rfl⟩ := h
    obtain ⟨a, xs, rfl, e, r⟩ := c
    exact .lst (SqL.of e) (dpL_of le r e1)
  | tup xs =>
    simp only [D.py, Option.map_eq_some_iff] at h; obtain ⟨ps, e1, rfl⟩ := h
    obtain ⟨a, xs, rfl, e, r⟩ := c
    exact .tup (SqT.of e) (dpL_of le r e1)
  | _ => simp [D.py] at h
def flatD : D → Bool
  | .non => true | .bl _ => true | .int _ => true | .str _ => true
  | _ => false
def oEq : TOp := fun x y M Q => (flatD x = true ∧ flatD y = true ∨ cmpOk x = true ∧ cmpOk y = true) ∧ Q (.bl (deq x y)) M
def oNe : TOp := fun x y M Q => (flatD x = true ∧ flatD y = true ∨ cmpOk x = true ∧ cmpOk y = true) ∧ Q (.bl (!deq x y)) M
theorem eqV_flat {K : PySem.W.Frag} {F H : Hp} {x y : V} {dx dy : D} (cx : Ct K F H x dx) (cy : Ct K F H y dy) (hx : flatD dx = true) (hy : flatD dy = true) : flatV x = true ∧ flatV y = true ∧ eqV x y = deq dx dy := by
  cases dx with
  | non => cases cx; cases dy <;> first | (cases hy; done) | (cases cy; exact ⟨rfl, rfl, by simp [eqV, deq]⟩)
  | bl => cases cx; cases dy <;> first | (cases hy; done) | (cases cy; exact ⟨rfl, rfl, by simp [eqV, deq]⟩)
  | int => cases cx; cases dy <;> first | (cases hy; done) | (cases cy; exact ⟨rfl, rfl, by simp [eqV, deq]⟩)
  | str a =>
    cases cx
    cases dy with
    | str b =>
      cases cy
      refine ⟨rfl, rfl, ?_⟩
      simp only [deq, eqV]
      rw [Bool.eq_iff_iff]
      simp only [beq_iff_eq]
      exact ⟨fun h => mkS_inj h, fun h => by rw [h]⟩
    | _ => first | (cases hy; done) | (cases cy; exact ⟨rfl, rfl, by simp [eqV, deq]⟩)
  | _ => cases hx
end
end DL


set_option Elab.async false
set_option linter.all false
set_option maxRecDepth 100000
set_option maxHeartbeats 4000000
namespace DL
open PySem PySem.Spec PyProof.Rows L2

section
variable {X : Cx} {K : PySem.W.Frag} {E0 : L2.St → XK} {Ee : DEnv → DXK} {a b c e : Expr} {es : List Expr} {ta tb tc te : TDE} {tr : TDA} {pos : Pos}

theorem cmpOk_py {d : D} (h : cmpOk d = true) : ∃ p, d.py = some p ∧ SeqAt.shaped p = true := by
  unfold cmpOk at h
  cases e : d.py with
  | none => rw [e] at h; cases h
  | some p => rw [e] at h; exact ⟨p, rfl, h⟩
theorem scal_flat {F H : Hp} {x y : V} {dx dy : D} (cx : Ct K F H x dx) (cy : Ct K F H y dy) (hx : flatD dx = true) (hy : flatD dy = true) : (scal x y = true ∧ decide (x = y) = deq dx dy) ∨ (cmpOk dx = true ∧ cmpOk dy = true) := by
  cases dx with
  | non => cases cx; cases dy <;> first | (cases hy; done) | (cases cy; exact .inl ⟨rfl, by simp [deq]⟩)
  | bl p => cases cx; cases dy <;> first | (cases hy; done) | (cases cy; exact .inl ⟨rfl, by rw [Bool.eq_iff_iff]; simp [deq]; done⟩) | (cases cy; exact .inl ⟨rfl, by simp [deq]; done⟩) | (cases cy; exact .inr ⟨rfl, rfl⟩)
  | int p => cases cx; cases dy <;> first | (cases hy; done) | (cases cy; exact .inl ⟨rfl, by rw [Bool.eq_iff_iff]; simp [deq]; done⟩) | (cases cy; exact .inl ⟨rfl, by simp [deq]; done⟩) | (cases cy; exact .inr ⟨rfl, rfl⟩)
  | str p =>
    cases cx
    cases dy with
    | str q =>
      cases cy
      refine .inl ⟨rfl, ?_⟩
      rw [Bool.eq_iff_iff]
      simp only [deq, decide_eq_true_eq, beq_iff_eq]
      exact ⟨fun h => mkS_inj (V.str.inj h), fun h => by rw [h]⟩
    | _ => first | (cases hy; done) | (cases cy; exact .inl ⟨rfl, by simp [deq]⟩)
  | _ => cases hx
abbrev rEq2 (K : PySem.W.Frag) : R2 := fun x y H Q => rEq x y H Q ∨ rEqD K x y H Q
abbrev rNe2 (K : PySem.W.Frag) : R2 := fun x y H Q => rNe x y H Q ∨ rNeD K x y H Q
theorem od_eq : OpD K (rEq2 K) oEq := by
  intro x y dx dy F M H Q Q0 hm cx cy q k
  obtain ⟨o, q⟩ := q
  have gen : cmpOk dx = true → cmpOk dy = true → rEq2 K x y H Q0 := fun h1 h2 => by
    obtain ⟨p, e1, s1⟩ := cmpOk_py h1
    obtain ⟨p', e2, s2⟩ := cmpOk_py h2
    refine .inr ⟨p, p', dp_ct hm.le cx e1, dp_ct hm.le cy e2, s1, s2, ?_⟩
    rw [deq_py _ _ e1 e2]
    exact k.end hm (.bl _) q
  rcases o with ⟨h1, h2⟩ | ⟨h1, h2⟩
  · rcases scal_flat cx cy h1 h2 with ⟨z1, z2⟩ | ⟨z1, z2⟩
    · exact .inl ⟨z1, by rw [z2]; exact k.end hm (.bl _) q⟩
    · exact gen z1 z2
  · exact gen h1 h2
theorem od_ne : OpD K (rNe2 K) oNe := by
  intro x y dx dy F M H Q Q0 hm cx cy q k
  obtain ⟨o, q⟩ := q
  have gen : cmpOk dx = true → cmpOk dy = true → rNe2 K x y H Q0 := fun h1 h2 => by
    obtain ⟨p, e1, s1⟩ := cmpOk_py h1
    obtain ⟨p', e2, s2⟩ := cmpOk_py h2
    refine .inr ⟨p, p', dp_ct hm.le cx e1, dp_ct hm.le cy e2, s1, s2, ?_⟩
    rw [deq_py _ _ e1 e2]
    exact k.end hm (.bl _) q
  rcases o with ⟨h1, h2⟩ | ⟨h1, h2⟩
  · rcases scal_flat cx cy h1 h2 with ⟨z1, z2⟩ | ⟨z1, z2⟩
    · exact .inl ⟨z1, by rw [z2]; exact k.end hm (.bl _) q⟩
    · exact gen z1 z2
  · exact gen h1 h2
theorem dt_eq (hu : X.A.units + 64 < cLine) (ha : DE X E0 Ee a ta) (hb : DE X E0 Ee b tb) : DT X E0 Ee (.Compare a [.Eq] [b] pos) (dTest (dOp oEq ta tb)) := dt_cmp (op_eq.or (op_eqD hu)) od_eq ha hb (nomark _)
theorem dt_ne (hu : X.A.units + 64 < cLine) (ha : DE X E0 Ee a ta) (hb : DE X E0 Ee b tb) : DT X E0 Ee (.Compare a [.NotEq] [b] pos) (dTest (dOp oNe ta tb)) := dt_cmp (op_ne.or (op_neD hu)) od_ne ha hb (nomark _)
theorem de_eq (hu : X.A.units + 64 < cLine) (ha : DE X E0 Ee a ta) (hb : DE X E0 Ee b tb) : DE X E0 Ee (.Compare a [.Eq] [b] pos) (dOp oEq ta tb) := de_cmp (op_eq.or (op_eqD hu)) od_eq ha hb (nomark _)
theorem de_ne (hu : X.A.units + 64 < cLine) (ha : DE X E0 Ee a ta) (hb : DE X E0 Ee b tb) : DE X E0 Ee (.Compare a [.NotEq] [b] pos) (dOp oNe ta tb) := de_cmp (op_ne.or (op_neD hu)) od_ne ha hb (nomark _)
/-! ### is None -/
def isNonD : D → Bool
  | .non => true
  | _ => false
def oIsN (neg : Bool) : TOp := fun x y M Q => match y with
  | .non => Q (.bl (neg != isNonD x)) M
  | _ => False
theorem isNon_ct {F H : Hp} {x : V} {d : D} (cx : Ct K F H x d) : decide (x = .non) = isNonD d := by
  cases d with
  | non => cases cx; rfl
  | bl => cases cx; rfl
  | int => cases cx; rfl
  | str => cases cx; rfl
  | ty => cases cx; rfl
  | ref => cases cx; rfl
  | scr => obtain ⟨a, rfl, _⟩ := cx; rfl
  | lst => obtain ⟨a, o, rfl, _⟩ := cx; rfl
  | tup => obtain ⟨a, o, rfl, _⟩ := cx; rfl
  | dic => obtain ⟨a, o, rfl, _⟩ := cx; rfl
  | dit => obtain ⟨a, o, rfl, _⟩ := cx; rfl
  | obj => obtain ⟨a, o, p, rfl, _⟩ := cx; rfl
theorem od_isN : OpD K (fun x y H Q => y = .non ∧ Q (.bl (decide (x = .non))) H) (oIsN false) := by
  intro x y dx dy F M H Q Q0 hm cx cy q k
  cases dy with
  | non => cases cy; exact ⟨rfl, by rw [isNon_ct cx]; exact k.end hm (.bl _) (by simpa [oIsN] using q)⟩
  | _ => exact False.elim q
theorem od_notN : OpD K (fun x y H Q => y = .non ∧ Q (.bl (!decide (x = .non))) H) (oIsN true) := by
  intro x y dx dy F M H Q Q0 hm cx cy q k
  cases dy with
  | non => cases cy; exact ⟨rfl, by rw [isNon_ct cx]; exact k.end hm (.bl _) (by simpa [oIsN] using q)⟩
  | _ => exact False.elim q
theorem dt_isN (ha : DE X E0 Ee a ta) (hb : DE X E0 Ee b tb) : DT X E0 Ee (.Compare a [.Is] [b] pos) (dTest (dOp (oIsN false) ta tb)) := dt_cmp op_isN od_isN ha hb (nomark _)
theorem dt_notN (ha : DE X E0 Ee a ta) (hb : DE X E0 Ee b tb) : DT X E0 Ee (.Compare a [.IsNot] [b] pos) (dTest (dOp (oIsN true) ta tb)) := dt_cmp op_notN od_notN ha hb (nomark _)
theorem de_isN (ha : DE X E0 Ee a ta) (hb : DE X E0 Ee b tb) : DE X E0 Ee (.Compare a [.Is] [b] pos) (dOp (oIsN false) ta tb) := de_cmp op_isN od_isN ha hb (nomark _)
theorem de_notN (ha : DE X E0 Ee a ta) (hb : DE X E0 Ee b tb) : DE X E0 Ee (.Compare a [.IsNot] [b] pos) (dOp (oIsN true) ta tb) := de_cmp op_notN od_notN ha hb (nomark _)

/-! ### dicts as lists of pairs -/
section
variable {κ : Type} [DecidableEq κ]
def dlk (kvs : List (κ × D)) (k : κ) : Option D := match kvs with
  | [] => none
  | (j, d) :: r => if j = k then some d else dlk r k
def dput (kvs : List (κ × D)) (k : κ) (d : D) : List (κ × D) := match kvs with
  | [] => [(k, d)]
  | (j, x) :: r => if j = k then (j, d) :: r else (j, x) :: dput r k d
end
theorem RpK.val {F : Hp} : ∀ {xs : List (Key × V)} {ds : List (DK × D)} (k : DK), RpK K F xs ds → (∀ d, dlk ds k = some d → ∃ v, valV xs (toK k) = some v ∧ Rp K F v d) ∧ (dlk ds k = none → valV xs (toK k) = none)
  | _, _, k, .nil => ⟨fun d h => (nomatch h), fun _ => rfl⟩
  | _, _, k, .cons (k := j) (v := v) (d := d) (vs := xs) (ds := ds) r t => by
    obtain ⟨h1, h2⟩ := RpK.val k t
    by_cases e : j = k
    · subst e
      rw [valV_pos (p := (toK j, v)) rfl]
      have e : dlk ((j, d) :: ds) j = some d := by unfold dlk; rw [if_pos rfl]
      rw [e]
      exact ⟨fun d' z => ⟨v, rfl, by cases z; exact r⟩, fun z => nomatch z⟩
    · rw [valV_neg (p := (toK j, v)) (fun z => e (toK_inj z))]
      simp only [dlk, if_neg e]
      exact ⟨h1, h2⟩
theorem toKs_inj : ∀ {a b : List DK}, a.map toK = b.map toK → a = b
  | [], [], _ => rfl
  | [], _ :: _, e => by simp at e
  | _ :: _, [], e => by simp at e
  | x :: xs, y :: ys, e => by
    simp only [List.map_cons, List.cons.injEq] at e
    rw [toK_inj e.1, toKs_inj e.2]
theorem RpT.val {F : Hp} : ∀ {xs : List (List Key × V)} {ds : List (List DK × D)} (k : List DK), RpT K F xs ds → (∀ d, dlk ds k = some d → ∃ v, valV xs (k.map toK) = some v ∧ Rp K F v d) ∧ (dlk ds k = none → valV xs (k.map toK) = none)
  | _, _, k, .nil => ⟨fun d h => (nomatch h), fun _ => rfl⟩
  | _, _, k, .cons (k := j) (v := v) (d := d) (vs := xs) (ds := ds) r t => by
    obtain ⟨h1, h2⟩ := RpT.val k t
    by_cases e : j = k
    · subst e
      rw [valV_pos (p := (j.map toK, v)) rfl]
      have e : dlk ((j, d) :: ds) j = some d := by unfold dlk; rw [if_pos rfl]
      rw [e]
      exact ⟨fun d' z => ⟨v, rfl, by cases z; exact r⟩, fun z => nomatch z⟩
    · rw [valV_neg (p := (j.map toK, v)) (fun z => e (toKs_inj z))]
      simp only [dlk, if_neg e]
      exact ⟨h1, h2⟩
theorem putK_cons {κ : Type} [DecidableEq κ] {j k : κ} {x v : V} {r : List (κ × V)} (e : ¬ j = k) : putK ((j, x) :: r) k v = (j, x) :: putK r k v := by
  unfold putK
  simp only [List.any_cons, e, decide_false, Bool.false_or]
  split <;> simp [e]
theorem RpK.keys {F : Hp} : ∀ {xs : List (Key × V)} {ds : List (DK × D)}, RpK K F xs ds → xs.map (·.1) = ds.map fun d => toK d.1
  | _, _, .nil => rfl
  | _, _, .cons _ t => by simp [RpK.keys t]
theorem RpT.keys {F : Hp} : ∀ {xs : List (List Key × V)} {ds : List (List DK × D)}, RpT K F xs ds → xs.map (·.1) = ds.map fun d => d.1.map toK
  | _, _, .nil => rfl
  | _, _, .cons _ t => by simp [RpT.keys t]
theorem RpK.length {F : Hp} {xs : List (Key × V)} {ds : List (DK × D)} (r : RpK K F xs ds) : xs.length = ds.length := by
  have := congrArg List.length r.keys
  simpa using this
theorem RpT.length {F : Hp} {xs : List (List Key × V)} {ds : List (List DK × D)} (r : RpT K F xs ds) : xs.length = ds.length := by
  have := congrArg List.length r.keys
  simpa using this
/-- a value as a key -/
def dkey : D → Option DK
  | .int i => some (.inl i)
  | .str s => some (.inr s)
  | _ => none
def dkeys : List D → Option (List DK)
  | [] => some []
  | d :: r => match dkey d, dkeys r with
    | some k, some ks => some (k :: ks)
    | _, _ => none
theorem dkey_ct {F H : Hp} {v : V} {d : D} {k : DK} (c : Ct K F H v d) (h : dkey d = some k) : v = kV (toK k) := by
  cases d <;> first | (cases h; done) | (cases h; cases c; rfl)
theorem dkey_rp {F : Hp} {v : V} {d : D} {k : DK} (c : Rp K F v d) (h : dkey d = some k) : v = kV (toK k) := by
  cases c <;> first | (cases h; done) | (cases h; rfl)
theorem dkeys_rp {F : Hp} : ∀ {xs : List V} {ds : List D} {ks : List DK}, RpL K F xs ds → dkeys ds = some ks → xs = (ks.map toK).map kV
  | _, _, _, .nil, h => by cases h; rfl
  | _, _, _, .cons (v := v) (d := d) a t, h => by
    simp only [dkeys] at h
    split at h
    · rename_i k ks e1 e2
      cases h
      rw [dkey_rp a e1, dkeys_rp t e2]
      rfl
    · cases h
/-- what the dict holds at a key: its reading for the hand layer -/
def dfind : D → D → Option (Option D)
  | .dic kvs, k => match dkey k with
    | some kk => some (dlk kvs kk)
    | none => none
  | .dit kvs, .tup ks => match dkeys ks with
    | some kk => some (dlk kvs kk)
    | none => none
  | _, _ => none
theorem dfind_get {F H : Hp} {x y : V} {dx dy : D} {r : Option D} (cx : Ct K F H x dx) (cy : Ct K F H y dy) (h : dfind dx dy = some r) : ∃ a, x = .ref a ∧ ∃ o, DGet H a y o ∧ (∀ d, r = some d → ∃ v, o = some v ∧ Rp K F v d) ∧ (r = none → o = none) := by
  cases dx with
  | dic kvs =>
    obtain ⟨a, xs, rfl, e, rk⟩ := cx
    simp only [dfind] at h
    split at h
    · rename_i kk ek
      cases h
      obtain ⟨h1, h2⟩ := rk.val kk
      exact ⟨a, rfl, valV xs (toK kk), .inl ⟨xs, toK kk, e, dkey_ct cy ek, rfl⟩, h1, h2⟩
    · cases h
  | dit kvs =>
    obtain ⟨a, xs, rfl, e, rk⟩ := cx
    cases dy with
    | tup ks =>
      obtain ⟨b, ys, rfl, e2, r2⟩ := cy
      simp only [dfind] at h
      split at h
      · rename_i kk ek
        cases h
        obtain ⟨h1, h2⟩ := rk.val kk
        refine ⟨a, rfl, valV xs (kk.map toK), .inr ⟨xs, kk.map toK, b, e, rfl, ?_, rfl⟩, h1, h2⟩
        rw [e2, dkeys_rp r2 ek]
      · cases h
    | _ => cases h
  | _ => cases h
/-! ### subscripts -/
theorem atI_rp {F : Hp} {xs : List V} {ds : List D} {i : Int} {d : D} (r : RpL K F xs ds) (h : atI ds i = some d) : ∃ v, atI xs i = some v ∧ Rp K F v d := by
  unfold atI at h ⊢
  rw [r.length]
  cases e : ixN ds.length i with
  | none => rw [e] at h; cases h
  | some j => rw [e] at h; exact r.at h
def oIx : TOp
  | .lst xs, .int i, M, Q => ∃ d, atI xs i = some d ∧ Q d M
  | .tup xs, .int i, M, Q => ∃ d, atI xs i = some d ∧ Q d M
  | .scr xs, .int i, M, Q => ∃ d, atI xs i = some d ∧ Q (.int d) M
  | .str s, .int i, M, Q => s.length ≤ sizeLine ∧ ∃ c, atI s i = some c ∧ Q (.str [c]) M
  | .dic kvs, k, M, Q => ∃ d, dfind (.dic kvs) k = some (some d) ∧ Q d M
  | .dit kvs, k, M, Q => ∃ d, dfind (.dit kvs) k = some (some d) ∧ Q d M
  | _, _, _, _ => False
abbrev rIxD : R2 := fun x y H Q => ∃ a v, x = .ref a ∧ DGet H a y (some v) ∧ Q v H
theorem ix_dict (hu : X.A.units + 1 < cLine) : IxR X rIxD := by
  intro value slice pins s σ H x y v u Q I rx ry h hs
  obtain ⟨p, w, rfl, g, q⟩ := h
  obtain rfl : v = Value.ref p := rx
  exact tail_any (dict_typeIs I g) PySem.F.slot_dict_getitem.lookup (d_getItem hu I g ry fun w' s' I' r' => ⟨w, H, I', r', q⟩) hs
abbrev rIx4 (K : PySem.W.Frag) : R2 := fun x y H Q => rIx K x y H Q ∨ rIxD x y H Q
theorem atI_map {α β : Type} (f : α → β) {xs : List α} {i : Int} {d : α} (h : atI xs i = some d) : atI (xs.map f) i = some (f d) := by
  unfold atI at h ⊢
  rw [List.length_map]
  cases e : ixN xs.length i with
  | none => rw [e] at h; cases h
  | some j => rw [e] at h; show (xs.map f)[j]? = _; rw [List.getElem?_map, show xs[j]? = some d from h]; rfl
theorem od_ix : OpD K (rIx4 K) oIx := by
  intro x y dx dy F M H Q Q0 hm cx cy q k
  cases dx with
  | lst xs =>
    cases dy with
    | int i =>
      obtain ⟨d, e, q⟩ := q
      obtain ⟨p, vs, rfl, e1, r1⟩ := cx
      cases cy
      obtain ⟨v, e2, r2⟩ := atI_rp r1 e
      exact .inl (.inl ⟨p, vs, i, v, rfl, rfl, SqL.of e1, e2, k.end hm r2 q⟩)
    | _ => exact False.elim q
  | tup xs =>
    cases dy with
    | int i =>
      obtain ⟨d, e, q⟩ := q
      obtain ⟨p, vs, rfl, e1, r1⟩ := cx
      cases cy
      obtain ⟨v, e2, r2⟩ := atI_rp r1 e
      exact .inl (.inr (.inl ⟨p, vs, i, v, rfl, rfl, SqT.of e1, e2, k.end hm r2 q⟩))
    | _ => exact False.elim q
  | scr xs =>
    cases dy with
    | int i =>
      obtain ⟨d, e, q⟩ := q
      obtain ⟨p, rfl, e1, _⟩ := cx
      cases cy
      exact .inl (.inl ⟨p, _, i, .int d, rfl, rfl, e1, atI_map V.int e, k.end hm (.int _) q⟩)
    | _ => exact False.elim q
  | str xs =>
    cases dy with
    | int i =>
      obtain ⟨z, c, e, q⟩ := q
      cases cx; cases cy
      exact .inl (.inr (.inr ⟨_, i, c, rfl, rfl, by rw [mkS_len]; exact z, e, k.end hm (.str [c]) q⟩))
    | _ => exact False.elim q
  | dic kvs =>
    obtain ⟨d, e, q⟩ := q
    obtain ⟨p, rfl, o, g, h1, _⟩ := dfind_get cx cy e
    obtain ⟨v, rfl, r⟩ := h1 d rfl
    exact .inr ⟨p, v, rfl, g, k.end hm r q⟩
  | dit kvs =>
    obtain ⟨d, e, q⟩ := q
    obtain ⟨p, rfl, o, g, h1, _⟩ := dfind_get cx cy e
    obtain ⟨v, rfl, r⟩ := h1 d rfl
    exact .inr ⟨p, v, rfl, g, k.end hm r q⟩
  | _ => exact False.elim q
theorem de_ix (hu : X.A.units + 1 < cLine) (ha : DE X E0 Ee a ta) (hb : DE X E0 Ee b tb) (hs : PlainIx b := by exact fun _ _ => rfl) : DE X E0 Ee (.Subscript a b pos) (dOp oIx ta tb) := PEimp (pe_ix (ix_seq.or (ix_dict hu)) ha hb hs) fun σ H Q0 h => low_op od_ix h

/-! ### in -/
def oIn (neg : Bool) : TOp
  | x, .lst ys, M, Q => (flatD x = true ∧ ys.all flatD = true ∨ cmpOk x = true ∧ cmpOk (.lst ys) = true) ∧ Q (.bl (neg != ys.any fun y => deq y x)) M
  | x, .tup ys, M, Q => (flatD x = true ∧ ys.all flatD = true ∨ cmpOk x = true ∧ cmpOk (.tup ys) = true) ∧ Q (.bl (neg != ys.any fun y => deq y x)) M
  | .str [c], .str z, M, Q => Q (.bl (neg != decide (c ∈ z))) M
  | x, .dic kvs, M, Q => ∃ o, dfind (.dic kvs) x = some o ∧ Q (.bl (neg != o.isSome)) M
  | x, .dit kvs, M, Q => ∃ o, dfind (.dit kvs) x = some o ∧ Q (.bl (neg != o.isSome)) M
  | _, _, _, _ => False
abbrev rInData (K : PySem.W.Frag) (neg : Bool) : R2 := fun x y H Q => ∃ (d : PyData) (ds : List PyData), Dp K H x d ∧ (Dp K H y (.list ds) ∨ Dp K H y (.tuple ds)) ∧ SeqAt.shaped d = true ∧ PyData.canLayAll0 ds = true ∧ Q (.bl (neg != ds.any fun y => PyData.eqv y d)) H
theorem op_inData (hu : X.A.units + 65 < cLine) : OpR X (compareOp .In) (rInData X.K false) := by
  intro pins s σ H x y v u Q I rx ry h
  obtain ⟨d, ds, hd, he, sd, se, q⟩ := h
  obtain ⟨as, r1⟩ := Dp.reads I d x v hd rx
  have room : X.A.units + 1 + min (PyData.depthAll ds) d.depth < cLine := by
    have h1 := SeqAt.depth_of_shaped sd
    have h2 : min (PyData.depthAll ds) d.depth ≤ d.depth := Nat.min_le_right _ _
    omega
  have q' : Q (.bl (ds.any fun y => PyData.eqv y d)) H := by simpa using q
  rcases he with he | he
  · obtain ⟨bs, r2⟩ := Dp.reads I _ y u he ry
    exact SeqAt.in_list_reads r2 r1 se (SeqAt.canLay_of_shaped sd) room ⟨.bl _, H, I, rfl, q'⟩
  · obtain ⟨bs, r2⟩ := Dp.reads I _ y u he ry
    exact SeqAt.in_tuple_reads r2 r1 se (SeqAt.canLay_of_shaped sd) room ⟨.bl _, H, I, rfl, q'⟩
theorem op_notInData (hu : X.A.units + 65 < cLine) : OpR X (compareOp .NotIn) (rInData X.K true) := by
  intro pins s σ H x y v u Q I rx ry h
  obtain ⟨d, ds, hd, he, sd, se, q⟩ := h
  obtain ⟨as, r1⟩ := Dp.reads I d x v hd rx
  have room : X.A.units + 1 + min (PyData.depthAll ds) d.depth < cLine := by
    have h1 := SeqAt.depth_of_shaped sd
    have h2 : min (PyData.depthAll ds) d.depth ≤ d.depth := Nat.min_le_right _ _
    omega
  have q' : Q (.bl (!ds.any fun y => PyData.eqv y d)) H := by simpa using q
  rcases he with he | he
  · obtain ⟨bs, r2⟩ := Dp.reads I _ y u he ry
    exact SeqAt.notIn_list_reads r2 r1 se (SeqAt.canLay_of_shaped sd) room ⟨.bl _, H, I, rfl, q'⟩
  · obtain ⟨bs, r2⟩ := Dp.reads I _ y u he ry
    exact SeqAt.notIn_tuple_reads r2 r1 se (SeqAt.canLay_of_shaped sd) room ⟨.bl _, H, I, rfl, q'⟩
abbrev rInDic (neg : Bool) : R2 := fun x y H Q => ∃ a o, y = .ref a ∧ DGet H a x o ∧ Q (.bl (neg != o.isSome)) H
theorem op_inDic (hu : X.A.units + 1 < cLine) : OpR X (compareOp .In) (rInDic false) := by
  intro pins s σ H x y v u Q I rx ry h
  obtain ⟨a, o, rfl, g, q⟩ := h
  obtain rfl : u = Value.ref a := ry
  exact d_in hu I g rx fun s' I' => ⟨.bl _, H, I', rfl, by simpa using q⟩
theorem op_notInDic (hu : X.A.units + 1 < cLine) : OpR X (compareOp .NotIn) (rInDic true) := by
  intro pins s σ H x y v u Q I rx ry h
  obtain ⟨a, o, rfl, g, q⟩ := h
  obtain rfl : u = Value.ref a := ry
  exact d_notIn hu I g rx fun s' I' => ⟨.bl _, H, I', rfl, by simpa using q⟩
abbrev rInS (neg : Bool) : R2 := fun x y H Q => ∃ (c : Nat) (z : Str), x = .str ⟨#[c]⟩ ∧ y = .str z ∧ Q (.bl (neg != decide (c ∈ z.cps.toList))) H
theorem op_inS : OpR X (compareOp .In) (rInS false) := by
  intro pins s σ H x y v u Q I rx ry h
  obtain ⟨c, z, e1, e2, q⟩ := h
  exact op_in_sign pins s σ H x y v u Q I rx ry ⟨c, z, e1, e2, by simpa using q⟩
theorem op_notInS : OpR X (compareOp .NotIn) (rInS true) := by
  intro pins s σ H x y v u Q I rx ry h
  obtain ⟨c, z, e1, e2, q⟩ := h
  exact op_notIn_sign pins s σ H x y v u Q I rx ry ⟨c, z, e1, e2, by simpa using q⟩
abbrev rIn4 (K : PySem.W.Frag) (neg : Bool) : R2 := fun x y H Q => rIn K neg x y H Q ∨ (rInData K neg x y H Q ∨ (rInS neg x y H Q ∨ rInDic neg x y H Q))
theorem any_flat {F H : Hp} {x : V} {dx : D} (cx : Ct K F H x dx) (hx : flatD dx = true) : ∀ {xs : List V} {ds : List D}, Le F H → RpL K F xs ds → ds.all flatD = true → xs.all flatV = true ∧ inV x xs = ds.any fun y => deq y dx
  | _, _, _, .nil, _ => ⟨rfl, rfl⟩
  | _, _, le, .cons (v := v) (d := d) a t, h => by
    rw [List.all_cons, Bool.and_eq_true] at h
    obtain ⟨h1, h2⟩ := any_flat cx hx le t h.2
    obtain ⟨f1, f2, f3⟩ := eqV_flat (Ct.of le a) cx h.1 hx
    refine ⟨by rw [List.all_cons, f1, h1]; rfl, ?_⟩
    show List.any (v :: _) _ = _
    rw [List.any_cons, List.any_cons, f3, ← h2]
    rfl
theorem any_py : ∀ {ds : List D} {ps : List PyData} {x : D} {p : PyData}, pyL ds = some ps → x.py = some p → (ps.any fun y => PyData.eqv y p) = ds.any fun y => deq y x
  | [], ps, x, p, h, _ => by cases h; rfl
  | d :: r, ps, x, p, h, hx => by
    simp only [pyL] at h
    split at h
    · rename_i q qs e1 e2
      cases h
      rw [List.any_cons, List.any_cons, deq_py d x e1 hx, any_py e2 hx]
    · cases h
theorem od_in {neg : Bool} : OpD K (rIn4 K neg) (oIn neg) := by
  intro x y dx dy F M H Q Q0 hm cx cy q k
  cases dy with
  | lst ys =>
    have q : (flatD dx = true ∧ ys.all flatD = true ∨ cmpOk dx = true ∧ cmpOk (.lst ys) = true) ∧ Q (.bl (neg != ys.any fun y => deq y dx)) M := by cases dx <;> exact q
    obtain ⟨o, q⟩ := q
    rcases o with ⟨h1, h2⟩ | ⟨h1, h2⟩
    · obtain ⟨p, vs, rfl, e1, r1⟩ := cy
      obtain ⟨g1, g2⟩ := any_flat cx h1 hm.le r1 h2
      have f0 : flatV x = true := by cases dx <;> first | (cases h1; done) | (cases cx; rfl)
      refine .inl ⟨p, vs, rfl, .inl (SqL.of e1), f0, g1, ?_⟩
      have : (if neg = true then !inV x vs else inV x vs) = (neg != ys.any fun y => deq y dx) := by rw [g2]; cases neg <;> simp
      rw [this]
      exact k.end hm (.bl _) q
    · obtain ⟨p, e1, s1⟩ := cmpOk_py h1
      obtain ⟨p', e2, s2⟩ := cmpOk_py h2
      have e2' := e2
      simp only [D.py, Option.map_eq_some_iff] at e2'
      obtain ⟨ps, e3, rfl⟩ := e2'
      refine .inr (.inl ⟨p, ps, dp_ct hm.le cx e1, .inl (dp_ct hm.le cy e2), s1, ?_, ?_⟩)
      · have := SeqAt.canLay_of_shaped s2; simpa [PyData.canLay0] using this
      · rw [any_py e3 e1]; exact k.end hm (.bl _) q
  | tup ys =>
    have q : (flatD dx = true ∧ ys.all flatD = true ∨ cmpOk dx = true ∧ cmpOk (.tup ys) = true) ∧ Q (.bl (neg != ys.any fun y => deq y dx)) M := by cases dx <;> exact q
    obtain ⟨o, q⟩ := q
    rcases o with ⟨h1, h2⟩ | ⟨h1, h2⟩
    · obtain ⟨p, vs, rfl, e1, r1⟩ := cy
      obtain ⟨g1, g2⟩ := any_flat cx h1 hm.le r1 h2
      have f0 : flatV x = true := by cases dx <;> first | (cases h1; done) | (cases cx; rfl)
      refine .inl ⟨p, vs, rfl, .inr (SqT.of e1), f0, g1, ?_⟩
      have : (if neg = true then !inV x vs else inV x vs) = (neg != ys.any fun y => deq y dx) := by rw [g2]; cases neg <;> simp
      rw [this]
      exact k.end hm (.bl _) q
    · obtain ⟨p, e1, s1⟩ := cmpOk_py h1
      obtain ⟨p', e2, s2⟩ := cmpOk_py h2
      have e2' := e2
      simp only [D.py, Option.map_eq_some_iff] at e2'
      obtain ⟨ps, e3, rfl⟩ := e2'
      refine .inr (.inl ⟨p, ps, dp_ct hm.le cx e1, .inr (dp_ct hm.le cy e2), s1, ?_, ?_⟩)
      · have := SeqAt.canLay_of_shaped s2; simpa [PyData.canLay0] using this
      · rw [any_py e3 e1]; exact k.end hm (.bl _) q
  | str z =>
    cases dx with
    | str s =>
      match s, q, cx with
      | [c], q, cx => cases cx; cases cy; exact .inr (.inr (.inl ⟨c, mkS z, rfl, rfl, k.end hm (.bl _) q⟩))
      | [], q, cx => exact False.elim q
      | _ :: _ :: _, q, cx => exact False.elim q
    | _ => exact False.elim q
  | dic kvs =>
    have q : ∃ o, dfind (.dic kvs) dx = some o ∧ Q (.bl (neg != o.isSome)) M := by
      cases dx with
      | str s => match s, q with
        | [], q => exact q
        | [_], q => exact q
        | _ :: _ :: _, q => exact q
      | _ => exact q
    obtain ⟨o, e, q⟩ := q
    obtain ⟨p, rfl, o', g, h1, h2⟩ := dfind_get cy cx e
    refine .inr (.inr (.inr ⟨p, o', rfl, g, ?_⟩))
    have : o'.isSome = o.isSome := by
      cases o with
      | none => rw [h2 rfl]; rfl
      | some d => obtain ⟨v, e, _⟩ := h1 d rfl; rw [e]; rfl
    rw [this]
    exact k.end hm (.bl _) q
  | dit kvs =>
    have q : ∃ o, dfind (.dit kvs) dx = some o ∧ Q (.bl (neg != o.isSome)) M := by
      cases dx with
      | str s => match s, q with
        | [], q => exact q
        | [_], q => exact q
        | _ :: _ :: _, q => exact q
      | _ => exact q
    obtain ⟨o, e, q⟩ := q
    obtain ⟨p, rfl, o', g, h1, h2⟩ := dfind_get cy cx e
    refine .inr (.inr (.inr ⟨p, o', rfl, g, ?_⟩))
    have : o'.isSome = o.isSome := by
      cases o with
      | none => rw [h2 rfl]; rfl
      | some d => obtain ⟨v, e, _⟩ := h1 d rfl; rw [e]; rfl
    rw [this]
    exact k.end hm (.bl _) q
  | _ => cases dx with
    | str s => match s, q with
      | [], q => exact False.elim q
      | [_], q => exact False.elim q
      | _ :: _ :: _, q => exact False.elim q
    | _ => exact False.elim q
theorem dt_in (hu : X.A.units + 65 < cLine) (ha : DE X E0 Ee a ta) (hb : DE X E0 Ee b tb) (hm : behindInMarks .In b = false := by rfl) : DT X E0 Ee (.Compare a [.In] [b] pos) (dTest (dOp (oIn false) ta tb)) := dt_cmp (op_in_seq.or ((op_inData hu).or (op_inS.or (op_inDic (by omega))))) od_in ha hb hm
theorem dt_notIn (hu : X.A.units + 65 < cLine) (ha : DE X E0 Ee a ta) (hb : DE X E0 Ee b tb) (hm : behindInMarks .NotIn b = false := by rfl) : DT X E0 Ee (.Compare a [.NotIn] [b] pos) (dTest (dOp (oIn true) ta tb)) := dt_cmp (op_notIn_seq.or ((op_notInData hu).or (op_notInS.or (op_notInDic (by omega))))) od_in ha hb hm
theorem de_in (hu : X.A.units + 65 < cLine) (ha : DE X E0 Ee a ta) (hb : DE X E0 Ee b tb) (hm : behindInMarks .In b = false := by rfl) : DE X E0 Ee (.Compare a [.In] [b] pos) (dOp (oIn false) ta tb) := de_cmp (op_in_seq.or ((op_inData hu).or (op_inS.or (op_inDic (by omega))))) od_in ha hb hm
theorem de_notIn (hu : X.A.units + 65 < cLine) (ha : DE X E0 Ee a ta) (hb : DE X E0 Ee b tb) (hm : behindInMarks .NotIn b = false := by rfl) : DE X E0 Ee (.Compare a [.NotIn] [b] pos) (dOp (oIn true) ta tb) := de_cmp (op_notIn_seq.or ((op_notInData hu).or (op_notInS.or (op_notInDic (by omega))))) od_in ha hb hm

/-! ### slices -/
abbrev TDO := DEnv → Mp → (Option Int → Mp → Prop) → Prop
abbrev KO (K : PySem.W.Frag) := Kont K (fun _ (v : Option Int) (d : Option Int) => v = d)
def lowO (K : PySem.W.Frag) (E0 : L2.St → XK) (Ee : DEnv → DXK) (t : TDO) : TO := fun σ H Q0 => ∃ F M ρ Q, SS K E0 Ee σ H F M ρ ∧ t ρ M Q ∧ KO K F M H Q Q0
def DO (X : Cx) (E0 : L2.St → XK) (Ee : DEnv → DXK) (e : Option Expr) (t : TDO) : Prop := PO X e (lowO X.K E0 Ee t)
theorem POimp {e : Option Expr} {t u : TO} (h : PO X e t) (i : ∀ σ H Q, u σ H Q → t σ H Q) : PO X e u := ⟨fun pins s σ H Q I q => h.run pins s σ H Q I (i _ _ _ q)⟩
def dNoO : TDO := fun _ M Q => Q none M
def dSoO (t : TDE) : TDO := fun ρ M Q => t ρ M fun d M1 => match d with
  | .int i => Q (some i) M1
  | _ => False
theorem do_none : DO X E0 Ee none dNoO := POimp po_none fun σ H Q0 ⟨F, M, ρ, Q, ss, q, k⟩ => k.end ss.hm rfl q
theorem do_some (h : DE X E0 Ee e te) : DO X E0 Ee (some e) (dSoO te) := POimp (po_some h) fun σ H Q0 ⟨F, M, ρ, Q, ss, q, k⟩ => by
  refine ⟨F, M, ρ, _, ss, q, fun v H1 F1 d M1 s1 r q1 => ?_⟩
  cases r with
  | int i => exact ⟨i, rfl, k _ _ _ _ _ s1 rfl q1⟩
  | _ => exact False.elim q1
def dcut {α : Type} (xs : List α) (lo hi : Option Int) : List α := (xs.drop (HT.sIx xs.length 0 lo)).take (HT.sIx xs.length xs.length hi - HT.sIx xs.length 0 lo)
def oSl : D → Option Int → Option Int → Mp → (D → Mp → Prop) → Prop
  | .lst xs, lo, hi, M, Q => Q (.lst (dcut xs lo hi)) M
  | .tup xs, lo, hi, M, Q => ¬ (HT.sIx xs.length 0 lo = 0 ∧ HT.sIx xs.length xs.length hi = xs.length) ∧ Q (.tup (dcut xs lo hi)) M
  | .str s, lo, hi, M, Q => s.length ≤ sizeLine ∧ Q (.str (dcut s lo hi)) M
  | _, _, _, _, _ => False
def dSl (te : TDE) (tl th : TDO) : TDE := fun ρ M Q => te ρ M fun x M1 => tl ρ M1 fun lo M2 => th ρ M2 fun hi M3 => oSl (vw M3 x) lo hi M3 Q
theorem RpL.cut {F : Hp} {xs : List V} {ds : List D} (r : RpL K F xs ds) (lo hi : Option Int) : RpL K F (cutV xs lo hi) (dcut ds lo hi) := by
  unfold cutV dcut
  rw [r.length]
  exact RpL.take _ (RpL.drop _ r)
theorem cutS_mk (s : Cd) (lo hi : Option Int) : cutS (mkS s) lo hi = mkS (dcut s lo hi) := by
  unfold cutS dcut
  rw [mkS_len]
  rfl
theorem de_sl {lo hi : Option Expr} {tl th : TDO} {p2 : Pos} (he : DE X E0 Ee e te) (hl : DO X E0 Ee lo tl) (hh : DO X E0 Ee hi th) : DE X E0 Ee (.Subscript e (.Slice lo hi none p2) pos) (dSl te tl th) :=
  PEimp (pe_slice (sl_list.or (sl_tup.or sl_str)) he hl hh) fun σ H Q0 ⟨F, M, ρ, Q, ss, q, k⟩ => by
    refine ⟨F, M, ρ, _, ss, q, fun v H1 F1 d M1 s1 r q1 => ⟨F1, M1, ρ, _, ss.step s1, q1, fun lo' H2 F2 lo M2 s2 r2 q2 => ⟨F2, M2, ρ, _, (ss.step s1).step s2, q2, fun hi' H3 F3 hi M3 s3 r3 q3 => ?_⟩⟩⟩
    have r2' : lo' = lo := r2
    have r3' : hi' = hi := r3
    subst r2' r3'
    have st := s1.trans (s2.trans s3)
    have ct := Ct.vw s3.hm (r.mono (s2.trans s3).fle)
    have k' := k.step st
    generalize vw M3 d = d' at ct q3
    cases d' with
    | lst xs => obtain ⟨p, vs, rfl, e1, r1⟩ := ct; exact .inl ⟨p, vs, rfl, SqL.of e1, newLst s3.hm (r1.cut _ _) q3 k'⟩
    | tup xs =>
      obtain ⟨p, vs, rfl, e1, r1⟩ := ct
      exact .inr (.inl ⟨p, vs, rfl, SqT.of e1, by rw [r1.length]; exact q3.1, newTup s3.hm (r1.cut _ _) q3.2 k'⟩)
    | str s =>
      cases ct
      refine .inr (.inr ⟨_, rfl, by rw [mkS_len]; exact q3.1, ?_⟩)
      rw [cutS_mk]
      exact k'.end s3.hm (.str _) q3.2
    | _ => exact False.elim q3
end
end DL


set_option Elab.async false
set_option linter.all false
set_option maxRecDepth 100000
set_option maxHeartbeats 4000000
namespace DL
open PySem PySem.Spec PyProof.Rows L2

/-! ### statements -/
structure DEnds where
  nx : DEnv → Mp → Prop
  rt : D → Mp → Prop
  bk : DEnv → Mp → Prop := fun _ _ => False
  ct : DEnv → Mp → Prop := fun _ _ => False
abbrev TDS := DEnds → DEnv → Mp → Prop
abbrev KS (K : PySem.W.Frag) := Kont K (fun F (v : L2.St) (d : DEnv) => RpE K F v d)
structure Cn (K : PySem.W.Frag) (F : Hp) (M : Mp) (H : Hp) (D : DEnds) (D0 : Ends) : Prop where
  nx : KS K F M H D.nx D0.nx
  rt : KE K F M H D.rt D0.rt
  bk : KS K F M H D.bk D0.bk
  ct : KS K F M H D.ct D0.ct
theorem Cn.step {K : PySem.W.Frag} {F F' : Hp} {M M' : Mp} {H H' : Hp} {D : DEnds} {D0 : Ends} (c : Cn K F M H D D0) (s : Step K F M H F' M' H') : Cn K F' M' H' D D0 := ⟨c.nx.step s, c.rt.step s, c.bk.step s, c.ct.step s⟩
def lowS (K : PySem.W.Frag) (E0 : L2.St → XK) (Ee : DEnv → DXK) (t : TDS) : TS := fun D0 σ H => ∃ F M ρ D, SS K E0 Ee σ H F M ρ ∧ t D ρ M ∧ Cn K F M H D D0
def DS (X : Cx) (E0 : L2.St → XK) (Ee : DEnv → DXK) (st : Stmt) (t : TDS) : Prop := PS X st (lowS X.K E0 Ee t)
def DSs (X : Cx) (E0 : L2.St → XK) (Ee : DEnv → DXK) (st : List Stmt) (t : TDS) : Prop := PSs X st (lowS X.K E0 Ee t)
/-- targets -/
abbrev TDG := D → DEnv → Mp → (DEnv → Mp → Prop) → Prop
abbrev TDGs := List D → DEnv → Mp → (DEnv → Mp → Prop) → Prop
def FrS (vs : List Nat) (σ σ' : L2.St) : Prop := ∀ ws : List Nat, (∀ i ∈ vs, i ∈ ws) → L2.wipe σ' ws = L2.wipe σ ws
def KG (K : PySem.W.Frag) (vs : List Nat) (σ : L2.St) (F : Hp) (M : Mp) (H : Hp) (Q : DEnv → Mp → Prop) (Q0 : L2.St → Hp → Prop) : Prop :=
  ∀ σ' H' F' ρ' M', Step K F M H F' M' H' → RpE K F' σ' ρ' → FrS vs σ σ' → Q ρ' M' → Q0 σ' H'
def lowG (K : PySem.W.Frag) (E0 : L2.St → XK) (Ee : DEnv → DXK) (vs : List Nat) (t : TDG) : TG := fun v σ H Q0 => ∃ F M ρ d Q, SS K E0 Ee σ H F M ρ ∧ Rp K F v d ∧ t d ρ M Q ∧ KG K vs σ F M H Q Q0
def lowGs (K : PySem.W.Frag) (E0 : L2.St → XK) (Ee : DEnv → DXK) (vs : List Nat) (t : TDGs) : TGs := fun v σ H Q0 => ∃ F M ρ d Q, SS K E0 Ee σ H F M ρ ∧ RpL K F v d ∧ t d ρ M Q ∧ KG K vs σ F M H Q Q0
def DG (X : Cx) (E0 : L2.St → XK) (Ee : DEnv → DXK) (vs : List Nat) (e : Expr) (t : TDG) : Prop := PG X e (lowG X.K E0 Ee vs t)
def DGs (X : Cx) (E0 : L2.St → XK) (Ee : DEnv → DXK) (vs : List Nat) (e : List Expr) (t : TDGs) : Prop := PGs X e (lowGs X.K E0 Ee vs t)
theorem PGimp {X : Cx} {e : Expr} {t u : TG} (h : PG X e t) (i : ∀ v σ H Q, u v σ H Q → t v σ H Q) : PG X e u := ⟨fun pins s σ H v w Q I r q => h.run pins s σ H v w Q I r (i _ _ _ _ q)⟩
theorem PGsimp {X : Cx} {e : List Expr} {t u : TGs} (h : PGs X e t) (i : ∀ v σ H Q, u v σ H Q → t v σ H Q) : PGs X e u := ⟨fun pins s σ H v w Q I r q => h.run pins s σ H v w Q I r (i _ _ _ _ q)⟩
section
variable {X : Cx} {K : PySem.W.Frag} {E0 : L2.St → XK} {Ee : DEnv → DXK} {a b c e : Expr} {es : List Expr} {ta tb tc te : TDE} {tr : TDA} {pos : Pos} {st : Stmt} {rest : List Stmt} {t u : TDS}
def dNext : TDS := fun D ρ M => D.nx ρ M
def dSeq (t u : TDS) : TDS := fun D ρ M => t { D with nx := u D } ρ M
theorem dss_nil : DSs X E0 Ee [] dNext := PSsimp pss_nil fun D0 σ H ⟨F, M, ρ, D, ss, q, k⟩ => k.nx _ _ _ _ _ (.refl ss.hm) ss.env q
theorem dss_cons (h1 : DS X E0 Ee st t) (h2 : DSs X E0 Ee rest u) : DSs X E0 Ee (st :: rest) (dSeq t u) := PSsimp (pss_cons h1 h2) fun D0 σ H ⟨F, M, ρ, D, ss, q, k⟩ =>
  ⟨F, M, ρ, { D with nx := u D }, ss, q, ⟨fun σ' H' F' ρ' M' s e q' => ⟨F', M', ρ', D, ss.to s e, q', k.step s⟩, k.rt, k.bk, k.ct⟩⟩
theorem dss_one (h1 : DS X E0 Ee st t) : DSs X E0 Ee [st] t := PSsimp (pss_one h1) fun D0 σ H h => h
def dBreak : TDS := fun D ρ M => D.bk ρ M
def dCont : TDS := fun D ρ M => D.ct ρ M
theorem ds_pass : DS X E0 Ee (.Pass pos) dNext := PSimp ps_pass fun D0 σ H ⟨F, M, ρ, D, ss, q, k⟩ => k.nx _ _ _ _ _ (.refl ss.hm) ss.env q
theorem ds_break : DS X E0 Ee (.Break pos) dBreak := PSimp ps_break fun D0 σ H ⟨F, M, ρ, D, ss, q, k⟩ => k.bk _ _ _ _ _ (.refl ss.hm) ss.env q
theorem ds_cont : DS X E0 Ee (.Continue pos) dCont := PSimp ps_continue fun D0 σ H ⟨F, M, ρ, D, ss, q, k⟩ => k.ct _ _ _ _ _ (.refl ss.hm) ss.env q
def dExpr (te : TDE) : TDS := fun D ρ M => te ρ M fun _ M1 => D.nx ρ M1
theorem ds_expr (he : DE X E0 Ee e te) (hs : swapsWith e none pos.line X.env = pure false := by rfl) : DS X E0 Ee (.Expr e pos) (dExpr te) := PSimp (ps_expr he hs) fun D0 σ H ⟨F, M, ρ, D, ss, q, k⟩ =>
  ⟨F, M, ρ, _, ss, q, fun v H1 F1 d M1 s1 r q1 => k.nx _ _ _ _ _ s1 (ss.env.mono s1.fle) q1⟩
def dRet (te : TDE) : TDS := fun D ρ M => te ρ M D.rt
theorem ds_ret (he : DE X E0 Ee e te) : DS X E0 Ee (.Return (some e) pos) (dRet te) := PSimp (ps_ret he) fun D0 σ H ⟨F, M, ρ, D, ss, q, k⟩ => ⟨F, M, ρ, _, ss, q, k.rt⟩
def dRetN : TDS := fun D ρ M => D.rt .non M
theorem ds_retN : DS X E0 Ee (.Return none pos) dRetN := PSimp ps_retN fun D0 σ H ⟨F, M, ρ, D, ss, q, k⟩ => k.rt _ _ _ _ _ (.refl ss.hm) .non q
def dIf (tc : TDT) (t u : TDS) : TDS := fun D ρ M => tc ρ M fun b M1 => if b = true then t D ρ M1 else u D ρ M1
theorem ds_if {tt : TDT} {p q : List Stmt} (hc : DT X E0 Ee c tt) (ha : DSs X E0 Ee p t) (hb : DSs X E0 Ee q u) : DS X E0 Ee (.If c p q pos) (dIf tt t u) := PSimp (ps_if hc ha hb) fun D0 σ H ⟨F, M, ρ, D, ss, q, k⟩ => by
  refine ⟨F, M, ρ, _, ss, q, fun c H1 F1 d M1 s1 r q1 => ?_⟩
  have r' : c = d := r
  subst r'
  cases c with
  | true => exact iteT ⟨F1, M1, ρ, D, ss.step s1, by simpa using q1, k.step s1⟩
  | false => exact iteF ⟨F1, M1, ρ, D, ss.step s1, by simpa using q1, k.step s1⟩
def dNever : TDS := fun _ _ _ => False
theorem ds_never : DS X E0 Ee st dNever := PSimp ps_never fun D0 σ H ⟨F, M, ρ, D, ss, q, k⟩ => q
theorem dss_never {sts : List Stmt} : DSs X E0 Ee sts dNever := PSsimp pss_never fun D0 σ H ⟨F, M, ρ, D, ss, q, k⟩ => q
/-! ### targets -/
def gNm (i : Nat) : TDG := fun d ρ M Q => Q (rset ρ i (some d)) M
theorem dg_name {i : Nat} {x : Str} (hN : X.N.Nodup) (hi : X.N[i]? = some x) (hx : Loc X.env.scope x) (hf : X.fn x = true ∨ X.env.scope.names.lookup x = some .local := by first | exact .inl rfl | exact .inr rfl | assumption) : DG X E0 Ee [i] (.Name x pos) (gNm i) :=
  PGimp (pg_name hN hi hx hf) fun v σ H Q0 ⟨F, M, ρ, d, Q, ss, r, q, k⟩ => k _ _ _ _ _ (.refl ss.hm) (ss.env.set i r) (fun ws h => wipe_set σ i _ (h i (by simp))) q
def gNl : TDGs := fun ds ρ M Q => match ds with
  | [] => Q ρ M
  | _ => False
def gCn (t : TDG) (u : TDGs) : TDGs := fun ds ρ M Q => match ds with
  | d :: r => t d ρ M fun ρ' M' => u r ρ' M' Q
  | [] => False
theorem dgs_nil : DGs X E0 Ee [] [] gNl := PGsimp pgs_nil fun v σ H Q0 ⟨F, M, ρ, d, Q, ss, r, q, k⟩ => by
  cases r with
  | nil => exact ⟨rfl, k _ _ _ _ _ (.refl ss.hm) ss.env (fun ws _ => rfl) q⟩
  | cons _ _ => exact q.elim
theorem dgs_cons {vs ws : List Nat} {g : TDG} {gs : TDGs} (h1 : DG X E0 Ee vs e g) (h2 : DGs X E0 Ee ws es gs) (hs : (assignEach (e :: es) X.env).map (·.2) = assign e X.env :: (assignEach es X.env).map (·.2) := by rfl) : DGs X E0 Ee (vs ++ ws) (e :: es) (gCn g gs) :=
  PGsimp (pgs_cons h1 h2 hs) fun v σ H Q0 ⟨F, M, ρ, d, Q, ss, r, q, k⟩ => by
    cases r with
    | nil => exact q.elim
    | cons r rr =>
      refine ⟨_, _, rfl, F, M, ρ, _, _, ss, r, q, fun σ1 H1 F1 ρ1 M1 s1 e1 f1 q1 => ⟨F1, M1, ρ1, _, Q, ss.to s1 e1, rr.mono s1.fle, q1, fun σ2 H2 F2 ρ2 M2 s2 e2 f2 q2 => ?_⟩⟩
      exact k _ _ _ _ _ (s1.trans s2) e2 (fun zs h => (f2 zs fun i hi => h i (List.mem_append_right _ hi)).trans (f1 zs fun i hi => h i (List.mem_append_left _ hi))) q2
def gTp (n : Nat) (t : TDGs) : TDG := fun d ρ M Q => match d with
  | .tup ds => ds.length = n ∧ t ds ρ M Q
  | _ => False
theorem dg_tup {vs : List Nat} {k : Nat} {gs : TDGs} {n : Nat} (hc : X.calm = true) (h : DGs X E0 Ee vs es gs)
    (hn : (assignEach es X.env).length = n := by rfl) (hst : (assignEach es X.env).findIdx? (·.1) = none := by rfl) : DG X E0 Ee vs (.Tuple es k pos) (gTp n gs) := PGimp (pg_tup hc h hn hst) fun v σ H Q0 ⟨F, M, ρ, d, Q, ss, r, q, k⟩ => by
  cases r with
  | tup e rl => exact ⟨_, _, rfl, SqT.of (ss.hm.le.at e (fun z => z)), by rw [rl.length]; exact q.1, F, M, ρ, _, Q, ss, rl, q.2, k⟩
  | _ => exact False.elim q
def dAsg (te : TDE) (g : TDG) : TDS := fun D ρ M => te ρ M fun d M1 => g d ρ M1 D.nx
theorem ds_asg {tg : Expr} {vs : List Nat} {g : TDG} (he : DE X E0 Ee e te) (hg : DG X E0 Ee vs tg g) (hs : swapsWithSole [tg] e pos.line X.env = pure false := by rfl) (hw : swappedStores [tg] e X.env = pure none := by rfl)
    (h1 : (assignEach [tg] X.env).map (·.2) = [assign tg X.env] := by rfl) : DS X E0 Ee (.Assign [tg] e pos) (dAsg te g) := PSimp (ps_asg he hg hs hw h1) fun D0 σ H ⟨F, M, ρ, D, ss, q, k⟩ =>
  ⟨F, M, ρ, _, ss, q, fun v H1 F1 d M1 s1 r q1 => ⟨F1, M1, ρ, d, _, ss.step s1, r, q1, fun σ2 H2 F2 ρ2 M2 s2 e2 _ q2 => k.nx _ _ _ _ _ (s1.trans s2) e2 q2⟩⟩
def dSet (i : Nat) (te : TDE) : TDS := fun D ρ M => te ρ M fun d M1 => D.nx (rset ρ i (some d)) M1
theorem ds_set {i : Nat} {x : Str} {pos' : Pos} (hN : X.N.Nodup) (hi : X.N[i]? = some x) (hx : Loc X.env.scope x) (he : DE X E0 Ee e te) (hs : swapsWith e (some (.Name x pos')) pos.line X.env = pure false := by rfl) (hf : X.fn x = true ∨ X.env.scope.names.lookup x = some .local := by first | exact .inl rfl | exact .inr rfl | assumption) :
    DS X E0 Ee (.Assign [.Name x pos'] e pos) (dSet i te) := PSimp (ps_set hN hi hx he hs hf) fun D0 σ H ⟨F, M, ρ, D, ss, q, k⟩ =>
  ⟨F, M, ρ, _, ss, q, fun v H1 F1 d M1 s1 r q1 => k.nx _ _ _ _ _ s1 ((ss.env.mono s1.fle).set i r) q1⟩
/-- name op= e -/
def dAug (i : Nat) (f : TOp) (te : TDE) : TDS := fun D ρ M => match rget ρ i with
  | some x => te ρ M fun y M1 => f (vw M1 x) (vw M1 y) M1 fun z M2 => D.nx (rset ρ i (some z)) M2
  | none => False
theorem ds_aug {i : Nat} {x : Str} {op : Operator} {r : R2} {f : TOp} {pos' : Pos} (ho : OpR X (inplaceOp op) r) (hd : OpD X.K r f) (hN : X.N.Nodup) (hi : X.N[i]? = some x) (hx : Loc X.env.scope x) (he : DE X E0 Ee e te) (hf : X.fn x = true ∨ X.env.scope.names.lookup x = some .local := by first | exact .inl rfl | exact .inr rfl | assumption) :
    DS X E0 Ee (.AugAssign (.Name x pos') op e pos) (dAug i f te) := PSimp (ps_aug hN hi hx he (ti := r) ho hf) fun D0 σ H ⟨F, M, ρ, D, ss, q, k⟩ => by
  unfold dAug at q
  cases z : rget ρ i with
  | none => rw [z] at q; exact q.elim
  | some d =>
    rw [z] at q
    obtain ⟨v, e1, rv⟩ := ss.env.get i d z
    refine ⟨v, e1, F, M, ρ, _, ss, q, fun y H1 F1 dy M1 s1 ry q1 => ?_⟩
    exact hd _ _ _ _ F1 M1 H1 _ _ s1.hm (Ct.vw s1.hm (rv.mono s1.fle)) (Ct.vw s1.hm ry) q1 fun w H2 F2 dz M2 s2 rz q2 => k.nx _ _ _ _ _ (s1.trans s2) ((ss.env.mono (s1.trans s2).fle).set i rz) q2
end
end DL


set_option Elab.async false
set_option linter.all false
set_option maxRecDepth 100000
set_option maxHeartbeats 4000000
namespace DL
open PySem PySem.Spec PyProof.Rows L2

/-! ### what is walked -/
def JW (K : PySem.W.Frag) (F : Hp) (M : Mp) (H : Hp) (J : It) (items : List D) : Prop := ∀ F1 M1 H1, Step K F M H F1 M1 H1 →
  (∀ i, i < items.length → J.go i H1 ∧ ∀ x H2, J.yld i H1 x H2 → ∃ F2, Step K F1 M1 H1 F2 M1 H2 ∧ ∀ d, items[i]? = some d → Rp K F2 x d) ∧ J.stop items.length H1
def lowI (K : PySem.W.Frag) (E0 : L2.St → XK) (Ee : DEnv → DXK) (t : TDA) : TI := fun σ H R => ∃ F M ρ Q, SS K E0 Ee σ H F M ρ ∧ t ρ M Q ∧ ∀ J H' F' items M', Step K F M H F' M' H' → JW K F' M' H' J items → Q items M' → R J H'
def DI (X : Cx) (E0 : L2.St → XK) (Ee : DEnv → DXK) (tg iter : Expr) (t : TDA) : Prop := PI X tg iter (lowI X.K E0 Ee t)
theorem PIimp {X : Cx} {tg e : Expr} {t u : TI} (h : PI X tg e t) (i : ∀ σ H Q, u σ H Q → t σ H Q) : PI X tg e u := ⟨fun pins s σ H Q I q => h.run pins s σ H Q I (i _ _ _ q)⟩
theorem PI.or {X : Cx} {tg e : Expr} {t u : TI} (h : PI X tg e t) (h' : PI X tg e u) : PI X tg e (fun σ H R => t σ H R ∨ u σ H R) := ⟨fun pins s σ H R I q => q.elim (h.run pins s σ H R I) (h'.run pins s σ H R I)⟩
section
variable {X : Cx} {K : PySem.W.Frag} {E0 : L2.St → XK} {Ee : DEnv → DXK} {a b c e tg : Expr} {es : List Expr} {ta tb tc te : TDE} {tr : TDA} {pos : Pos} {st : Stmt} {rest : List Stmt} {t u : TDS}
theorem jw_list {F H : Hp} {M : Mp} {p : Addr} {xs : List V} {ds : List D} (e : F p = some (.lst xs)) (r : RpL K F xs ds) : JW K F M H (Itl K p) ds := fun F1 M1 H1 s => by
  have e1 : H1 p = some (.lst xs) := s.hm.le.at (s.fle _ _ e) (fun z => z)
  refine ⟨fun i hi => ⟨?_, fun x H2 y => ?_⟩, xs, SqL.of e1, by rw [r.length]; exact Nat.le_refl _⟩
  · obtain ⟨v, hv, _⟩ := r.at (List.getElem?_eq_getElem hi)
    exact ⟨xs, v, SqL.of e1, hv⟩
  · obtain ⟨rfl, y⟩ := y
    refine ⟨F1, .refl s.hm, fun d hd => ?_⟩
    obtain ⟨v, hv, rv⟩ := r.at hd
    have := y xs (SqL.of e1)
    rw [hv] at this
    cases this
    exact rv.mono s.fle
theorem jw_tup {F H : Hp} {M : Mp} {p : Addr} {xs : List V} {ds : List D} (e : F p = some (.tup xs)) (r : RpL K F xs ds) : JW K F M H (Itt K p) ds := fun F1 M1 H1 s => by
  have e1 : H1 p = some (.tup xs) := s.hm.le.at (s.fle _ _ e) (fun z => z)
  refine ⟨fun i hi => ⟨?_, fun x H2 y => ?_⟩, xs, SqT.of e1, by rw [r.length]; exact Nat.le_refl _⟩
  · obtain ⟨v, hv, _⟩ := r.at (List.getElem?_eq_getElem hi)
    exact ⟨xs, v, SqT.of e1, hv⟩
  · obtain ⟨rfl, y⟩ := y
    refine ⟨F1, .refl s.hm, fun d hd => ?_⟩
    obtain ⟨v, hv, rv⟩ := r.at hd
    have := y xs (SqT.of e1)
    rw [hv] at this
    cases this
    exact rv.mono s.fle
theorem jw_scr {F H : Hp} {M : Mp} {p : Addr} {ns : List Int} (e : (∃ o, F p = some (.frz o (.lst (ns.map V.int)))) ∨ KL K p ns) : JW K F M H (Itl K p) (ns.map D.int) := fun F1 M1 H1 s => by
  have sq : SqL K H1 p (ns.map V.int) := by
    rcases e with ⟨o, e⟩ | e
    · exact .inl (.inr ⟨o, s.hm.le.at (s.fle _ _ e) (fun z => z)⟩)
    · exact .inr e
  refine ⟨fun i hi => ⟨?_, fun x H2 y => ?_⟩, ns.map V.int, sq, by simp⟩
  · rw [List.length_map] at hi
    exact ⟨_, .int ns[i], sq, by simp [hi]⟩
  · obtain ⟨rfl, y⟩ := y
    refine ⟨F1, .refl s.hm, fun d hd => ?_⟩
    have z := y _ sq
    rw [List.getElem?_map] at hd z
    cases q : ns[i]? with
    | none => rw [q] at hd; cases hd
    | some n => rw [q] at hd z; cases hd; cases z; exact .int n
theorem jw_str {F H : Hp} {M : Mp} {s : Cd} : JW K F M H (Its (mkS s)) (s.map fun c => D.str [c]) := fun F1 M1 H1 st => by
  refine ⟨fun i hi => ⟨?_, fun x H2 y => ?_⟩, ?_⟩
  · rw [List.length_map] at hi; show i < s.toArray.size; simpa using hi
  · obtain ⟨rfl, c, hc, rfl⟩ := y
    refine ⟨F1, .refl st.hm, fun d hd => ?_⟩
    have hc' : s[i]? = some c := by simpa [mkS] using hc
    rw [List.getElem?_map, hc'] at hd
    cases hd
    exact .str [c]
  · show s.toArray.size ≤ _; simp
def dIter (te : TDE) : TDA := fun ρ M Q => te ρ M fun d M1 => match d with
  | .lst xs => Q xs M1
  | .tup xs => Q xs M1
  | .scr ns => Q (ns.map .int) M1
  | .str s => Q (s.map fun c => .str [c]) M1
  | _ => False
theorem di_seq (he : DE X E0 Ee e te) : DI X E0 Ee tg e (dIter te) := by
  refine ⟨fun pins s σ H R I h => ?_⟩
  obtain ⟨F, M, ρ, Q, ss, q, k⟩ := h
  refine thn (he.run pins s σ H (fun v H1 => ∃ F1 d M1, Step X.K F M H F1 M1 H1 ∧ Rp X.K F1 v d ∧ (match d with
    | .lst xs => Q xs M1
    | .tup xs => Q xs M1
    | .scr ns => Q (ns.map .int) M1
    | .str s => Q (s.map fun c => .str [c]) M1
    | _ => False)) I ⟨F, M, ρ, _, ss, q, fun v H1 F1 d M1 s1 r q1 => ⟨F1, d, M1, s1, r, q1⟩⟩) fun u s1 hh => ?_
  obtain ⟨v, H1, I1, rv, F1, d, M1, st, r, q1⟩ := hh
  cases r with
  | lst e r =>
    cases rv
    obtain ⟨its, rv, p, hz⟩ := I1.list (SqL.of (st.hm.le.at e (fun z => z)))
    refine wpAny_pyIter_list p.isList ?_
    refine ⟨s1.heap.objs.size, [s1.heap.objs.size], _, _, H1, rfl, I1.kept (t' := s1.toks) fun b o e => Heap.get?_push_of_some _ e, turn_list _ _, ⟨_, Heap.get?_push_size _ rfl, rfl, rfl⟩, fun b hb => ?_, k _ _ _ _ _ st (jw_list e r) q1⟩
    have e : b = s1.heap.objs.size := by simpa using hb
    subst e
    exact I1.fpOk (Nat.le_refl _) (I1.hok.fresh (Nat.le_refl _))
  | scr e =>
    cases rv
    rename_i a0 ns0
    have sq : SqL X.K H1 a0 (ns0.map V.int) := by
      rcases e with ⟨o, e⟩ | e
      · exact .inl (.inr ⟨o, st.hm.le.at e (fun z => z)⟩)
      · exact .inr e
    obtain ⟨its, rv, p, hz⟩ := I1.list sq
    refine wpAny_pyIter_list p.isList ?_
    refine ⟨s1.heap.objs.size, [s1.heap.objs.size], _, _, H1, rfl, I1.kept (t' := s1.toks) fun b o e => Heap.get?_push_of_some _ e, turn_list _ _, ⟨_, Heap.get?_push_size _ rfl, rfl, rfl⟩, fun b hb => ?_, k _ _ _ _ _ st (jw_scr e) q1⟩
    have e : b = s1.heap.objs.size := by simpa using hb
    subst e
    exact I1.fpOk (Nat.le_refl _) (I1.hok.fresh (Nat.le_refl _))
  | tup e r =>
    cases rv
    obtain ⟨its, rv, p, hz⟩ := I1.tuple (SqT.of (st.hm.le.at e (fun z => z)))
    refine wpAny_pyIter_tuple (show s1.heap.IsTuple _ its.toArray from p) ?_
    refine ⟨s1.heap.objs.size, [s1.heap.objs.size], _, _, H1, rfl, I1.kept (t' := s1.toks) fun b o e => Heap.get?_push_of_some _ e, turn_tuple _ _, ⟨_, Heap.get?_push_size _ rfl, rfl, rfl⟩, fun b hb => ?_, k _ _ _ _ _ st (jw_tup e r) q1⟩
    have e : b = s1.heap.objs.size := by simpa using hb
    subst e
    exact I1.fpOk (Nat.le_refl _) (I1.hok.fresh (Nat.le_refl _))
  | str c =>
    obtain ⟨t, rfl⟩ := rv
    have z := k _ _ _ _ _ st (jw_str (s := c)) q1
    cases ha : (mkS c).cps.all (· < 128)
    · exact wpAny_pyIter_wide ha (pi_one (tk := s1.toks) I1 _ (turn_str _ (mkS c) t "str_iterator" (.inr rfl)) ⟨_, Heap.get?_push_size _ rfl, rfl, rfl⟩ z)
    · exact wpAny_pyIter_ascii ha (pi_one (tk := s1.toks) I1 _ (turn_str _ (mkS c) t "str_ascii_iterator" (.inl rfl)) ⟨_, Heap.get?_push_size _ rfl, rfl, rfl⟩ z)
  | _ => exact False.elim q1
def rngD (lo : Int) (n : Nat) : List D := (List.range n).map fun (i : Nat) => D.int (lo + (i : Int))
theorem jw_range {F H : Hp} {M : Mp} {lo : Int} {n : Nat} : JW K F M H (Itr lo n) (rngD lo n) := fun F1 M1 H1 st => by
  have hl : (rngD lo n).length = n := by simp [rngD]
  rw [hl]
  refine ⟨fun i hi => ⟨hi, fun x H2 y => ?_⟩, Nat.le_refl _⟩
  obtain ⟨rfl, rfl⟩ := y
  refine ⟨F1, .refl st.hm, fun d hd => ?_⟩
  simp only [rngD, List.getElem?_map] at hd
  rw [List.getElem?_range hi] at hd
  cases hd
  exact .int _
def dRng1 (ta : TDE) : TDA := fun ρ M Q => ta ρ M fun d M1 => match d with
  | .int j => -(2 ^ 62) ≤ j ∧ j < 2 ^ 62 ∧ Q (rngD 0 j.toNat) M1
  | _ => False
def dRng2 (ta tb : TDE) : TDA := fun ρ M Q => ta ρ M fun d M1 => tb ρ M1 fun d2 M2 => match d, d2 with
  | .int i, .int j => (-(2 ^ 62) ≤ i ∧ i < 2 ^ 62 ∧ -(2 ^ 62) ≤ j ∧ j < 2 ^ 62) ∧ Q (rngD i (j - i).toNat) M2
  | _, _ => False
theorem di_range1 {p : Pos} (hg : Gl X "range") (hm : X.mg "range" = none) (ha : DE X E0 Ee a ta) (hs1 : starEach [a] X.env = (false, eval a X.env) :: starEach [] X.env := by rfl) (hs : starEach [a] X.env = [(false, eval a X.env)] := by rfl) : DI X E0 Ee tg (.Call (.Name "range" p) [a] [] pos) (dRng1 ta) :=
  PIimp (pi_range1 hg hm (pa_cons ha pa_nil hs1) hs) fun σ H R ⟨F, M, ρ, Q, ss, q, k⟩ => by
    refine ⟨F, M, ρ, _, ss, q, fun v H1 F1 d M1 s1 r q1 => ?_⟩
    cases r with
    | int j => exact ⟨j, rfl, q1.1, q1.2.1, k _ _ _ _ _ s1 jw_range q1.2.2⟩
    | _ => exact False.elim q1
theorem di_range2 {p : Pos} (hg : Gl X "range") (hm : X.mg "range" = none) (ha : DE X E0 Ee a ta) (hb : DE X E0 Ee b tb) (hs0 : starEach [a, b] X.env = (false, eval a X.env) :: starEach [b] X.env := by rfl) (hs1 : starEach [b] X.env = (false, eval b X.env) :: starEach [] X.env := by rfl)
    (hs : starEach [a, b] X.env = [(false, eval a X.env), (false, eval b X.env)] := by rfl) (hs2 : starEach [b] X.env = [(false, eval b X.env)] := by rfl) : DI X E0 Ee tg (.Call (.Name "range" p) [a, b] [] pos) (dRng2 ta tb) :=
  PIimp (pi_range2 hg hm (pa_cons ha (pa_cons hb pa_nil hs1) hs0) hs hs2) fun σ H R ⟨F, M, ρ, Q, ss, q, k⟩ => by
    refine ⟨F, M, ρ, _, ss, q, fun v H1 F1 d M1 s1 r q1 => ⟨F1, M1, ρ, _, ss.step s1, q1, fun v2 H2 F2 d2 M2 s2 r2 q2 => ?_⟩⟩
    cases r with
    | int i =>
      cases r2 with
      | int j => exact ⟨i, j, rfl, q2.1, k _ _ _ _ _ (s1.trans s2) jw_range q2.2⟩
      | _ => exact False.elim q2
    | _ => cases r2 <;> exact False.elim q2
/-! ### loops -/
def dFor (ti : TDA) (g : TDG) (tb : TDS) : TDS := fun D ρ M => ti ρ M fun items M1 => ∃ Pv : Nat → DEnv → Mp → Prop, Pv 0 ρ M1 ∧
  (∀ i x ρ M, items[i]? = some x → Pv i ρ M → g x ρ M fun ρ' M' => tb { D with nx := Pv (i + 1), ct := Pv (i + 1), bk := D.nx } ρ' M') ∧ ∀ ρ M, Pv items.length ρ M → D.nx ρ M
theorem ds_for {iter : Expr} {body : List Stmt} {ti : TDA} {vs : List Nat} {g : TDG} (hp : PassesOwn (model X.prog X.w) X.A X.env X.xe) (hc : X.calm = true) (hi : DI X E0 Ee tg iter ti) (hg : DG X E0 Ee vs tg g) (hb : DSs X E0 Ee body t)
    (hs : ∀ x, foldedSetIterable iter X.env x = pure x := by intro _; rfl) : DS X E0 Ee (.For tg iter body [] pos) (dFor ti g t) := PSimp (ps_for hp hc hi hg hb hs) fun D0 σ H ⟨F, M, ρ, D, ss, q, k⟩ => by
  refine ⟨F, M, ρ, _, ss, q, fun J H1 F1 items M1 s1 jw q1 => ?_⟩
  obtain ⟨Pv, h0, hs', hd⟩ := q1
  refine ⟨fun i m σ' H' => m = items.length - i ∧ i ≤ items.length ∧ ∃ F' M' ρ', Step X.K F1 M1 H1 F' M' H' ∧ RpE X.K F' σ' ρ' ∧ Pv i ρ' M', ⟨_, rfl, Nat.zero_le _, F1, M1, ρ, .refl s1.hm, ss.env.mono s1.fle, h0⟩, ?_⟩
  rintro i m σ' H' ⟨rfl, hi, F', M', ρ', st, en, pv⟩
  obtain ⟨jw1, jw2⟩ := jw F' M' H' st
  by_cases hlt : i < items.length
  · obtain ⟨go, yl⟩ := jw1 i hlt
    refine .inr ⟨go, fun σ2 H2 => ∃ F2 M2 ρ2, Step X.K F1 M1 H1 F2 M2 H2 ∧ RpE X.K F2 σ2 ρ2 ∧ Pv (i + 1) ρ2 M2, fun σ2 H2 ⟨F2, M2, ρ2, s2, e2, p2⟩ => ⟨_, by omega, rfl, hlt, F2, M2, ρ2, s2, e2, p2⟩, fun x H2 y => ?_⟩
    obtain ⟨F2, s2, rx⟩ := yl x H2 y
    have hx : items[i]? = some items[i] := List.getElem?_eq_getElem hlt
    have st2 := st.trans s2
    refine ⟨F2, M', ρ', items[i], _, (ss.to (s1.trans st2) (en.mono s2.fle)), rx _ hx, hs' i _ ρ' M' hx pv, fun σ3 H3 F3 ρ3 M3 s3 e3 _ q3 => ?_⟩
    refine ⟨F3, M3, ρ3, _, ss.to (s1.trans (st2.trans s3)) e3, q3, ?_⟩
    have s13 := st2.trans s3
    have c := k.step (s1.trans s13)
    exact ⟨fun σ4 H4 F4 ρ4 M4 s4 e4 q4 => ⟨_, _, _, s13.trans s4, e4, q4⟩, c.rt, c.nx, fun σ4 H4 F4 ρ4 M4 s4 e4 q4 => ⟨_, _, _, s13.trans s4, e4, q4⟩⟩
  · have e : i = items.length := by omega
    subst e
    exact .inl ⟨jw2, k.nx _ _ _ _ _ (s1.trans st) en (hd ρ' M' pv)⟩
def dWhile (tc : TDT) (tb : TDS) : TDS := fun D ρ M => ∃ Pv : Nat → DEnv → Mp → Prop, (∃ m, Pv m ρ M) ∧ ∀ m ρ M, Pv m ρ M → tc ρ M fun b M1 => if b = true then tb { D with nx := fun ρ' M' => ∃ m', m' < m ∧ Pv m' ρ' M', ct := fun ρ' M' => ∃ m', m' < m ∧ Pv m' ρ' M', bk := D.nx } ρ M1 else D.nx ρ M1
theorem ds_while {body : List Stmt} {tt : TDT} (hp : PassesOwn (model X.prog X.w) X.A X.env X.xe) (hc : DT X E0 Ee c tt) (hb : DSs X E0 Ee body t) : DS X E0 Ee (.While c body [] pos) (dWhile tt t) := PSimp (ps_while hp hc hb) fun D0 σ H ⟨F, M, ρ, D, ss, q, k⟩ => by
  obtain ⟨Pv, ⟨m0, h0⟩, hs⟩ := q
  refine ⟨fun m σ' H' => ∃ F' M' ρ', Step X.K F M H F' M' H' ∧ RpE X.K F' σ' ρ' ∧ Pv m ρ' M', ⟨m0, F, M, ρ, .refl ss.hm, ss.env, h0⟩, ?_⟩
  rintro m σ' H' ⟨F', M', ρ', st, en, pv⟩
  refine ⟨F', M', ρ', _, ss.to st en, hs m ρ' M' pv, fun b H1 F1 d M1 s1 r q1 => ?_⟩
  have r' : b = d := r
  subst r'
  have s01 := st.trans s1
  have c := k.step s01
  cases b with
  | true =>
    refine iteT ⟨fun σ2 H2 => ∃ m' F2 M2 ρ2, m' < m ∧ Step X.K F M H F2 M2 H2 ∧ RpE X.K F2 σ2 ρ2 ∧ Pv m' ρ2 M2, fun σ2 H2 ⟨m', F2, M2, ρ2, hm, s2, e2, p2⟩ => ⟨m', hm, F2, M2, ρ2, s2, e2, p2⟩, F1, M1, ρ', _, ss.to s01 (en.mono s1.fle), by simpa using q1, ?_⟩
    exact ⟨fun σ4 H4 F4 ρ4 M4 s4 e4 ⟨m', hm, q4⟩ => ⟨m', _, _, _, hm, s01.trans s4, e4, q4⟩, c.rt, c.nx, fun σ4 H4 F4 ρ4 M4 s4 e4 ⟨m', hm, q4⟩ => ⟨m', _, _, _, hm, s01.trans s4, e4, q4⟩⟩
  | false => exact iteF (c.nx _ _ _ _ _ (.refl s1.hm) (en.mono s1.fle) (by simpa using q1))
/-! ### comprehensions -/
abbrev EN : L2.St → XK := fun _ _ _ _ => False
abbrev NX : DEnv → DXK := fun _ _ _ _ => False
theorem xc_no {F H : Hp} {M : Mp} : XC K EN NX F M H := fun _ _ _ _ _ _ _ _ _ _ _ _ _ z => z
def dLcG (ti : TDA) (g : TDG) (tt : TDT) (te : TDE) (own : List Nat) (fin : List D → Mp → Prop) : DEnv → Mp → Prop := fun ρ M => ti ρ M fun items M1 => ∃ Pv : Nat → List D → Mp → Prop, Pv 0 [] M1 ∧
  (∀ i x acc M, items[i]? = some x → Pv i acc M → g x (dwipe ρ own) M fun ρ2 M2 => tt ρ2 M2 fun b M3 => if b = true then te ρ2 M3 fun y M4 => acc.length < sizeLine ∧ Pv (i + 1) (acc ++ [y]) M4 else Pv (i + 1) acc M3) ∧
  ∀ acc M, Pv items.length acc M → fin acc M
def dLc (ti : TDA) (g : TDG) (tt : TDT) (te : TDE) (own : List Nat) : TDE := fun ρ M Q => dLcG ti g tt te own (fun acc M' => Q (.lst acc) M') ρ M
def dLcM (ti : TDA) (g : TDG) (tt : TDT) (te : TDE) (own : List Nat) : TDE := fun ρ M Q => dLcG ti g tt te own (fun acc M' => ∀ p, M' p = none → Q (.ref p) (mset M' p (.lst acc))) ρ M
def DTs (X : Cx) (E0 : L2.St → XK) (Ee : DEnv → DXK) (ifs : List Expr) (t : TDT) : Prop := PTs X ifs (lowT X.K E0 Ee t)
def dYes : TDT := fun _ M Q => Q true M
theorem dts_nil : DTs X E0 Ee [] dYes := ⟨fun pins s σ H Q I ⟨F, M, ρ, Q', ss, q, k⟩ => pts_nil.run pins s σ H Q I (k.end ss.hm rfl q)⟩
theorem dts_one {tt : TDT} (h : DT X E0 Ee c tt) : DTs X E0 Ee [c] tt := pts_one h
theorem lc_low {ti : TDA} {g : TDG} {tt : TDT} {te : TDE} {vs own : List Nat} {fin : List D → Mp → Prop} {σ : L2.St} {H F : Hp} {M : Mp} {ρ : DEnv} {Q0 : VK} (hv : ∀ i ∈ vs, i ∈ own) (ss : SS K E0 Ee σ H F M ρ) (q : dLcG ti g tt te own fin ρ M)
    (k : ∀ D xs F1 M1 H1 F' M' H' acc, Step K F M H F1 M1 H1 → Step K F1 M1 H1 F' M' H' → H1 D = none → F' D = none → M' D = none → H' D = some (.lst xs) → RpL K F' xs acc → fin acc M' → Q0 (.ref D) H') :
    tLc (lowI K E0 Ee ti) (lowG K EN NX vs g) (lowT K EN NX tt) (lowE K EN NX te) own σ H Q0 := by
  refine ⟨F, M, ρ, _, ss, q, fun J H1 F1 items M1 s1 jw q1 D hD => ?_⟩
  obtain ⟨Pv, h0, hs', hd⟩ := q1
  obtain ⟨nM1, nF1⟩ := s1.hm.none hD
  have s1' : Step K F1 M1 H1 F1 M1 (upd H1 D (.lst [])) := (Step.refl s1.hm).hset hD nF1 nM1 _
  refine ⟨fun i m H' => m = items.length - i ∧ i ≤ items.length ∧ ∃ F' M' xs acc, Step K F1 M1 H1 F' M' H' ∧ F' D = none ∧ M' D = none ∧ H' D = some (.lst xs) ∧ RpL K F' xs acc ∧ Pv i acc M', ⟨_, rfl, Nat.zero_le _, F1, M1, [], [], s1', nF1, nM1, upd_same, .nil, h0⟩, ?_⟩
  rintro i m H' ⟨rfl, hi, F', M', xs, acc, st, nF, nM, eD, ra, pv⟩
  obtain ⟨jw1, jw2⟩ := jw F' M' H' st
  by_cases hlt : i < items.length
  · obtain ⟨go, yl⟩ := jw1 i hlt
    refine .inr ⟨go, fun H2 => ∃ F2 M2 xs acc, Step K F1 M1 H1 F2 M2 H2 ∧ F2 D = none ∧ M2 D = none ∧ H2 D = some (.lst xs) ∧ RpL K F2 xs acc ∧ Pv (i + 1) acc M2, fun H2 h2 => ⟨_, by omega, rfl, hlt, h2⟩, fun x H2 y => ?_⟩
    obtain ⟨F2, s2, rx⟩ := yl x H2 y
    have hx : items[i]? = some items[i] := List.getElem?_eq_getElem hlt
    have st2 := st.trans s2
    refine ⟨F2, M', dwipe ρ own, items[i], _, ⟨s2.hm, ((ss.env.mono s1.fle).mono st2.fle).wipe own, xc_no⟩, rx _ hx, hs' i _ acc M' hx pv, fun σ3 H3 F3 ρ3 M3 s3 e3 f3 q3 => ⟨?_, ?_⟩⟩
    · have z := f3 own hv
      rw [z]
      have ww : ∀ (ws : List Nat) (τ : L2.St), (∀ i ∈ ws, i ∈ own) → L2.wipe (L2.wipe τ ws) own = L2.wipe τ own := by
        intro ws
        induction ws with
        | nil => intro τ _; rfl
        | cons w ws ih =>
          intro τ h
          show L2.wipe ((L2.wipe τ ws).set w none) own = _
          rw [wipe_set _ _ _ (h w (by simp)), ih τ fun i hi => h i (by simp [hi])]
      exact ww own σ fun i h => h
    · refine ⟨F3, M3, ρ3, _, ⟨s3.hm, e3, xc_no⟩, q3, fun b H4 F4 d M4 s4 r4 q4 => ?_⟩
      have r' : b = d := r4
      subst r'
      have s24 := s2.trans (s3.trans s4)
      obtain ⟨h1, h2, h3⟩ := s24.hid eD nF nM
      cases b with
      | true =>
        refine iteT ⟨F4, M4, ρ3, _, ⟨s4.hm, e3.mono s4.fle, xc_no⟩, by simpa using q4, fun v H5 F5 d M5 s5 r5 q5 => ?_⟩
        obtain ⟨g1, g2, g3⟩ := s5.hid h1 h2 h3
        have s15 := st.trans (s24.trans s5)
        have rl := ra.mono (s24.trans s5).fle
        refine ⟨xs, g1, by rw [rl.length]; exact q5.1, F5, M5, xs ++ [v], acc ++ [d], s15.hset hD g2 g3 _, g2, g3, upd_same, rl.app (.cons r5 .nil), q5.2⟩
      | false => exact iteF ⟨F4, M4, xs, acc, st.trans s24, h2, h3, h1, ra.mono s24.fle, by simpa using q4⟩
  · have e : i = items.length := by omega
    subst e
    exact .inl ⟨jw2, k D xs F1 M1 H1 F' M' H' acc s1 st hD nF nM eD ra (hd acc M' pv)⟩
theorem lc_frz {fin : D → Mp → Prop} {H F : Hp} {M : Mp} {Q0 : VK} (k : KE K F M H fin Q0) : ∀ D xs F1 M1 H1 F' M' H' acc, Step K F M H F1 M1 H1 → Step K F1 M1 H1 F' M' H' → H1 D = none → F' D = none → M' D = none → H' D = some (.lst xs) → RpL K F' xs acc → fin (.lst acc) M' → Q0 (.ref D) H' :=
  fun D xs F1 M1 H1 F' M' H' acc s1 s2 hD nF nM eD ra q => by
    have s3 := s2.hfrz hD nF nM eD
    exact k _ _ _ _ _ (s1.trans s3) (.lst upd_same (ra.mono (fun a u e => by rw [upd_ne (ne_of_none e nF)]; exact e))) q
theorem lc_mut {fin : D → Mp → Prop} {H F : Hp} {M : Mp} {Q0 : VK} (k : KE K F M H fin Q0) : ∀ D xs F1 M1 H1 F' M' H' acc, Step K F M H F1 M1 H1 → Step K F1 M1 H1 F' M' H' → H1 D = none → F' D = none → M' D = none → H' D = some (.lst xs) → RpL K F' xs acc → (∀ p, M' p = none → fin (.ref p) (mset M' p (.lst acc))) → Q0 (.ref D) H' :=
  fun D xs F1 M1 H1 F' M' H' acc s1 s2 hD nF nM eD ra q => by
    have s3 := s2.hmut (mo := .lst acc) hD nF nM ⟨xs, eD, ra⟩
    exact k _ _ _ _ _ (s1.trans s3) (.ref D) (q D nM)
section
variable {elt iter : Expr} {ifs : List Expr} {scope : Scope} {own : List (Str × Nat)} {ti : TDA} {vs : List Nat} {g : TDG} {tt : TDT}
theorem de_lc (hc : X.calm = true) (hN : X.N.Nodup) (hi : DI X E0 Ee tg iter ti) (ok : BlkOk X.N X.env.scope scope own)
    (hg : ∀ (s : Shared) (H : Hp) (C : Addr) (cl : List (Str × Addr)) (fp : List Addr), DG (X.blk s H scope (compEnvC scope cl C X.env) fp) EN NX vs tg g) (ht : ∀ (s : Shared) (H : Hp) (C : Addr) (cl : List (Str × Addr)) (fp : List Addr), DTs (X.blk s H scope (compEnvC scope cl C X.env) fp) EN NX ifs tt)
    (he : ∀ (s : Shared) (H : Hp) (C : Addr) (cl : List (Str × Addr)) (fp : List Addr), DE (X.blk s H scope (compEnvC scope cl C X.env) fp) EN NX elt te) (hv : ∀ i ∈ vs, i ∈ own.map (·.2)) (hs : ∀ x, foldedSetIterable iter X.env x = pure x := by intro _; rfl) :
    DE X E0 Ee (.ListComp elt [⟨tg, iter, ifs, 0⟩] scope pos) (dLc ti g tt te (own.map (·.2))) := PEimp (pe_lc (g := lowG X.K EN NX vs g) (tt := lowT X.K EN NX tt) (te := lowE X.K EN NX te) hc hN hi ok hg ht he hs) fun σ H Q0 ⟨F, M, ρ, Q, ss, q, k⟩ => lc_low hv ss q (lc_frz k)
theorem de_lcM (hc : X.calm = true) (hN : X.N.Nodup) (hi : DI X E0 Ee tg iter ti) (ok : BlkOk X.N X.env.scope scope own)
    (hg : ∀ (s : Shared) (H : Hp) (C : Addr) (cl : List (Str × Addr)) (fp : List Addr), DG (X.blk s H scope (compEnvC scope cl C X.env) fp) EN NX vs tg g) (ht : ∀ (s : Shared) (H : Hp) (C : Addr) (cl : List (Str × Addr)) (fp : List Addr), DTs (X.blk s H scope (compEnvC scope cl C X.env) fp) EN NX ifs tt)
    (he : ∀ (s : Shared) (H : Hp) (C : Addr) (cl : List (Str × Addr)) (fp : List Addr), DE (X.blk s H scope (compEnvC scope cl C X.env) fp) EN NX elt te) (hv : ∀ i ∈ vs, i ∈ own.map (·.2)) (hs : ∀ x, foldedSetIterable iter X.env x = pure x := by intro _; rfl) :
    DE X E0 Ee (.ListComp elt [⟨tg, iter, ifs, 0⟩] scope pos) (dLcM ti g tt te (own.map (·.2))) := PEimp (pe_lc (g := lowG X.K EN NX vs g) (tt := lowT X.K EN NX tt) (te := lowE X.K EN NX te) hc hN hi ok hg ht he hs) fun σ H Q0 ⟨F, M, ρ, Q, ss, q, k⟩ => lc_low hv ss q (lc_mut k)
theorem ds_setLc {i : Nat} {y : Str} {py spos : Pos} (hc : X.calm = true) (hN : X.N.Nodup) (hy : X.N[i]? = some y) (hyl : X.env.scope.names.lookup y = some .local)
    (hsw : swapsWith (.ListComp elt [⟨tg, iter, ifs, 0⟩] scope pos) (some (.Name y py)) spos.line X.env = pure true) (hi : DI X E0 Ee tg iter ti) (ok : BlkOk X.N X.env.scope scope own)
    (hg : ∀ (s : Shared) (H : Hp) (C : Addr) (cl : List (Str × Addr)) (fp : List Addr), DG (X.blk s H scope (compEnvC scope cl C X.env) fp) EN NX vs tg g) (ht : ∀ (s : Shared) (H : Hp) (C : Addr) (cl : List (Str × Addr)) (fp : List Addr), DTs (X.blk s H scope (compEnvC scope cl C X.env) fp) EN NX ifs tt)
    (he : ∀ (s : Shared) (H : Hp) (C : Addr) (cl : List (Str × Addr)) (fp : List Addr), DE (X.blk s H scope (compEnvC scope cl C X.env) fp) EN NX elt te) (hv : ∀ i ∈ vs, i ∈ own.map (·.2)) (hs : ∀ x, foldedSetIterable iter X.env x = pure x := by intro _; rfl) :
    DS X E0 Ee (.Assign [.Name y py] (.ListComp elt [⟨tg, iter, ifs, 0⟩] scope pos) spos) (dSet i (dLc ti g tt te (own.map (·.2)))) := PSimp (ps_setLc (g := lowG X.K EN NX vs g) (tt := lowT X.K EN NX tt) (te := lowE X.K EN NX te) hc hN hy hyl hsw hi ok hg ht he hs) fun D0 σ H ⟨F, M, ρ, D, ss, q, k⟩ =>
    lc_low (Q0 := fun x H1 => gName i x σ H1 D0.nx) hv ss q (lc_frz (fin := fun d M1 => D.nx (rset ρ i (some d)) M1) fun v H1 F1 d M1 s1 r q1 => k.nx _ _ _ _ _ s1 ((ss.env.mono s1.fle).set i r) q1)
theorem ds_setLcM {i : Nat} {y : Str} {py spos : Pos} (hc : X.calm = true) (hN : X.N.Nodup) (hy : X.N[i]? = some y) (hyl : X.env.scope.names.lookup y = some .local)
    (hsw : swapsWith (.ListComp elt [⟨tg, iter, ifs, 0⟩] scope pos) (some (.Name y py)) spos.line X.env = pure true) (hi : DI X E0 Ee tg iter ti) (ok : BlkOk X.N X.env.scope scope own)
    (hg : ∀ (s : Shared) (H : Hp) (C : Addr) (cl : List (Str × Addr)) (fp : List Addr), DG (X.blk s H scope (compEnvC scope cl C X.env) fp) EN NX vs tg g) (ht : ∀ (s : Shared) (H : Hp) (C : Addr) (cl : List (Str × Addr)) (fp : List Addr), DTs (X.blk s H scope (compEnvC scope cl C X.env) fp) EN NX ifs tt)
    (he : ∀ (s : Shared) (H : Hp) (C : Addr) (cl : List (Str × Addr)) (fp : List Addr), DE (X.blk s H scope (compEnvC scope cl C X.env) fp) EN NX elt te) (hv : ∀ i ∈ vs, i ∈ own.map (·.2)) (hs : ∀ x, foldedSetIterable iter X.env x = pure x := by intro _; rfl) :
    DS X E0 Ee (.Assign [.Name y py] (.ListComp elt [⟨tg, iter, ifs, 0⟩] scope pos) spos) (dSet i (dLcM ti g tt te (own.map (·.2)))) := PSimp (ps_setLc (g := lowG X.K EN NX vs g) (tt := lowT X.K EN NX tt) (te := lowE X.K EN NX te) hc hN hy hyl hsw hi ok hg ht he hs) fun D0 σ H ⟨F, M, ρ, D, ss, q, k⟩ =>
    lc_low (Q0 := fun x H1 => gName i x σ H1 D0.nx) hv ss q (lc_mut (fin := fun d M1 => D.nx (rset ρ i (some d)) M1) fun v H1 F1 d M1 s1 r q1 => k.nx _ _ _ _ _ s1 ((ss.env.mono s1.fle).set i r) q1)
end
end
end DL


set_option Elab.async false
set_option linter.all false
set_option maxRecDepth 100000
set_option maxHeartbeats 4000000
namespace DL
open PySem PySem.Spec PyProof.Rows L2
section
variable {X : Cx} {K : PySem.W.Frag} {E0 : L2.St → XK} {Ee : DEnv → DXK} {a b c e tg o i : Expr} {es : List Expr} {ta tb tc te : TDE} {tr : TDA} {pos : Pos} {st : Stmt} {rest : List Stmt} {t u : TDS}
/-! ### built-in functions -/
abbrev TCb := List D → Mp → (D → Mp → Prop) → Prop
def CallD (K : PySem.W.Frag) (r : List V → Hp → VK → Prop) (f : TCb) : Prop := ∀ xs ds F M H Q Q0, HM K F M H → RpL K F xs ds → f ds M Q → KE K F M H Q Q0 → r xs H Q0
def dCallB (f : TCb) (tr : TDA) : TDE := fun ρ M Q => tr ρ M fun ds M1 => f ds M1 Q
theorem low_cb {r : List V → Hp → VK → Prop} {f : TCb} (hd : CallD K r f) {σ : L2.St} {H : Hp} {Q0 : VK} (h : lowE K E0 Ee (dCallB f tr) σ H Q0) : tCB r (lowA K E0 Ee tr) σ H Q0 := by
  obtain ⟨F, M, ρ, Q, ss, q, k⟩ := h
  exact ⟨F, M, ρ, _, ss, q, fun xs H1 F1 ds M1 s1 r1 q1 => hd xs ds F1 M1 H1 Q Q0 s1.hm r1 q1 (k.step s1)⟩
section
variable {x : Str} {id T : String} {r : List V → Hp → VK → Prop} {f : TCb} {p : Pos}
theorem de_callB (hc : CallR X (.builtin id) r) (hd : CallD X.K r f) (hg : Gl X x) (hm : X.mg x = none) (hv : bootBuiltins x = some (.builtin id)) (ha : DA X E0 Ee (e :: es) tr) (hn : x ≠ "__name__" := by decide) (hdb : (x == ("__debug__" : Str)) = false := by decide)
    (he : starEach (e :: es) X.env = (false, eval e X.env) :: starEach es X.env := by rfl) (hpl : (backTo pos (starEach es X.env)).any (·.1) = false := by rfl) : DE X E0 Ee (.Call (.Name x p) (e :: es) [] pos) (dCallB f tr) := PEimp (pe_callB hc hg hm hv ha hn hdb he hpl) fun σ H Q0 h => low_cb hd h
theorem de_callTy (hc : CallR X (.type T) r) (hd : CallD X.K r f) (hg : Gl X x) (hm : X.mg x = none) (hv : bootBuiltins x = some (.type T)) (ha : DA X E0 Ee (e :: es) tr) (hn : x ≠ "__name__" := by decide) (hdb : (x == ("__debug__" : Str)) = false := by decide)
    (he : starEach (e :: es) X.env = (false, eval e X.env) :: starEach es X.env := by rfl) (hpl : (backTo pos (starEach es X.env)).any (·.1) = false := by rfl) : DE X E0 Ee (.Call (.Name x p) (e :: es) [] pos) (dCallB f tr) := PEimp (pe_callTy hc hg hm hv ha hn hdb he hpl) fun σ H Q0 h => low_cb hd h
end
/-- a rule of one argument -/
theorem cd1 {r : List V → Hp → VK → Prop} {f : D → Mp → (D → Mp → Prop) → Prop} (h : ∀ x d F M H Q Q0, HM K F M H → Ct K F H x (vw M d) → Rp K F x d → f (vw M d) M Q → KE K F M H Q Q0 → r [x] H Q0) :
    CallD K r (fun ds M Q => match ds with
      | [d] => f (vw M d) M Q
      | _ => False) := fun xs ds F M H Q Q0 hm rl q k => by
  cases rl with
  | nil => exact q.elim
  | cons r1 r2 =>
    cases r2 with
    | nil => exact h _ _ F M H Q Q0 hm (Ct.vw hm r1) r1 q k
    | cons _ _ => exact q.elim
def f1 (f : D → Mp → (D → Mp → Prop) → Prop) : TCb := fun ds M Q => match ds with
  | [d] => f (vw M d) M Q
  | _ => False
def oLen : D → Mp → (D → Mp → Prop) → Prop
  | .str s, M, Q => s.length ≤ sizeLine ∧ Q (.int s.length) M
  | .lst s, M, Q => Q (.int s.length) M
  | .tup s, M, Q => Q (.int s.length) M
  | .scr s, M, Q => Q (.int s.length) M
  | .dic s, M, Q => Q (.int s.length) M
  | _, _, _ => False
theorem call_lenR : CallR X (.builtin "len") (fun xs H Q => ∃ a kvs, xs = [V.ref a] ∧ Rd H a (.dK kvs) ∧ Q (.int kvs.length) H) := by
  intro pins s σ H xs us Q I r h
  obtain ⟨a, kvs, rfl, e, q⟩ := h
  obtain ⟨u, rfl, rx⟩ := vals1 r
  obtain rfl : u = Value.ref a := rx
  exact d_len I e fun t s' I' => ⟨.int _, H, I', ⟨t, rfl⟩, q⟩
abbrev rLen2 (K : PySem.W.Frag) : List V → Hp → VK → Prop := fun xs H Q => (∃ x n, xs = [x] ∧ LenV K x H n ∧ Q (.int n) H) ∨ ∃ a kvs, xs = [V.ref a] ∧ Rd H a (.dK kvs) ∧ Q (.int kvs.length) H
theorem cd_len : CallD K (rLen2 K) (f1 oLen) := cd1 fun x d F M H Q Q0 hm c r q k => by
  generalize vw M d = d' at c q
  cases d' with
  | str s => cases c; exact .inl ⟨_, s.length, rfl, ⟨by rw [mkS_len]; exact q.1, (mkS_len s).symm⟩, k.end hm (.int _) q.2⟩
  | lst s => obtain ⟨p, xs, rfl, e, rl⟩ := c; exact .inl ⟨_, s.length, rfl, .inl ⟨xs, SqL.of e, rl.length.symm⟩, k.end hm (.int _) q⟩
  | tup s => obtain ⟨p, xs, rfl, e, rl⟩ := c; exact .inl ⟨_, s.length, rfl, .inr ⟨xs, SqT.of e, rl.length.symm⟩, k.end hm (.int _) q⟩
  | scr s => obtain ⟨p, rfl, e, _⟩ := c; exact .inl ⟨_, s.length, rfl, .inl ⟨_, e, by simp⟩, k.end hm (.int _) q⟩
  | dic s => obtain ⟨p, xs, rfl, e, rk⟩ := c; exact .inr ⟨p, xs, rfl, e, by rw [rk.length]; exact k.end hm (.int _) q⟩
  | _ => exact False.elim q
theorem de_len {p : Pos} (hg : Gl X "len") (hm : X.mg "len" = none) (ha : DE X E0 Ee e te) (h1 : starEach [e] X.env = (false, eval e X.env) :: starEach [] X.env := by rfl) : DE X E0 Ee (.Call (.Name "len" p) [e] [] pos) (dCallB (f1 oLen) (dCons te dNil)) :=
  de_callB (call_len.or call_lenR) cd_len hg hm PySem.boot_len (da_cons ha da_nil h1) (by decide) (by decide) h1
def oInt : D → Mp → (D → Mp → Prop) → Prop
  | .int i, M, Q => Q (.int i) M
  | .bl b, M, Q => Q (.int (if b then 1 else 0)) M
  | _, _, _ => False
theorem cd_int : CallD K (fun xs H Q => (∃ i, xs = [.int i] ∧ Q (.int i) H) ∨ ∃ k, xs = [.bl k] ∧ Q (.int (if k then 1 else 0)) H) (f1 oInt) := cd1 fun x d F M H Q Q0 hm c r q k => by
  generalize vw M d = d' at c q
  cases d' with
  | int i => cases c; exact .inl ⟨i, rfl, k.end hm (.int _) q⟩
  | bl i => cases c; exact .inr ⟨i, rfl, k.end hm (.int _) q⟩
  | _ => exact False.elim q
theorem de_int1 {p : Pos} (hg : Gl X "int") (hm : X.mg "int" = none) (ha : DE X E0 Ee e te) (h1 : starEach [e] X.env = (false, eval e X.env) :: starEach [] X.env := by rfl) : DE X E0 Ee (.Call (.Name "int" p) [e] [] pos) (dCallB (f1 oInt) (dCons te dNil)) :=
  de_callTy call_int1 cd_int hg hm (by decide +kernel) (da_cons ha da_nil h1) (by decide) (by decide) h1
def oAbs : D → Mp → (D → Mp → Prop) → Prop
  | .int i, M, Q => Q (.int (if i < 0 then -i else i)) M
  | _, _, _ => False
theorem cd_abs : CallD K (fun xs H Q => ∃ i, xs = [.int i] ∧ Q (.int (if i < 0 then -i else i)) H) (f1 oAbs) := cd1 fun x d F M H Q Q0 hm c r q k => by
  generalize vw M d = d' at c q
  cases d' with
  | int i => cases c; exact ⟨i, rfl, k.end hm (.int _) q⟩
  | _ => exact False.elim q
theorem de_abs {p : Pos} (hg : Gl X "abs") (hm : X.mg "abs" = none) (ha : DE X E0 Ee e te) (h1 : starEach [e] X.env = (false, eval e X.env) :: starEach [] X.env := by rfl) : DE X E0 Ee (.Call (.Name "abs" p) [e] [] pos) (dCallB (f1 oAbs) (dCons te dNil)) :=
  de_callB call_abs cd_abs hg hm (by decide +kernel) (da_cons ha da_nil h1) (by decide) (by decide) h1
def numS (i : Int) : Cd := (toString i : Str).cps.toList
def oStr : D → Mp → (D → Mp → Prop) → Prop
  | .int i, M, Q => i.natAbs.log2 < 1920 ∧ Q (.str (numS i)) M
  | _, _, _ => False
theorem cd_str : CallD K (fun xs H Q => ∃ i, xs = [.int i] ∧ i.natAbs.log2 < 1920 ∧ Q (.str (toString i)) H) (f1 oStr) := cd1 fun x d F M H Q Q0 hm c r q k => by
  generalize vw M d = d' at c q
  cases d' with
  | int i => cases c; exact ⟨i, rfl, q.1, by rw [← mkS_tl (toString i)]; exact k.end hm (.str _) q.2⟩
  | _ => exact False.elim q
theorem de_strI {p : Pos} (hg : Gl X "str") (hm : X.mg "str" = none) (ha : DE X E0 Ee e te) (h1 : starEach [e] X.env = (false, eval e X.env) :: starEach [] X.env := by rfl) : DE X E0 Ee (.Call (.Name "str" p) [e] [] pos) (dCallB (f1 oStr) (dCons te dNil)) :=
  de_callTy call_str_int cd_str hg hm (by decide +kernel) (da_cons ha da_nil h1) (by decide) (by decide) h1
/-- list(xs), tuple(xs) -/
def oTupOf : D → Mp → (D → Mp → Prop) → Prop
  | .lst s, M, Q => Q (.tup s) M
  | .tup s, M, Q => Q (.tup s) M
  | _, _, _ => False
theorem cd_tup : CallD K (fun xs H Q => ∃ p ys, xs = [.ref p] ∧ ((SqL K H p ys ∧ ∀ l, H l = none → Q (.ref l) (upd H l (.tup ys))) ∨ (SqT K H p ys ∧ Q (.ref p) H))) (f1 oTupOf) := fun xs ds F M H Q Q0 hm rl q k => by
  cases rl with
  | nil => exact q.elim
  | cons r1 r2 =>
    cases r2 with
    | cons _ _ => exact q.elim
    | nil =>
      rename_i v d
      have c := Ct.vw hm r1
      have q : oTupOf (vw M d) M Q := q
      cases d with
      | tup s =>
        obtain ⟨p, xs, rfl, e, rl⟩ := c
        exact ⟨p, xs, rfl, .inr ⟨SqT.of e, k.end hm r1 q⟩⟩
      | ref p =>
        generalize ev : vw M (D.ref p) = d' at c q
        cases d' with
        | lst s => obtain ⟨p, xs, rfl, e, rl⟩ := c; exact ⟨p, xs, rfl, .inl ⟨SqL.of e, newTup hm rl q k⟩⟩
        | tup s =>
          exfalso
          simp only [vw] at ev
          split at ev <;> cases ev
        | _ => exact False.elim q
      | lst s => obtain ⟨p, xs, rfl, e, rl⟩ := c; exact ⟨p, xs, rfl, .inl ⟨SqL.of e, newTup hm rl q k⟩⟩
      | _ => exact False.elim q
theorem de_tupOf {p : Pos} (hg : Gl X "tuple") (hm : X.mg "tuple" = none) (ha : DE X E0 Ee e te) (h1 : starEach [e] X.env = (false, eval e X.env) :: starEach [] X.env := by rfl) : DE X E0 Ee (.Call (.Name "tuple" p) [e] [] pos) (dCallB (f1 oTupOf) (dCons te dNil)) :=
  de_callTy call_tuple_of cd_tup hg hm (by decide +kernel) (da_cons ha da_nil h1) (by decide) (by decide) h1
def oLst0 : D → Mp → (D → Mp → Prop) → Prop
  | .lst s, M, Q => Q (.lst s) M
  | .tup s, M, Q => Q (.lst s) M
  | _, _, _ => False
def oLst0M : D → Mp → (D → Mp → Prop) → Prop
  | .lst s, M, Q => ∀ p, M p = none → Q (.ref p) (mset M p (.lst s))
  | .tup s, M, Q => ∀ p, M p = none → Q (.ref p) (mset M p (.lst s))
  | _, _, _ => False
theorem cd_lst0 : CallD K (fun xs H Q => ∃ p ys, xs = [.ref p] ∧ (SqL K H p ys ∨ SqT K H p ys) ∧ ∀ l, H l = none → Q (.ref l) (upd H l (.lst ys))) (f1 oLst0) := cd1 fun x d F M H Q Q0 hm c r q k => by
  generalize vw M d = d' at c q
  cases d' with
  | lst s => obtain ⟨p, xs, rfl, e, rl⟩ := c; exact ⟨p, xs, rfl, .inl (SqL.of e), newLst hm rl q k⟩
  | tup s => obtain ⟨p, xs, rfl, e, rl⟩ := c; exact ⟨p, xs, rfl, .inr (SqT.of e), newLst hm rl q k⟩
  | _ => exact False.elim q
theorem cd_lst0M : CallD K (fun xs H Q => ∃ p ys, xs = [.ref p] ∧ (SqL K H p ys ∨ SqT K H p ys) ∧ ∀ l, H l = none → Q (.ref l) (upd H l (.lst ys))) (f1 oLst0M) := cd1 fun x d F M H Q Q0 hm c r q k => by
  generalize vw M d = d' at c q
  cases d' with
  | lst s => obtain ⟨p, xs, rfl, e, rl⟩ := c; exact ⟨p, xs, rfl, .inl (SqL.of e), newMut hm rl q k⟩
  | tup s => obtain ⟨p, xs, rfl, e, rl⟩ := c; exact ⟨p, xs, rfl, .inr (SqT.of e), newMut hm rl q k⟩
  | _ => exact False.elim q
theorem de_lstOf {p : Pos} (hg : Gl X "list") (hm : X.mg "list" = none) (ha : DE X E0 Ee e te) (h1 : starEach [e] X.env = (false, eval e X.env) :: starEach [] X.env := by rfl) : DE X E0 Ee (.Call (.Name "list" p) [e] [] pos) (dCallB (f1 oLst0) (dCons te dNil)) :=
  de_callTy call_list_of cd_lst0 hg hm (by decide +kernel) (da_cons ha da_nil h1) (by decide) (by decide) h1
theorem de_lstOfM {p : Pos} (hg : Gl X "list") (hm : X.mg "list" = none) (ha : DE X E0 Ee e te) (h1 : starEach [e] X.env = (false, eval e X.env) :: starEach [] X.env := by rfl) : DE X E0 Ee (.Call (.Name "list" p) [e] [] pos) (dCallB (f1 oLst0M) (dCons te dNil)) :=
  de_callTy call_list_of cd_lst0M hg hm (by decide +kernel) (da_cons ha da_nil h1) (by decide) (by decide) h1
/-- sums, least and greatest, all, any -/
def oSum : D → Mp → (D → Mp → Prop) → Prop := fun d M Q => ∃ ns : List Int, d = .lst (ns.map .int) ∧ Q (.int ns.sum) M
def oMaxL : D → Mp → (D → Mp → Prop) → Prop := fun d M Q => ∃ ns : List Int, d = .lst (ns.map .int) ∧ 0 < ns.length ∧ ∀ m, m ∈ ns → (∀ y, y ∈ ns → y ≤ m) → Q (.int m) M
def oMinL : D → Mp → (D → Mp → Prop) → Prop := fun d M Q => ∃ ns : List Int, d = .lst (ns.map .int) ∧ 0 < ns.length ∧ ∀ m, m ∈ ns → (∀ y, y ∈ ns → m ≤ y) → Q (.int m) M
def oAll : D → Mp → (D → Mp → Prop) → Prop := fun d M Q => ∃ bs : List Bool, d = .lst (bs.map .bl) ∧ Q (.bl (bs.all id)) M
def oAny : D → Mp → (D → Mp → Prop) → Prop := fun d M Q => ∃ bs : List Bool, d = .lst (bs.map .bl) ∧ Q (.bl (bs.any id)) M
theorem cd_sum : CallD K (rSum K) (f1 oSum) := cd1 fun x d F M H Q Q0 hm c r q k => by
  obtain ⟨ns, e, q⟩ := q
  rw [e] at c
  obtain ⟨p, xs, rfl, e1, rl⟩ := c
  rw [RpL.of_ints rl] at e1
  exact ⟨p, ns, rfl, SqL.of e1, k.end hm (.int _) q⟩
theorem cd_maxL : CallD K (rMax K) (f1 oMaxL) := cd1 fun x d F M H Q Q0 hm c r q k => by
  obtain ⟨ns, e, h0, q⟩ := q
  rw [e] at c
  obtain ⟨p, xs, rfl, e1, rl⟩ := c
  rw [RpL.of_ints rl] at e1
  exact ⟨p, ns, rfl, SqL.of e1, h0, fun m a b => k.end hm (.int _) (q m a b)⟩
theorem cd_minL : CallD K (rMin K) (f1 oMinL) := cd1 fun x d F M H Q Q0 hm c r q k => by
  obtain ⟨ns, e, h0, q⟩ := q
  rw [e] at c
  obtain ⟨p, xs, rfl, e1, rl⟩ := c
  rw [RpL.of_ints rl] at e1
  exact ⟨p, ns, rfl, SqL.of e1, h0, fun m a b => k.end hm (.int _) (q m a b)⟩
theorem cd_all : CallD K (rAll K) (f1 oAll) := cd1 fun x d F M H Q Q0 hm c r q k => by
  obtain ⟨ns, e, q⟩ := q
  rw [e] at c
  obtain ⟨p, xs, rfl, e1, rl⟩ := c
  rw [RpL.of_bls rl] at e1
  exact ⟨p, ns, rfl, SqL.of e1, k.end hm (.bl _) q⟩
theorem cd_any : CallD K (rAny K) (f1 oAny) := cd1 fun x d F M H Q Q0 hm c r q k => by
  obtain ⟨ns, e, q⟩ := q
  rw [e] at c
  obtain ⟨p, xs, rfl, e1, rl⟩ := c
  rw [RpL.of_bls rl] at e1
  exact ⟨p, ns, rfl, SqL.of e1, k.end hm (.bl _) q⟩
section
variable {p : Pos} (hc : X.calm = true)
theorem de_sum (hc : X.calm = true) (hg : Gl X "sum") (hm : X.mg "sum" = none) (ha : DE X E0 Ee e te) (h1 : starEach [e] X.env = (false, eval e X.env) :: starEach [] X.env := by rfl) : DE X E0 Ee (.Call (.Name "sum" p) [e] [] pos) (dCallB (f1 oSum) (dCons te dNil)) :=
  de_callB (cr_sum hc) cd_sum hg hm (by decide +kernel) (da_cons ha da_nil h1) (by decide) (by decide) h1
theorem de_maxL (hc : X.calm = true) (hg : Gl X "max") (hm : X.mg "max" = none) (ha : DE X E0 Ee e te) (h1 : starEach [e] X.env = (false, eval e X.env) :: starEach [] X.env := by rfl) : DE X E0 Ee (.Call (.Name "max" p) [e] [] pos) (dCallB (f1 oMaxL) (dCons te dNil)) :=
  de_callB (cr_max hc) cd_maxL hg hm (by decide +kernel) (da_cons ha da_nil h1) (by decide) (by decide) h1
theorem de_minL (hc : X.calm = true) (hg : Gl X "min") (hm : X.mg "min" = none) (ha : DE X E0 Ee e te) (h1 : starEach [e] X.env = (false, eval e X.env) :: starEach [] X.env := by rfl) : DE X E0 Ee (.Call (.Name "min" p) [e] [] pos) (dCallB (f1 oMinL) (dCons te dNil)) :=
  de_callB (cr_min hc) cd_minL hg hm (by decide +kernel) (da_cons ha da_nil h1) (by decide) (by decide) h1
theorem de_all (hc : X.calm = true) (hg : Gl X "all") (hm : X.mg "all" = none) (ha : DE X E0 Ee e te) (h1 : starEach [e] X.env = (false, eval e X.env) :: starEach [] X.env := by rfl) : DE X E0 Ee (.Call (.Name "all" p) [e] [] pos) (dCallB (f1 oAll) (dCons te dNil)) :=
  de_callB (cr_all hc) cd_all hg hm (by decide +kernel) (da_cons ha da_nil h1) (by decide) (by decide) h1
theorem de_any (hc : X.calm = true) (hg : Gl X "any") (hm : X.mg "any" = none) (ha : DE X E0 Ee e te) (h1 : starEach [e] X.env = (false, eval e X.env) :: starEach [] X.env := by rfl) : DE X E0 Ee (.Call (.Name "any" p) [e] [] pos) (dCallB (f1 oAny) (dCons te dNil)) :=
  de_callB (cr_any hc) cd_any hg hm (by decide +kernel) (da_cons ha da_nil h1) (by decide) (by decide) h1
end
def fMax2 : TCb := fun ds M Q => match ds with
  | [.int i, .int j] => Q (.int (if j > i then j else i)) M
  | _ => False
def fMin2 : TCb := fun ds M Q => match ds with
  | [.int i, .int j] => Q (.int (if j < i then j else i)) M
  | _ => False
theorem cd_max2 : CallD K (fun xs H Q => ∃ i j, xs = [.int i, .int j] ∧ Q (.int (if j > i then j else i)) H) fMax2 := fun xs ds F M H Q Q0 hm rl q k => by
  cases rl with
  | nil => exact q.elim
  | cons r1 r2 => cases r2 with
    | nil => cases r1 <;> exact q.elim
    | cons r2 r3 => cases r3 with
      | cons _ _ => cases r1 <;> cases r2 <;> exact q.elim
      | nil =>
        cases r1 with
        | int i => cases r2 with
          | int j => exact ⟨i, j, rfl, k.end hm (.int _) q⟩
          | _ => exact q.elim
        | _ => cases r2 <;> exact q.elim
theorem cd_min2 : CallD K (fun xs H Q => ∃ i j, xs = [.int i, .int j] ∧ Q (.int (if j < i then j else i)) H) fMin2 := fun xs ds F M H Q Q0 hm rl q k => by
  cases rl with
  | nil => exact q.elim
  | cons r1 r2 => cases r2 with
    | nil => cases r1 <;> exact q.elim
    | cons r2 r3 => cases r3 with
      | cons _ _ => cases r1 <;> cases r2 <;> exact q.elim
      | nil =>
        cases r1 with
        | int i => cases r2 with
          | int j => exact ⟨i, j, rfl, k.end hm (.int _) q⟩
          | _ => exact q.elim
        | _ => cases r2 <;> exact q.elim
/-! ### isinstance -/
inductive TN where
  | non | bool | int | str | list | tuple | dict
  deriving DecidableEq
def TN.s : TN → String
  | .non => "NoneType" | .bool => "bool" | .int => "int" | .str => "str" | .list => "list" | .tuple => "tuple" | .dict => "dict"
def tyN : D → Option TN
  | .non => some .non | .bl _ => some .bool | .int _ => some .int | .str _ => some .str
  | .lst _ => some .list | .tup _ => some .tuple | .dic _ => some .dict | .scr _ => some .list
  | _ => none
def isT : TN → TN → Bool
  | .non, .non => true | .bool, .bool => true | .bool, .int => true | .int, .int => true | .str, .str => true | .list, .list => true | .tuple, .tuple => true | .dict, .dict => true
  | _, _ => false
theorem tyN_ok {F H : Hp} {x : V} {d : D} {s : TN} (c : Ct K F H x d) (e : tyN d = some s) : TyX K H x (.type s.s) := by
  cases d with
  | non => cases c; cases e; exact .base .non
  | bl => cases c; cases e; exact .base (.bl _)
  | int => cases c; cases e; exact .base (.int _)
  | str => cases c; cases e; exact .base (.str _)
  | lst => cases e; obtain ⟨p, xs, rfl, e, _⟩ := c; exact .base (.lst e)
  | scr => cases e; obtain ⟨p, rfl, _, e⟩ := c; exact e
  | tup => cases e; obtain ⟨p, xs, rfl, e, _⟩ := c; exact .base (.tup e)
  | dic =>
    cases e; obtain ⟨p, xs, rfl, e, _⟩ := c
    rcases e with e | ⟨o, e⟩
    · exact .base (.dK e)
    · exact .fDict e
  | _ => cases e
theorem kit_ok (a b : TN) (h : b ≠ .non) : kitB a.s b.s = some (isT a b) := by
  cases b with
  | non => exact absurd rfl h
  | _ => cases a <;> decide +kernel
def fIsi (T : TN) : TCb := fun ds M Q => match ds with
  | [d, .ty _] => match tyN (vw M d) with
    | some a => Q (.bl (isT a T)) M
    | none => False
  | _ => False
theorem cd_isi (T : TN) (hT : T ≠ .non) : CallD K (fun xs H Q => (∃ x, xs = [x, .ty T.s]) ∧ rIsi K xs H Q) (fun ds M Q => (∃ d, ds = [d, .ty T.s]) ∧ fIsi T ds M Q) := fun xs ds F M H Q Q0 hm rl q k => by
  obtain ⟨⟨d, rfl⟩, q⟩ := q
  cases rl with
  | cons r1 r2 =>
  cases r2 with
  | cons r2 r3 =>
  cases r3
  cases r2
  rename_i v
  refine ⟨⟨v, rfl⟩, ?_⟩
  have c := Ct.vw hm r1
  simp only [fIsi] at q
  cases e : tyN (vw M d) with
  | none => rw [e] at q; exact q.elim
  | some a =>
    rw [e] at q
    exact ⟨v, .ty T.s, .type a.s, .type T.s, isT a T, rfl, .ty _, tyN_ok c e, kit_ty (kit_ok a T hT), k.end hm (.bl _) q⟩
def dIsi (T : TN) (te : TDE) : TDE := fun ρ M Q => te ρ M fun d M1 => match tyN (vw M1 d) with
  | some a => Q (.bl (isT a T)) M1
  | none => False
theorem de_isi {y : Str} {p p2 : Pos} (T : TN) (hT : T ≠ .non) (hg : Gl X "isinstance") (hm : X.mg "isinstance" = none) (hy : Gl X y) (hmy : X.mg y = none) (hb : bootBuiltins y = some (.type T.s)) (he : DE X E0 Ee e te) (hn : y ≠ "__name__" := by decide) (hdb : (y == ("__debug__" : Str)) = false := by decide)
    (h1 : starEach [e, .Name y p2] X.env = (false, eval e X.env) :: starEach [.Name y p2] X.env := by rfl) (h2 : starEach [.Name y p2] X.env = (false, eval (.Name y p2) X.env) :: starEach [] X.env := by rfl) (hpl : (backTo pos (starEach [.Name y p2] X.env)).any (·.1) = false := by rfl) :
    DE X E0 Ee (.Call (.Name "isinstance" p) [e, .Name y p2] [] pos) (dIsi T te) := by
  have ht : DE X E0 Ee (.Name y p2) (dC (.ty T.s)) := de_c (pe_bltn hy hmy hb (v := .ty T.s) rfl hn hdb) fun _ => .ty _
  refine PEimp (pe_callB call_isi hg hm boot_isinstance (pa_cons he (pa_cons ht pa_nil h2) h1) (by decide) (by decide) h1 hpl) fun σ H Q0 ⟨F, M, ρ, Q, ss, q, k⟩ => ?_
  refine ⟨F, M, ρ, _, ss, q, fun v H1 F1 d M1 s1 r q1 => ⟨F1, M1, ρ, _, ss.step s1, (show dC (.ty T.s) ρ M1 (fun d2 M2 => d2 = .ty T.s ∧ M2 = M1 ∧ fIsi T [d, d2] M2 Q) from ⟨rfl, rfl, q1⟩), fun v2 H2 F2 d2 M2 s2 r2 q2 => ?_⟩⟩
  obtain ⟨rfl, rfl, q2⟩ := q2
  exact (cd_isi T hT [v, v2] [d, .ty T.s] F2 M2 H2 Q Q0 s2.hm (.cons (r.mono s2.fle) (.cons r2 .nil)) ⟨⟨d, rfl⟩, q2⟩ (k.step (s1.trans s2))).2
theorem dt_isi {y : Str} {p p2 : Pos} (T : TN) (hT : T ≠ .non) (hg : Gl X "isinstance") (hm : X.mg "isinstance" = none) (hy : Gl X y) (hmy : X.mg y = none) (hb : bootBuiltins y = some (.type T.s)) (he : DE X E0 Ee e te) (hn : y ≠ "__name__" := by decide) (hdb : (y == ("__debug__" : Str)) = false := by decide)
    (h1 : starEach [e, .Name y p2] X.env = (false, eval e X.env) :: starEach [.Name y p2] X.env := by rfl) (h2 : starEach [.Name y p2] X.env = (false, eval (.Name y p2) X.env) :: starEach [] X.env := by rfl) (hpl : (backTo pos (starEach [.Name y p2] X.env)).any (·.1) = false := by rfl)
    (ht : ∀ whole, isTrue (.Call (.Name "isinstance" p) [e, .Name y p2] [] pos) X.env whole = (do let v ← whole; standAt pos; holding [v] (truthy v)) := by intro _; rfl) :
    DT X E0 Ee (.Call (.Name "isinstance" p) [e, .Name y p2] [] pos) (dTest (dIsi T te)) := dt_val (de_isi T hT hg hm hy hmy hb he hn hdb h1 h2 hpl) ht
end
end DL


set_option Elab.async false
set_option linter.all false
set_option maxRecDepth 100000
set_option maxHeartbeats 4000000
namespace DL
open PySem PySem.Spec PyProof.Rows L2
section
variable {X : Cx} {K : PySem.W.Frag} {E0 : L2.St → XK} {Ee : DEnv → DXK} {a b c e o tg : Expr} {es : List Expr} {ta tb tc te to : TDE} {tr : TDA} {pos apos : Pos} {st : Stmt} {rest : List Stmt} {t u : TDS}
/-! ### join -/
def joinD (a : Cd) : List Cd → Cd
  | [] => []
  | [x] => x
  | x :: r => x ++ a ++ joinD a r
theorem joinD_cons (a x y : Cd) (r : List Cd) : joinD a (x :: y :: r) = x ++ a ++ joinD a (y :: r) := rfl
theorem join_eq (a : Cd) : ∀ ys : List Cd, Txt.join (mkS a) (ys.map mkS) = mkS (joinD a ys) := fun ys => by
  show PySem.Builtin.Str.glued _ _ = _
  rw [StrLaws.glued_eq_join]
  induction ys with
  | nil => rfl
  | cons x r ih =>
    cases r with
    | nil => rfl
    | cons y r =>
      show mkS x ++ mkS a ++ Str.join (mkS a) (mkS y :: r.map mkS) = _
      rw [show Str.join (mkS a) (mkS y :: r.map mkS) = mkS (joinD a (y :: r)) from ih, mkS_app, mkS_app]; rfl
def sumL : List Cd → Nat
  | [] => 0
  | x :: r => x.length + sumL r
theorem sumL_eq : ∀ ys : List Cd, ((ys.map mkS).map (·.length)).sum = sumL ys
  | [] => rfl
  | x :: r => by simp only [List.map_cons, List.sum_cons, sumL]; rw [← sumL_eq r, mkS_len]
def dJoin (to te : TDE) : TDE := fun ρ M Q => to ρ M fun x M1 => te ρ M1 fun y M2 => ∃ a ys, x = .str a ∧ (vw M2 y = .lst (ys.map .str) ∨ vw M2 y = .tup (ys.map .str)) ∧ sumL ys + ys.length * a.length ≤ 16777216 ∧ Q (.str (joinD a ys)) M2
def dJoinAt (x : D) (te : TDE) : TDE := fun ρ M1 Q => te ρ M1 fun y M2 => ∃ a ys, x = .str a ∧ (vw M2 y = .lst (ys.map .str) ∨ vw M2 y = .tup (ys.map .str)) ∧ sumL ys + ys.length * a.length ≤ 16777216 ∧ Q (.str (joinD a ys)) M2
theorem de_join {l : Cd} {x : Str} {j} {p0 : Pos} (hl : mkS l = x) (he : DE X E0 Ee e te) (hs : starEach [e] X.env = [(false, eval e X.env)] := by rfl) (hbase : attributeBase (.Constant (.str x) j p0) "join" X.env (eval (.Constant (.str x) j p0) X.env) = eval (.Constant (.str x) j p0) X.env := by rfl) (hline : (apos.endLine == pos.line) = true := by rfl) :
    DE X E0 Ee (.Call (.Attribute (.Constant (.str x) j p0) "join" apos) [e] [] pos) (dJoinAt (.str l) te) := by
  refine PEimp (pe_join pe_str he hs hbase hline) fun σ H Q0 ⟨F, M, ρ, Q, ss, q, k⟩ => ?_
  refine ⟨⟨x, rfl⟩, F, M, ρ, _, ss, q, fun y H2 F2 dy M2 s2 ry q2 => ?_⟩
  obtain ⟨a, ys, ea, hy, hz, q3⟩ := q2
  cases ea
  have c := Ct.vw s2.hm ry
  have z : (((ys.map mkS).map (·.length)).sum + (ys.map mkS).length * x.length ≤ 16777216) ∧ Q0 (.str (Txt.join x (ys.map mkS))) H2 := by
    subst hl
    refine ⟨?_, ?_⟩
    · rw [sumL_eq, List.length_map, mkS_len]; exact hz
    · rw [join_eq]; exact (k.step s2).end s2.hm (.str _) q3
  rcases hy with hy | hy
  · rw [hy] at c
    obtain ⟨p, xs, rfl, e, rl⟩ := c
    rw [RpL.of_strs rl] at e
    exact ⟨x, p, ys.map mkS, rfl, rfl, .inl (SqL.of e), z⟩
  · rw [hy] at c
    obtain ⟨p, xs, rfl, e, rl⟩ := c
    rw [RpL.of_strs rl] at e
    exact ⟨x, p, ys.map mkS, rfl, rfl, .inr (SqT.of e), z⟩
/-! ### lists changed in place -/
def dApp (to te : TDE) : TDE := fun ρ M Q => to ρ M fun x M1 => ∃ p ds1, x = .ref p ∧ M1 p = some (.lst ds1) ∧ te ρ M1 fun y M2 => ∃ ds, M2 p = some (.lst ds) ∧ ds.length < sizeLine ∧ Q .non (mset M2 p (.lst (ds ++ [y])))
theorem de_app {cpos : Pos} (ho : DE X E0 Ee o to) (he : DE X E0 Ee e te) (hbase : attributeBase o "append" X.env (eval o X.env) = eval o X.env := by rfl)
    (hfew : ((backTo cpos (starEach [e] X.env)).all (fun x => !x.1) && (backToKw cpos (keywordEach [] X.env)).all (fun x => x.1.isSome) && decide ([e].length + ([] : List Keyword).length + (if ([] : List Keyword).isEmpty then 0 else 1) < 30)) = true := by rfl)
    (hline : (apos.endLine == cpos.line) = true := by rfl) (hs : starEach [e] X.env = (false, eval e X.env) :: starEach [] X.env := by rfl) (hplain : (backTo cpos (starEach [] X.env)).any (·.1) = false := by rfl) :
    DE X E0 Ee (.Call (.Attribute o "append" apos) [e] [] cpos) (dApp to te) := by
  refine PEimp (pe_bm PySem.F.plainAttrs_list PySem.F.slot_list_append PySem.F.type_list_append mt_append ho (pa_cons he pa_nil hs) hbase hfew hline hs hplain) fun σ H Q0 ⟨F, M, ρ, Q, ss, q, k⟩ => ?_
  refine ⟨F, M, ρ, _, ss, q, fun x H1 F1 dx M1 s1 rx q1 => ?_⟩
  obtain ⟨p, ds1, rfl, e1, q1⟩ := q1
  obtain ⟨xs1, h1, r1⟩ := (s1.hm.mo p _ e1).2
  cases rx
  refine ⟨.inl ⟨rfl, xs1, SqL.of h1⟩, F1, M1, ρ, _, ss.step s1, q1, fun y H2 F2 dy M2 s2 ry q2 => ?_⟩
  obtain ⟨ds, e2, hz, q3⟩ := q2
  obtain ⟨xs, h2, r2⟩ := (s2.hm.mo p _ e2).2
  refine ⟨p, xs, y, rfl, rfl, h2, by rw [r2.length]; exact hz, ?_⟩
  have s3 := Step.wr s2.hm (o := .lst (xs ++ [y])) (mo := .lst (ds ++ [dy])) e2 (by intro z; cases z) ⟨_, upd_same, r2.app (.cons ry .nil)⟩
  exact k _ _ _ _ _ (s1.trans (s2.trans s3)) .non q3
def dPop (to : TDE) : TDE := fun ρ M Q => to ρ M fun x M1 => ∃ p ds y, x = .ref p ∧ M1 p = some (.lst (ds ++ [y])) ∧ Q y (mset M1 p (.lst ds))
theorem RpL.unsnoc {F : Hp} : ∀ {xs : List V} {ds : List D} {y : D}, RpL K F xs (ds ++ [y]) → ∃ zs v, xs = zs ++ [v] ∧ RpL K F zs ds ∧ Rp K F v y
  | _, [], _, .cons a .nil => ⟨[], _, rfl, .nil, a⟩
  | _, d :: ds, _, .cons a t => by
    obtain ⟨zs, v, rfl, r1, r2⟩ := RpL.unsnoc t
    exact ⟨_ :: zs, v, rfl, .cons a r1, r2⟩
theorem de_pop {cpos : Pos} (ho : DE X E0 Ee o to) (hbase : attributeBase o "pop" X.env (eval o X.env) = eval o X.env := by rfl) (hline : (apos.endLine == cpos.line) = true := by rfl) :
    DE X E0 Ee (.Call (.Attribute o "pop" apos) [] [] cpos) (dPop to) := by
  refine PEimp (pe_bm0 PySem.F.plainAttrs_list PySem.F.slot_list_pop PySem.F.type_list_pop mt_pop ho hbase hline) fun σ H Q0 ⟨F, M, ρ, Q, ss, q, k⟩ => ?_
  refine ⟨F, M, ρ, _, ss, q, fun x H1 F1 dx M1 s1 rx q1 => ?_⟩
  obtain ⟨p, ds, y, rfl, e1, q1⟩ := q1
  obtain ⟨xs, h1, r1⟩ := (s1.hm.mo p _ e1).2
  cases rx
  obtain ⟨zs, v, rfl, r2, r3⟩ := r1.unsnoc
  refine ⟨.inl ⟨rfl, _, SqL.of h1⟩, p, _, v, rfl, rfl, h1, by simp, ?_⟩
  have s3 := Step.wr s1.hm (o := .lst ((zs ++ [v]).dropLast)) (mo := .lst ds) e1 (by intro z; cases z) ⟨_, upd_same, by simpa using r2⟩
  exact k _ _ _ _ _ (s1.trans s3) (r3.mono s3.fle) q1
/-! ### f-strings -/
def dFmt (te : TDE) : TDE := fun ρ M Q => te ρ M fun d M1 => match d with
  | .str y => y.length ≤ sizeLine ∧ Q (.str y) M1
  | .int i => i.natAbs.log2 < 1920 ∧ Q (.str (numS i)) M1
  | _ => False
theorem de_fmt (he : DE X E0 Ee e te) : DE X E0 Ee (.FormattedValue e (-1) none pos) (dFmt te) := PEimp (pe_fmt he) fun σ H Q0 ⟨F, M, ρ, Q, ss, q, k⟩ => by
  refine ⟨F, M, ρ, _, ss, q, fun x H1 F1 dx M1 s1 rx q1 => ?_⟩
  cases rx with
  | str y => exact .inl ⟨_, rfl, by rw [mkS_len]; exact q1.1, k _ _ _ _ _ s1 (.str y) q1.2⟩
  | int i => exact .inr ⟨i, rfl, q1.1, by rw [← mkS_tl (toString i)]; exact k _ _ _ _ _ s1 (.str _) q1.2⟩
  | _ => exact False.elim q1
inductive DJ (X : Cx) (E0 : L2.St → XK) (Ee : DEnv → DXK) : List Expr → List TDE → Prop where
  | nil : DJ X E0 Ee [] []
  | cons {e : Expr} {t : TDE} {es : List Expr} {ts : List TDE} (h : DE X E0 Ee e t) (r : DJ X E0 Ee es ts) : DJ X E0 Ee (e :: es) (t :: ts)
theorem DJ.pj : ∀ {es : List Expr} {ts : List TDE}, DJ X E0 Ee es ts → PJ X es (ts.map (lowE X.K E0 Ee))
  | _, _, .nil => .nil
  | _, _, .cons h r => .cons h r.pj
def dJs : List TDE → Cd → DEnv → Mp → (Cd → Mp → Prop) → Prop
  | [], acc, _, M, Q => Q acc M
  | t :: ts, acc, ρ, M, Q => t ρ M fun d M1 => match d with
    | .str y => (acc ++ y).length ≤ sizeLine ∧ dJs ts (acc ++ y) ρ M1 Q
    | _ => False
theorem js_low : ∀ {ts : List TDE} {acc : Cd} {σ : L2.St} {H F : Hp} {M : Mp} {ρ : DEnv} {Q : Cd → Mp → Prop} {Q0 : Str → Hp → Prop}, SS K E0 Ee σ H F M ρ → dJs ts acc ρ M Q → (∀ c F' M' H', Step K F M H F' M' H' → Q c M' → Q0 (mkS c) H') → tJs (ts.map (lowE K E0 Ee)) (mkS acc) σ H Q0
  | [], acc, σ, H, F, M, ρ, Q, Q0, ss, q, k => k acc F M H (.refl ss.hm) q
  | t :: ts, acc, σ, H, F, M, ρ, Q, Q0, ss, q, k => by
    refine ⟨F, M, ρ, _, ss, q, fun x H1 F1 dx M1 s1 rx q1 => ?_⟩
    cases rx with
    | str y =>
      refine ⟨_, rfl, by rw [mkS_app, mkS_len]; exact q1.1, ?_⟩
      rw [mkS_app]
      exact js_low (ss.step s1) q1.2 fun c F' M' H' s2 q2 => k c F' M' H' (s1.trans s2) q2
    | _ => exact False.elim q1
def dJoined (ts : List TDE) : TDE := fun ρ M Q => dJs ts [] ρ M fun c M1 => Q (.str c) M1
theorem de_joined {v1 v2 : Expr} {rest : List Expr} {ts : List TDE} (h : DJ X E0 Ee (v1 :: v2 :: rest) ts) : DE X E0 Ee (.JoinedStr (v1 :: v2 :: rest) pos) (dJoined ts) := PEimp (pe_joined h.pj) fun σ H Q0 ⟨F, M, ρ, Q, ss, q, k⟩ =>
  js_low ss q fun c F' M' H' s q' => k _ _ _ _ _ s (.str c) q'
end
/-! ### functions -/
abbrev DSp := List D → Mp → (D → Mp → Prop) → DXK → Prop
def lift (K : PySem.W.Frag) (sp : DSp) : Sp := fun vs H Q0 E => ∃ F M ds Q Ed, HM K F M H ∧ RpL K F vs ds ∧ sp ds M Q Ed ∧ KE K F M H Q Q0 ∧
  ∀ F' M' H' C d xs ds, Step K F M H F' M' H' → XAt H' d xs → RpF K F' xs ds → Ed C ds M' → E (.ref C) d H'
section
variable {X : Cx} {E0 : L2.St → XK} {Ee : DEnv → DXK} {k : Nat} {f : Addr} {fd : FuncData} {ps : List Str} {sp : DSp} {x : Str} {p pos : Pos} {e : Expr} {es : List Expr} {tr : TDA}
def dCall (sp : DSp) (Ee : DEnv → DXK) (tr : TDA) : TDE := fun ρ M Q => tr ρ M fun ds M1 => sp ds M1 Q (Ee ρ)
theorem call_low {K : PySem.W.Frag} {σ : L2.St} {H F : Hp} {M : Mp} {ρ : DEnv} {vs : List V} {ds : List D} {Q : D → Mp → Prop} {Q0 : VK} (ss : SS K E0 Ee σ H F M ρ) (r : RpL K F vs ds) (q : sp ds M Q (Ee ρ)) (k : KE K F M H Q Q0) : lift K sp vs H Q0 (E0 σ) :=
  ⟨F, M, ds, Q, Ee ρ, ss.hm, r, q, k, fun F' M' H' C d xs dd s xa rf ed => ss.xc F' M' H' σ ρ C d xs dd s (ss.env.mono s.fle) xa rf ed⟩
theorem de_call {CX : CXT} (F : FnOk X.prog X.w X.K X.mg X.base CX k f fd ps (lift X.K sp)) (hr : Room k X.A) (hg : Gl X x) (hm : X.mg x = some (.ref f)) (hk : PySem.W.keepIn X.K (.ref f) = true) (hb : Binds X.K fd ps []) (hx : ∀ σ, PassesAt CX X σ (E0 σ))
    (ha : DA X E0 Ee (e :: es) tr) (hdb : (x == ("__debug__" : Str)) = false := by decide) (he : starEach (e :: es) X.env = (false, eval e X.env) :: starEach es X.env := by rfl) (hpl : (backTo pos (starEach es X.env)).any (·.1) = false := by rfl) :
    DE X E0 Ee (.Call (.Name x p) (e :: es) [] pos) (dCall sp Ee tr) := PEimp (pe_callS F hr hg hm hk hb hx ha hdb he hpl) fun σ H Q0 ⟨F, M, ρ, Q, ss, q, k⟩ =>
  ⟨F, M, ρ, _, ss, q, fun vs H1 F1 ds M1 s1 r q1 => call_low (ss.step s1) r q1 (k.step s1)⟩
theorem no_pass {P : Program} {w : World} {X : Cx} (σ : L2.St) : PassesAt (L2.CX P w) X σ (EN σ) := fun _ _ _ _ _ _ c => by
  obtain ⟨_, _, _, _, _, _, _, _, _, _, _, _, z⟩ := c
  exact z.elim
end
def dstart (n : Nat) (ds : List D) : DEnv := ds.map some ++ List.replicate (n - ds.length) none
theorem dstart_ok {K : PySem.W.Frag} {F : Hp} {N : List Str} {vs : List V} {ds : List D} (r : RpL K F vs ds) : RpE K F (start N vs) (dstart N.length ds) := by
  refine ⟨by simp only [L2.start, dstart, List.length_append, List.length_map, List.length_replicate, r.length], fun i d q => ?_⟩
  have key : ∀ (l : List D) (m i : Nat), rget (l.map some ++ List.replicate m none) i = some d → l[i]? = some d := by
    intro l
    induction l with
    | nil =>
      intro m i h
      exfalso
      simp only [List.map_nil, List.nil_append] at h
      induction m generalizing i with
      | zero => cases h
      | succ m ih =>
        cases i with
        | zero => cases h
        | succ i => exact ih i h
    | cons y l ih =>
      intro m i h
      cases i with
      | zero => exact h
      | succ i => exact ih m i h
  obtain ⟨v, hv, rv⟩ := r.at (key _ _ _ q)
  refine ⟨v, ?_, rv⟩
  have hlt : i < vs.length := by
    rcases Nat.lt_or_ge i vs.length with h | h
    · exact h
    · rw [List.getElem?_eq_none h] at hv; cases hv
  unfold L2.start
  rw [List.getElem?_append_left (by simpa using hlt), List.getElem?_map, hv]; rfl
section
variable {P : Program} {w : World} {K : PySem.W.Frag} {mg : Str → Option Value} {base : Heap} {x qual : Str} {params : Arguments} {body : List Stmt} {scope : Scope} {dvs : List V} {kws : List (Str × V)} {f : Addr} {fd : FuncData}
/-- THE RULE for a def -/
theorem dfn {N ps : List Str} {k : Nat} {sp : DSp} (F : FunD K x qual params body scope dvs kws f fd) (S : FnScope N ps scope) (len : ∀ ds M Q E, sp ds M Q E → ds.length = ps.length)
    (hbody : ∀ (cdv : Value) (A : Around) (outer : List Env) (s : Shared) (H : Hp) (E : XK) (Ed : DXK), Room k (A.deeper (envOfC qual scope s.heap.objs.size f cdv)) →
      ∃ t, DSs (cxOf (L2.CX P w) P w K mg base N qual scope f cdv A outer s H E) (fun _ => E) (fun _ C fs M' => ∃ M'', Sub M'' M' ∧ Ed C fs M'') body t ∧
        ∀ ds M Q, Sub M M → sp ds M Q Ed → t { nx := fun _ M' => ∃ M'', Sub M'' M' ∧ Q .non M'', rt := fun d M' => ∃ M'', Sub M'' M' ∧ Q d M'' } (dstart N.length ds) M) :
    FnOk P w K mg base (L2.CX P w) (k + 1) f fd ps (lift K sp) := by
  refine F.ok S (fun vs H Q E h => ?_) fun cdv A outer s H vs Q0 E hr h => ?_
  · obtain ⟨F, M, ds, Q, Ed, hm, r, q, _⟩ := h
    rw [r.length]; exact len _ _ _ _ q
  · obtain ⟨F, M, ds, Q, Ed, hm, r, q, kk, xk⟩ := h
    obtain ⟨t, ht, hq⟩ := hbody cdv A outer s H E Ed hr
    refine ⟨_, ht, F, M, _, _, ⟨hm, dstart_ok r, fun F' M' H' σ ρ C d xs dd s _ xa rf ⟨M'', sb, ed⟩ => xk F' M'' H' C d xs dd (s.drop sb) xa rf ed⟩, hq ds M Q hm.closed q, ?_⟩
    exact ⟨fun σ' H' F' ρ' M' s' _ ⟨M'', sb, q'⟩ => kk _ _ _ _ _ (s'.drop sb) .non q', fun v H' F' d M' s' r' ⟨M'', sb, q'⟩ => kk _ _ _ _ _ (s'.drop sb) r' q', fun _ _ _ _ _ _ _ z => z, fun _ _ _ _ _ _ _ z => z⟩
end
end DL


set_option Elab.async false
set_option linter.all false
set_option maxRecDepth 100000
set_option maxHeartbeats 4000000
namespace DL
open PySem PySem.Spec PyProof.Rows L2
theorem Rm64 {k : Nat} {A : Around} (r : Room k A) : A.units + 64 < cLine := r.units
theorem Rm65 {k : Nat} {A : Around} (r : Room k A) : A.units + 65 < cLine := by have := r.un; omega
theorem Rm1 {k : Nat} {A : Around} (r : Room k A) : A.units + 1 < cLine := by have := r.un; omega
section
variable {X : Cx} {K : PySem.W.Frag} {E0 : L2.St → XK} {Ee : DEnv → DXK} {a b c e o tg : Expr} {es : List Expr} {ta tb tc te to : TDE} {tr : TDA} {pos apos : Pos} {st : Stmt} {rest : List Stmt} {t u : TDS}
theorem vr (i : Nat) {x : Str} (hN : X.N[i]? = some x := by rfl) (hv : Vis X.env.scope x := by first | exact Or.inl rfl | exact Or.inr (Or.inl rfl) | exact Or.inr (Or.inr rfl)) (hd : (x == ("__debug__" : Str)) = false := by decide) (hcd : (x == ("__classdict__" : Str)) = false := by decide) :
    DE X E0 Ee (.Name x pos) (dVar i) := de_pv (pe_var hN hv hd hcd)
theorem gN (i : Nat) {x : Str} (hN : X.N.Nodup) (hi : X.N[i]? = some x := by rfl) (hx : Loc X.env.scope x := by first | exact Or.inl rfl | exact Or.inr rfl) (hf : X.fn x = true ∨ X.env.scope.names.lookup x = some .local := by first | exact .inl rfl | exact .inr rfl) : DG X E0 Ee [i] (.Name x pos) (gNm i) := dg_name hN hi hx hf
theorem sSet (i : Nat) {x : Str} {pos' : Pos} (hN : X.N.Nodup) (he : DE X E0 Ee e te) (hi : X.N[i]? = some x := by rfl) (hx : Loc X.env.scope x := by first | exact Or.inl rfl | exact Or.inr rfl) (hs : swapsWith e (some (.Name x pos')) pos.line X.env = pure false := by rfl) (hf : X.fn x = true ∨ X.env.scope.names.lookup x = some .local := by first | exact .inl rfl | exact .inr rfl) :
    DS X E0 Ee (.Assign [.Name x pos'] e pos) (dSet i te) := ds_set hN hi hx he hs hf
theorem od_str {K : PySem.W.Frag} : OpD K (fun x y H Q => (∃ i j, x = .int i ∧ y = .int j ∧ Q (.int (i + j)) H) ∨ (∃ i j, x = .str i ∧ y = .str j ∧ i.length + j.length ≤ sizeLine ∧ Q (.str (i ++ j)) H)) (fun x y M Q => match x, y with
    | .int i, .int j => Q (.int (i + j)) M
    | .str a, .str b => a.length + b.length ≤ sizeLine ∧ Q (.str (a ++ b)) M
    | _, _ => False) := by
  intro x y dx dy F M H Q Q0 hm cx cy q k
  cases dx with
  | int i => cases dy with
    | int j => cases cx; cases cy; exact .inl ⟨i, j, rfl, rfl, k.end hm (.int _) q⟩
    | _ => exact False.elim q
  | str i => cases dy with
    | str j => cases cx; cases cy; exact .inr ⟨_, _, rfl, rfl, by rw [mkS_len, mkS_len]; exact q.1, by rw [mkS_app]; exact k.end hm (.str _) q.2⟩
    | _ => exact False.elim q
  | _ => exact False.elim q
def oIadd : TOp := fun x y M Q => match x, y with
    | .int i, .int j => Q (.int (i + j)) M
    | .str a, .str b => a.length + b.length ≤ sizeLine ∧ Q (.str (a ++ b)) M
    | _, _ => False
theorem sAdd (i : Nat) {x : Str} {pos' : Pos} (hN : X.N.Nodup) (he : DE X E0 Ee e te) (hi : X.N[i]? = some x := by rfl) (hx : Loc X.env.scope x := by first | exact Or.inl rfl | exact Or.inr rfl) (hf : X.fn x = true ∨ X.env.scope.names.lookup x = some .local := by first | exact .inl rfl | exact .inr rfl) :
    DS X E0 Ee (.AugAssign (.Name x pos') .Add e pos) (dAug i oIadd te) := ds_aug (iop_add.or iop_add_str) od_str hN hi hx he hf
theorem sSub (i : Nat) {x : Str} {pos' : Pos} (hN : X.N.Nodup) (he : DE X E0 Ee e te) (hi : X.N[i]? = some x := by rfl) (hx : Loc X.env.scope x := by first | exact Or.inl rfl | exact Or.inr rfl) (hf : X.fn x = true ∨ X.env.scope.names.lookup x = some .local := by first | exact .inl rfl | exact .inr rfl) :
    DS X E0 Ee (.AugAssign (.Name x pos') .Sub e pos) (dAug i oSub te) := ds_aug iop_sub od_sub hN hi hx he hf
theorem sMul (i : Nat) {x : Str} {pos' : Pos} (hN : X.N.Nodup) (he : DE X E0 Ee e te) (hi : X.N[i]? = some x := by rfl) (hx : Loc X.env.scope x := by first | exact Or.inl rfl | exact Or.inr rfl) (hf : X.fn x = true ∨ X.env.scope.names.lookup x = some .local := by first | exact .inl rfl | exact .inr rfl) :
    DS X E0 Ee (.AugAssign (.Name x pos') .Mult e pos) (dAug i (fun x y M Q => match x, y with
    | .int i, .int j => CMul i j ∧ Q (.int (i * j)) M
    | _, _ => False) te) := ds_aug iop_mul (fun x y dx dy F M H Q Q0 hm cx cy q k => by
      cases dx with
      | int i => cases dy with
        | int j => cases cx; cases cy; exact ⟨i, j, rfl, rfl, q.1, k.end hm (.int _) q.2⟩
        | _ => exact False.elim q
      | _ => exact False.elim q) hN hi hx he hf
theorem dFor1 {iter : Expr} {body : List Stmt} {ti : TDA} {vs : List Nat} {g : TDG} (hp : PassesOwn (model X.prog X.w) X.A X.env X.xe) (hi : DI X E0 Ee tg iter ti) (hg : DG X E0 Ee vs tg g) (hb : DSs X E0 Ee body t) (hc : X.calm = true := by rfl)
    (hs : ∀ x, foldedSetIterable iter X.env x = pure x := by intro _; rfl) : DS X E0 Ee (.For tg iter body [] pos) (dFor ti g t) := ds_for hp hc hi hg hb hs
theorem cTrue {j} : DT X E0 Ee (.Constant (.bool true) j pos) (dTest (dC (.bl true))) := dt_val de_bl
theorem d107 {p1 p2 : Pos} {j1 j2} : DE X E0 Ee (.BinOp (.Constant (.int 10) j1 p1) .Pow (.Constant (.int 7) j2 p2) pos) (dOp oPow (dC (.int 10)) (dC (.int 7))) := de_pow de_int de_int
end
/-- a def of the program, by its name -/
def Fn (P : Program) (w : World) (K : PySem.W.Frag) (mg : Str → Option Value) (base : Heap) (k : Nat) (x : Str) (ps : List Str) (sp : DSp) : Prop :=
  ∃ (f : Addr) (fd : FuncData), FnOk P w K mg base (L2.CX P w) k f fd ps (lift K sp) ∧ mg x = some (.ref f) ∧ PySem.W.keepIn K (.ref f) = true ∧ Binds K fd ps []
section
variable {X : Cx} {E0 : L2.St → XK} {Ee : DEnv → DXK} {k j : Nat} {ps : List Str} {sp : DSp} {x : Str} {p pos : Pos} {e : Expr} {es : List Expr} {tr : TDA}
theorem cF (F : Fn X.prog X.w X.K X.mg X.base j x ps sp) (hr : Room k X.A) (hj : j ≤ k) (hg : Gl X x) (hx : ∀ σ, PassesAt (L2.CX X.prog X.w) X σ (E0 σ))
    (ha : DA X E0 Ee (e :: es) tr) (hdb : (x == ("__debug__" : Str)) = false := by decide) (he : starEach (e :: es) X.env = (false, eval e X.env) :: starEach es X.env := by rfl) (hpl : (backTo pos (starEach es X.env)).any (·.1) = false := by rfl) :
    DE X E0 Ee (.Call (.Name x p) (e :: es) [] pos) (dCall sp Ee tr) := by
  obtain ⟨f, fd, F, hm, hk, hb⟩ := F
  exact de_call F (hr.mono hj) hg hm hk hb hx ha hdb he hpl
theorem Fn.mono {P : Program} {w : World} {K : PySem.W.Frag} {mg : Str → Option Value} {base : Heap} (F : Fn P w K mg base j x ps sp) (h : j ≤ k) : Fn P w K mg base k x ps sp := by
  obtain ⟨f, fd, F, hm, hk, hb⟩ := F
  exact ⟨f, fd, F.mono h, hm, hk, hb⟩
end
/-- the data at the start: a def's own slots -/
theorem sub_ret {M : Mp} {Q : D → Mp → Prop} {d : D} (cl : Sub M M) (q : Q d M) : ∃ M'', Sub M'' M ∧ Q d M'' := ⟨M, cl, q⟩
end DL


set_option Elab.async false
set_option linter.all false
set_option maxRecDepth 100000
set_option maxHeartbeats 4000000
namespace DL
open PySem PySem.Spec PyProof.Rows L2
/-! ### stores o[i] = v -/
section
variable {κ : Type} [DecidableEq κ]
def dpu (kvs : List (κ × D)) (k : κ) (d : D) : List (κ × D) := if (kvs.any fun kv => decide (kv.1 = k)) = true then kvs.map (fun kv => if kv.1 = k then (kv.1, d) else kv) else kvs ++ [(k, d)]
theorem dlk_cons {j k : κ} {x : D} {r : List (κ × D)} : dlk ((j, x) :: r) k = if j = k then some x else dlk r k := rfl
theorem dlk_map {kvs : List (κ × D)} {k j : κ} {d : D} : dlk (kvs.map (fun kv => if kv.1 = k then (kv.1, d) else kv)) j = if j = k then (dlk kvs j).map (fun _ => d) else dlk kvs j := by
  induction kvs with
  | nil => simp [dlk]
  | cons p r ih =>
    obtain ⟨i, x⟩ := p
    rw [List.map_cons]
    by_cases h : i = k
    · simp only [h, if_true, dlk_cons]
      by_cases e : k = j
      · subst e; simp
      · simp only [e, if_false, ih]
    · simp only [h, if_false, dlk_cons]
      by_cases e : i = j
      · subst e; simp [h]
      · simp only [e, if_false, ih]
theorem dlk_app {kvs r : List (κ × D)} {j : κ} : dlk (kvs ++ r) j = (dlk kvs j).or (dlk r j) := by
  induction kvs with
  | nil => simp [dlk]
  | cons p t ih =>
    obtain ⟨i, x⟩ := p
    rw [List.cons_append, dlk_cons, dlk_cons, ih]
    split <;> simp
theorem dlk_none {kvs : List (κ × D)} {k : κ} : (kvs.any fun kv => decide (kv.1 = k)) = (dlk kvs k).isSome := by
  induction kvs with
  | nil => rfl
  | cons p r ih =>
    obtain ⟨i, x⟩ := p
    rw [List.any_cons, ih, dlk_cons]
    by_cases h : i = k <;> simp [h]
theorem dlk_dpu {kvs : List (κ × D)} {k j : κ} {d : D} : dlk (dpu kvs k d) j = if j = k then some d else dlk kvs j := by
  unfold dpu
  rw [dlk_none]
  by_cases e : j = k
  · subst e
    cases h : dlk kvs j with
    | none => simp [dlk_app, h, dlk]
    | some x => simp [dlk_map, h]
  · cases h : dlk kvs k with
    | none => simp [dlk_app, dlk, e, Ne.symm e]
    | some x => simp [dlk_map, e]
end
section
variable {K : PySem.W.Frag} {F : Hp}
theorem RpK.app : ∀ {xs ys : List (Key × V)} {ds es : List (DK × D)}, RpK K F xs ds → RpK K F ys es → RpK K F (xs ++ ys) (ds ++ es)
  | _, _, _, _, .nil, b => b
  | _, _, _, _, .cons a t, b => .cons a (RpK.app t b)
theorem RpK.any : ∀ {xs : List (Key × V)} {ds : List (DK × D)} (k : DK), RpK K F xs ds → (xs.any fun kv => decide (kv.1 = toK k)) = (ds.any fun kv => decide (kv.1 = k))
  | _, _, _, .nil => rfl
  | _, _, k, .cons (k := j) _ t => by
    rw [List.any_cons, List.any_cons, RpK.any k t]
    have e : decide (toK j = toK k) = decide (j = k) := decide_eq_decide.mpr ⟨toK_inj, fun h => by rw [h]⟩
    rw [e]
theorem RpK.mapk : ∀ {xs : List (Key × V)} {ds : List (DK × D)} (k : DK) {v : V} {d : D}, RpK K F xs ds → Rp K F v d → RpK K F (xs.map (fun kv => if kv.1 = toK k then (kv.1, v) else kv)) (ds.map (fun kv => if kv.1 = k then (kv.1, d) else kv))
  | _, _, _, _, _, .nil, _ => .nil
  | _, _, k, _, _, .cons (k := j) a t, r => by
    rw [List.map_cons, List.map_cons]
    by_cases e : j = k
    · subst e; simp only [if_true]; exact .cons r (RpK.mapk j t r)
    · have e' : ¬ toK j = toK k := fun z => e (toK_inj z)
      simp only [e, e', if_false]; exact .cons a (RpK.mapk k t r)
theorem RpK.put {xs : List (Key × V)} {ds : List (DK × D)} {k : DK} {v : V} {d : D} (r : RpK K F xs ds) (rv : Rp K F v d) : RpK K F (putK xs (toK k) v) (dpu ds k d) := by
  unfold putK dpu
  rw [r.any k]
  split
  · exact r.mapk k rv
  · exact r.app (.cons rv .nil)
theorem RpT.app : ∀ {xs ys : List (List Key × V)} {ds es : List (List DK × D)}, RpT K F xs ds → RpT K F ys es → RpT K F (xs ++ ys) (ds ++ es)
  | _, _, _, _, .nil, b => b
  | _, _, _, _, .cons a t, b => .cons a (RpT.app t b)
theorem RpT.any : ∀ {xs : List (List Key × V)} {ds : List (List DK × D)} (k : List DK), RpT K F xs ds → (xs.any fun kv => decide (kv.1 = k.map toK)) = (ds.any fun kv => decide (kv.1 = k))
  | _, _, _, .nil => rfl
  | _, _, k, .cons (k := j) _ t => by
    rw [List.any_cons, List.any_cons, RpT.any k t]
    have e : decide (j.map toK = k.map toK) = decide (j = k) := decide_eq_decide.mpr ⟨toKs_inj, fun h => by rw [h]⟩
    rw [e]
theorem RpT.mapk : ∀ {xs : List (List Key × V)} {ds : List (List DK × D)} (k : List DK) {v : V} {d : D}, RpT K F xs ds → Rp K F v d → RpT K F (xs.map (fun kv => if kv.1 = k.map toK then (kv.1, v) else kv)) (ds.map (fun kv => if kv.1 = k then (kv.1, d) else kv))
  | _, _, _, _, _, .nil, _ => .nil
  | _, _, k, _, _, .cons (k := j) a t, r => by
    rw [List.map_cons, List.map_cons]
    by_cases e : j = k
    · subst e; simp only [if_true]; exact .cons r (RpT.mapk j t r)
    · have e' : ¬ j.map toK = k.map toK := fun z => e (toKs_inj z)
      simp only [e, e', if_false]; exact .cons a (RpT.mapk k t r)
theorem RpT.put {xs : List (List Key × V)} {ds : List (List DK × D)} {k : List DK} {v : V} {d : D} (r : RpT K F xs ds) (rv : Rp K F v d) : RpT K F (putK xs (k.map toK) v) (dpu ds k d) := by
  unfold putK dpu
  rw [r.any k]
  split
  · exact r.mapk k rv
  · exact r.app (.cons rv .nil)
theorem RpK.len {xs : List (Key × V)} {ds : List (DK × D)} (r : RpK K F xs ds) : xs.length = ds.length := by
  induction xs generalizing ds with
  | nil => cases r; rfl
  | cons x xs ih => cases r with | cons a t => simp [ih t]
theorem RpT.len {xs : List (List Key × V)} {ds : List (List DK × D)} (r : RpT K F xs ds) : xs.length = ds.length := by
  induction xs generalizing ds with
  | nil => cases r; rfl
  | cons x xs ih => cases r with | cons a t => simp [ih t]
end
section
variable {X : Cx} {K : PySem.W.Frag} {E0 : L2.St → XK} {Ee : DEnv → DXK} {a b c e o i tg : Expr} {es : List Expr} {ta tb tc te to ti : TDE} {tr : TDA} {pos apos : Pos} {st : Stmt} {rest : List Stmt} {t u : TDS}
def setMO : MO → D → D → Mp → (MO → Prop) → Prop
  | .lst ds, .int k, d, M, Q => ∃ j, ixN ds.length k = some j ∧ Q (.lst (ds.set j d))
  | .dic kvs, i, d, M, Q => ∃ k, dkey i = some k ∧ kvs.length < sizeLine ∧ Q (.dic (dpu kvs k d))
  | .dit kvs, .tup is, d, M, Q => ∃ k, dkeys is = some k ∧ kvs.length < sizeLine ∧ Q (.dit (dpu kvs k d))
  | _, _, _, _, _ => False
def gSb (to ti : TDE) : TDG := fun d ρ M Q => to ρ M fun o M1 => ti ρ M1 fun i M2 => ∃ p mo, o = .ref p ∧ M2 p = some mo ∧ setMO mo i d M2 fun mo' => Q ρ (mset M2 p mo')
theorem set_ld (hu : X.A.units + 1 < cLine) : PSet X (fun o i v H Q => rSetL o i v H Q ∨ rSetD o i v H Q) := by
  intro pins s σ H o i v ov iv u Q I ro ri rv h
  rcases h with h | h
  · exact set_list pins s σ H o i v ov iv u Q I ro ri rv h
  · exact set_dict hu pins s σ H o i v ov iv u Q I ro ri rv h
theorem gSub (hu : X.A.units + 1 < cLine) (ho : DE X E0 Ee o to) (hi : DE X E0 Ee i ti)
    (ha : ∀ v, assign (.Subscript o i pos) X.env v = (do
      let ov ← holding [v] (eval o X.env)
      let iv ← holding [v, ov] (eval i X.env)
      standAt pos
      holding [v, ov, iv] (setItem ov iv v)
      release [v, ov, iv] []) := by intro _; rfl) : DG X E0 Ee [] (.Subscript o i pos) (gSb to ti) := PGimp (pg_sub ho hi (set_ld hu) ha) fun v σ H Q0 ⟨F, M, ρ, d, Q, ss, rv, q, k⟩ => by
  refine ⟨F, M, ρ, _, ss, q, fun ov H1 F1 dO M1 s1 ro q1 => ⟨F1, M1, ρ, _, ss.step s1, q1, fun iv H2 F2 dI M2 s2 ri q2 => ?_⟩⟩
  obtain ⟨p, mo, rfl, e, q3⟩ := q2
  cases ro
  have st := s1.trans s2
  have rv2 := rv.mono st.fle
  have nh : mo ≠ .hid := by intro z; subst z; exact q3.elim
  have fin : ∀ (o' : HO) (mo' : MO), MOk X.K F2 (upd H2 p o') (mset M2 p mo') p mo' → Q ρ (mset M2 p mo') → Q0 σ (upd H2 p o') := fun o' mo' mk qq =>
    have s3 := Step.wr s2.hm e nh mk
    k _ _ _ _ _ (st.trans s3) (ss.env.mono (st.trans s3).fle) (fun _ _ => rfl) qq
  have z := (s2.hm.mo p _ e).2
  cases mo with
  | lst ds =>
    cases dI with
    | int kk =>
      obtain ⟨j, hj, q4⟩ := q3
      obtain ⟨xs, h1, r1⟩ := z
      cases ri
      exact .inl ⟨p, xs, kk, j, rfl, rfl, h1, by rw [r1.length]; exact hj, fin _ (.lst (ds.set j d)) ⟨_, upd_same, r1.set j rv2⟩ q4⟩
    | _ => exact False.elim q3
  | dic ds =>
    have q3' : ∃ k, dkey dI = some k ∧ ds.length < sizeLine ∧ Q ρ (mset M2 p (.dic (dpu ds k d))) := q3
    obtain ⟨kk, hk, hz, q4⟩ := q3'
    obtain ⟨xs, h1, r1⟩ := z
    have ey := dkey_rp ri hk
    exact .inr ⟨p, _, rfl, .inl ⟨xs, toK kk, h1, ey, by rw [r1.len]; exact hz, rfl⟩, fin _ (.dic (dpu ds kk d)) ⟨_, upd_same, r1.put rv2⟩ q4⟩
  | dit ds =>
    cases dI with
    | tup is =>
      obtain ⟨kk, hk, hz, q4⟩ := q3
      obtain ⟨xs, h1, r1⟩ := z
      obtain ⟨b, ys, rfl, hb, rb⟩ := Ct.of s2.hm.le ri
      rw [dkeys_rp rb hk] at hb
      exact .inr ⟨p, _, rfl, .inr ⟨xs, kk.map toK, b, h1, rfl, hb, by rw [r1.len]; exact hz, rfl⟩, fin _ (.dit (dpu ds kk d)) ⟨_, upd_same, r1.put rv2⟩ q4⟩
    | _ => exact False.elim q3
  | ins C fs => exact q3.elim
  | src c => exact q3.elim
  | hid => exact q3.elim
end
/-! ### dict displays with texts and ints as keys -/
def dPairs : List (TDE × TDE) → DEnv → Mp → (List (D × D) → Mp → Prop) → Prop
  | [], _, M, Q => Q [] M
  | (tk, tv) :: r, ρ, M, Q => tk ρ M fun x M1 => tv ρ M1 fun y M2 => dPairs r ρ M2 fun ps M3 => Q ((x, y) :: ps) M3
section
variable {X : Cx} {E0 : L2.St → XK} {Ee : DEnv → DXK}
inductive DPs (X : Cx) (E0 : L2.St → XK) (Ee : DEnv → DXK) (pos : Pos) : List (Option Expr) → List Expr → List (TDE × TDE) → Prop where
  | nil : DPs X E0 Ee pos [] [] []
  | cons {k v : Expr} {ks : List (Option Expr)} {vs : List Expr} {tk tv : TDE} {trs : List (TDE × TDE)} (hk : DE X E0 Ee k tk) (hv : DE X E0 Ee v tv) (hr : DPs X E0 Ee pos ks vs trs) : DPs X E0 Ee pos (some k :: ks) (v :: vs) ((tk, tv) :: trs)
def lowPs (K : PySem.W.Frag) (E0 : L2.St → XK) (Ee : DEnv → DXK) : List (TDE × TDE) → List (TE × TE)
  | [] => []
  | (a, b) :: r => (lowE K E0 Ee a, lowE K E0 Ee b) :: lowPs K E0 Ee r
theorem DPs.pp {pos : Pos} : ∀ {ks : List (Option Expr)} {vs : List Expr} {ts : List (TDE × TDE)}, DPs X E0 Ee pos ks vs ts → PPs X pos ks vs (lowPs X.K E0 Ee ts)
  | _, _, _, .nil => pps_nil
  | _, _, _, .cons hk hv hr => pps_cons hk hv hr.pp
inductive RpP (K : PySem.W.Frag) (F : Hp) : List (V × V) → List (D × D) → Prop where
  | nil : RpP K F [] []
  | cons {x y : V} {dx dy : D} {r : List (V × V)} {s : List (D × D)} : Rp K F x dx → Rp K F y dy → RpP K F r s → RpP K F ((x, y) :: r) ((dx, dy) :: s)
theorem ps_low {K : PySem.W.Frag} : ∀ {ts : List (TDE × TDE)} {σ : L2.St} {H F : Hp} {M : Mp} {ρ : DEnv} {Q : List (D × D) → Mp → Prop} {Q0 : List (V × V) → Hp → Prop}, SS K E0 Ee σ H F M ρ → dPairs ts ρ M Q →
    (∀ ps ds F' M' H', Step K F M H F' M' H' → RpP K F' ps ds → Q ds M' → Q0 ps H') → tPairs (lowPs K E0 Ee ts) σ H Q0
  | [], σ, H, F, M, ρ, Q, Q0, ss, q, k => k [] [] F M H (.refl ss.hm) .nil q
  | (tk, tv) :: ts, σ, H, F, M, ρ, Q, Q0, ss, q, k => by
    refine ⟨F, M, ρ, _, ss, q, fun x H1 F1 dx M1 s1 rx q1 => ⟨F1, M1, ρ, _, ss.step s1, q1, fun y H2 F2 dy M2 s2 ry q2 => ?_⟩⟩
    refine ps_low ((ss.step s1).step s2) q2 fun ps ds F' M' H' s3 rp q3 => ?_
    exact k _ _ _ _ _ (s1.trans (s2.trans s3)) (.cons (rx.mono (s2.trans s3).fle) (ry.mono s3.fle) rp) q3
def keyD : List (D × D) → Option (List (DK × D))
  | [] => some []
  | (x, y) :: r => match dkey x, keyD r with
    | some k, some ks => some ((k, y) :: ks)
    | _, _ => none
theorem keyD_rp {K : PySem.W.Frag} {F : Hp} : ∀ {ps : List (V × V)} {ds : List (D × D)} {ks : List (DK × D)}, RpP K F ps ds → keyD ds = some ks → ∃ kvs : List (Key × V), ps = kvs.map (fun kv => (kV kv.1, kv.2)) ∧ RpK K F kvs ks ∧ kvs.length = ks.length
  | _, _, _, .nil, h => by cases h; exact ⟨[], rfl, .nil, rfl⟩
  | _, _, _, .cons (dx := dx) (s := s) a b t, h => by
    simp only [keyD] at h
    cases e1 : dkey dx with
    | none => rw [e1] at h; cases h
    | some k =>
      cases e2 : keyD s with
      | none => rw [e1, e2] at h; cases h
      | some ks =>
        rw [e1, e2] at h
        cases h
        obtain ⟨kvs, rfl, r, l⟩ := keyD_rp t e2
        have := dkey_rp a e1
        subst this
        exact ⟨(toK k, _) :: kvs, rfl, .cons b r, by simp [l]⟩
def dmerge (kvs more : List (DK × D)) : List (DK × D) := more.foldl (fun acc kv => dpu acc kv.1 kv.2) kvs
theorem rp_merge {K : PySem.W.Frag} {F : Hp} {more : List (Key × V)} {dm : List (DK × D)} (h : RpK K F more dm) : ∀ {kvs : List (Key × V)} {ds : List (DK × D)}, RpK K F kvs ds → RpK K F (mergeK kvs more) (dmerge ds dm) := by
  induction more generalizing dm with
  | nil => cases h; intro kvs ds r; exact r
  | cons p vs ih =>
    cases h with
    | cons a t =>
      intro kvs ds r
      rename_i k0 v0 d0 ds0
      show RpK K F (mergeK (putK kvs (toK k0) v0) vs) (dmerge (dpu ds k0 d0) ds0)
      exact ih t (r.put a)
def dDispG (trs : List (TDE × TDE)) (fin : List (DK × D) → Mp → Prop) : DEnv → Mp → Prop := fun ρ M => dPairs trs ρ M fun ps M1 => ∃ kvs, keyD ps = some kvs ∧ kvs.length ≤ 15 ∧ fin (dmerge [] kvs) M1
def dDisp (trs : List (TDE × TDE)) : TDE := fun ρ M Q => dDispG trs (fun kvs M1 => Q (.dic kvs) M1) ρ M
def dDispM (trs : List (TDE × TDE)) : TDE := fun ρ M Q => dDispG trs (fun kvs M1 => ∀ p, M1 p = none → Q (.ref p) (mset M1 p (.dic kvs))) ρ M
theorem hidD {K : PySem.W.Frag} {F F1 : Hp} {M M1 : Mp} {H H1 : Hp} (h : Step K F M H F1 M1 H1) {p : Addr} {o : HO} (e : H p = some o) (nt : ∀ ys, o ≠ .tup ys) (nF : F p = none) (nM : M p = none) : H1 p = some o ∧ F1 p = none ∧ M1 p = none := by
  refine ⟨h.frm p _ e nM, ?_, ?_⟩
  · cases q : F1 p with
    | none => rfl
    | some o =>
      rcases h.fnew p o q with z | z | z | ⟨ys, z⟩
      · rw [nF] at z; cases z
      · rw [e] at z; cases z
      · exact absurd nM z
      · rw [e] at z; cases z; exact absurd rfl (nt ys)
  · cases q : M1 p with
    | none => rfl
    | some o =>
      rcases h.dom p o q with z | z
      · exact absurd nM z
      · rw [e] at z; cases z
theorem disp_low {K : PySem.W.Frag} {trs : List (TDE × TDE)} {fin : List (DK × D) → Mp → Prop} {σ : L2.St} {H F : Hp} {M : Mp} {ρ : DEnv} {Q0 : VK} (ss : SS K E0 Ee σ H F M ρ) (q : dDispG trs fin ρ M)
    (k : ∀ p xs ds F' M' H', Step K F M H F' M' H' → F' p = none → M' p = none → H' p = some (.dK xs) → RpK K F' xs ds → fin ds M' → H p = none → Q0 (.ref p) H') : tDisp (lowPs K E0 Ee trs) σ H Q0 := by
  intro p hp
  obtain ⟨nM, nF⟩ := ss.hm.none hp
  have s0 : Step K F M H F M (upd H p (.dK [])) := (Step.refl ss.hm).hset hp nF nM _
  refine ps_low (ss.step s0) q fun ps ds F' M' H' s1 rp q1 => ?_
  obtain ⟨kvs, ek, hz, q2⟩ := q1
  obtain ⟨g1, g2, g3⟩ := hidD s1 (upd_same (H := H)) (fun ys z => nomatch z) nF nM
  obtain ⟨xs, rfl, rk, hl⟩ := keyD_rp rp ek
  refine ⟨g1, xs, rfl, by rw [hl]; exact hz, ?_⟩
  have s2 := (s0.trans s1).hset hp g2 g3 (.dK (mergeK [] xs))
  exact k p _ _ _ _ _ s2 g2 g3 upd_same (rp_merge rk .nil) q2 hp
theorem de_disp {keys : List (Option Expr)} {values : List Expr} {trs : List (TDE × TDE)} {pos : Pos} (h : DPs X E0 Ee pos keys values trs) (hall : keys.all (·.isSome) = true := by rfl) (hl : keys.length = values.length := by rfl) (h0 : keys ≠ [] := by simp)
    (h15 : keys.length ≤ 15 := by decide) : DE X E0 Ee (.Dict keys values pos) (dDisp trs) := PEimp (pe_disp h.pp hall hl h0 h15) fun σ H Q0 ⟨F, M, ρ, Q, ss, q, k⟩ =>
  disp_low ss q fun p xs ds F' M' H' s nF nM e r q' hp => by
    have s3 := s.hfrz hp nF nM e
    exact k _ _ _ _ _ s3 (.dic upd_same (r.mono (fun a u e => by rw [upd_ne (ne_of_none e nF)]; exact e))) q'
theorem de_dispM {keys : List (Option Expr)} {values : List Expr} {trs : List (TDE × TDE)} {pos : Pos} (h : DPs X E0 Ee pos keys values trs) (hall : keys.all (·.isSome) = true := by rfl) (hl : keys.length = values.length := by rfl) (h0 : keys ≠ [] := by simp)
    (h15 : keys.length ≤ 15 := by decide) : DE X E0 Ee (.Dict keys values pos) (dDispM trs) := PEimp (pe_disp h.pp hall hl h0 h15) fun σ H Q0 ⟨F, M, ρ, Q, ss, q, k⟩ =>
  disp_low ss q fun p xs ds F' M' H' s nF nM e r q' hp => by
    have s3 := s.hmut (mo := .dic ds) hp nF nM ⟨xs, e, r⟩
    exact k _ _ _ _ _ s3 (.ref p) (q' p nM)
/-- {} -/
def dNewK : TDE := fun _ M Q => ∀ p, M p = none → Q (.ref p) (mset M p (.dic []))
def dNewT : TDE := fun _ M Q => ∀ p, M p = none → Q (.ref p) (mset M p (.dit []))
theorem de_newK {pos : Pos} : DE X E0 Ee (.Dict [] [] pos) dNewK := PEimp pe_dnewK fun σ H Q0 ⟨F, M, ρ, Q, ss, q, k⟩ p hp => by
  have s := Step.newM ss.hm hp (o := .dK []) (mo := .dic []) ⟨[], upd_same, .nil⟩
  exact k _ _ _ _ _ s (.ref p) (q p (ss.hm.none hp).1)
theorem de_newT {pos : Pos} : DE X E0 Ee (.Dict [] [] pos) dNewT := PEimp pe_dnewT fun σ H Q0 ⟨F, M, ρ, Q, ss, q, k⟩ p hp => by
  have s := Step.newM ss.hm hp (o := .dT []) (mo := .dit []) ⟨[], upd_same, .nil⟩
  exact k _ _ _ _ _ s (.ref p) (q p (ss.hm.none hp).1)
end
/-! ### names of the module that hold texts and numbers -/
section
variable {X : Cx} {E0 : L2.St → XK} {Ee : DEnv → DXK} {x : Str} {pos : Pos}
def GV (mg : Str → Option Value) (x : Str) (v : V) : Prop := ∃ u, mg x = some u ∧ RelV v u
theorem gS (l : Cd) (h : GV X.mg x (.str (mkS l))) (hg : Gl X x := by rfl) (hd : (x == ("__debug__" : Str)) = false := by decide) : DE X E0 Ee (.Name x pos) (dC (.str l)) := by
  obtain ⟨u, h, r⟩ := h
  exact de_c (pe_glob hg h r hd) fun _ => .str l
theorem gI (i : Int) (h : GV X.mg x (.int i)) (hg : Gl X x := by rfl) (hd : (x == ("__debug__" : Str)) = false := by decide) : DE X E0 Ee (.Name x pos) (dC (.int i)) := by
  obtain ⟨u, h, r⟩ := h
  exact de_c (pe_glob hg h r hd) fun _ => .int i
theorem de_joined1 {e : Expr} {te : TDE} (he : DE X E0 Ee e te) : DE X E0 Ee (.JoinedStr [e] pos) te := pe_joined1 he
end
end DL


set_option Elab.async false
set_option linter.all false
set_option maxRecDepth 100000
set_option maxHeartbeats 4000000
namespace DL
open PySem PySem.Spec PyProof.Rows L2
/-! ### the laws' source -/
def kCells : Cd := [99, 101, 108, 108, 115]
def kLeft : Cd := [108, 101, 102, 116]
def kMixed : Cd := [109, 105, 120, 101, 100]
def kTurn : Cd := [116, 117, 114, 110]
def srcL (c : Addr) (l m t : Int) : List (DK × D) := [(.inr kCells, .ref c), (.inr kLeft, .int l), (.inr kMixed, .int m), (.inr kTurn, .int t)]
theorem srcL_rp {K : PySem.W.Frag} {F : Hp} {c : Addr} {l m t : Int} : RpK K F [(.inr "cells", .ref c), (.inr "left", .int l), (.inr "mixed", .int m), (.inr "turn", .int t)] (srcL c l m t) := by
  have e1 : (("cells" : Str)) = mkS kCells := by decide +kernel
  have e2 : (("left" : Str)) = mkS kLeft := by decide +kernel
  have e3 : (("mixed" : Str)) = mkS kMixed := by decide +kernel
  have e4 : (("turn" : Str)) = mkS kTurn := by decide +kernel
  rw [e1, e2, e3, e4]
  exact .cons (k := .inr kCells) (.ref c) (.cons (k := .inr kLeft) (.int l) (.cons (k := .inr kMixed) (.int m) (.cons (k := .inr kTurn) (.int t) .nil)))
theorem srcL_of {K : PySem.W.Frag} {F : Hp} {c : Addr} {l m t : Int} {xs : List (Key × V)} (h : RpK K F xs (srcL c l m t)) : xs = [(.inr "cells", .ref c), (.inr "left", .int l), (.inr "mixed", .int m), (.inr "turn", .int t)] := by
  have e1 : (("cells" : Str)) = mkS kCells := by decide +kernel
  have e2 : (("left" : Str)) = mkS kLeft := by decide +kernel
  have e3 : (("mixed" : Str)) = mkS kMixed := by decide +kernel
  have e4 : (("turn" : Str)) = mkS kTurn := by decide +kernel
  rw [e1, e2, e3, e4]
  cases h with
  | cons a h => cases h with
    | cons b h => cases h with
      | cons c h => cases h with
        | cons d h => cases h; cases a; cases b; cases c; cases d; rfl
/-- the source laid open: the others that share its cells are left aside -/
def opn (M : Mp) (p c : Addr) (l m t : Int) (ns : List Int) : Mp := fun a => if a = p then some (.dic (srcL c l m t)) else if a = c then some (.lst (ns.map .int)) else match M a with
  | some (.src c') => if c' = c then none else some (.src c')
  | o => o
section
variable {K : PySem.W.Frag} {F : Hp} {M : Mp} {H : Hp} {p c : Addr}
theorem opn_p {l m t : Int} {ns : List Int} : opn M p c l m t ns p = some (.dic (srcL c l m t)) := if_pos rfl
theorem opn_c {l m t : Int} {ns : List Int} (h : c ≠ p) : opn M p c l m t ns c = some (.lst (ns.map .int)) := by unfold opn; rw [if_neg h, if_pos rfl]
theorem opn_set {l m t l' m' t' : Int} {ns ns' : List Int} (h : c ≠ p) : mset (mset (opn M p c l m t ns) c (.lst (ns'.map .int))) p (.dic (srcL c l' m' t')) = opn M p c l' m' t' ns' := by
  funext a
  unfold mset opn
  by_cases h1 : a = p
  · simp [h1]
  · by_cases h2 : a = c
    · simp [h1, h2, h]
    · simp [h1, h2]
theorem opn_cl {l m t l' m' t' : Int} {ns ns' : List Int} (h : Sub (opn M p c l m t ns) (opn M p c l m t ns)) : Sub (opn M p c l' m' t' ns') (opn M p c l' m' t' ns') := by
  refine ⟨fun _ _ e => e, fun a c' e => ?_⟩
  have e2 : opn M p c l m t ns a = some (.src c') := by
    unfold opn at e ⊢
    by_cases h1 : a = p
    · rw [if_pos h1] at e; cases e
    · by_cases h2 : a = c
      · rw [if_neg h1, if_pos h2] at e; cases e
      · rw [if_neg h1, if_neg h2] at e ⊢; exact e
  have e3 := h.cl a c' e2
  unfold opn at e3 ⊢
  by_cases h1 : c' = p
  · rw [if_pos h1] at e3; cases e3
  · by_cases h2 : c' = c
    · rw [if_neg h1, if_pos h2] at e3; cases e3
    · rw [if_neg h1, if_neg h2] at e3 ⊢; exact e3
theorem opn_p_set {l m t l' m' t' : Int} {ns : List Int} : mset (opn M p c l m t ns) p (.dic (srcL c l' m' t')) = opn M p c l' m' t' ns := by
  funext a
  unfold mset opn
  by_cases h1 : a = p <;> simp [h1]
theorem opn_c_set {l m t : Int} {ns ns' : List Int} (ne : c ≠ p) : mset (opn M p c l m t ns) c (.lst (ns'.map .int)) = opn M p c l m t ns' := by
  funext a
  unfold mset opn
  by_cases h1 : a = p
  · subst h1; simp [Ne.symm ne]
  · by_cases h2 : a = c <;> simp [h1, h2, ne]
theorem fd_cells {l m t : Int} : dfind (.dic (srcL c l m t)) (.str [99, 101, 108, 108, 115]) = some (some (.ref c)) := rfl
theorem fd_left {l m t : Int} : dfind (.dic (srcL c l m t)) (.str [108, 101, 102, 116]) = some (some (.int l)) := rfl
theorem fd_mixed {l m t : Int} : dfind (.dic (srcL c l m t)) (.str [109, 105, 120, 101, 100]) = some (some (.int m)) := rfl
theorem fd_turn {l m t : Int} : dfind (.dic (srcL c l m t)) (.str [116, 117, 114, 110]) = some (some (.int t)) := rfl
theorem pu_left {l m t x : Int} : dpu (srcL c l m t) (.inr [108, 101, 102, 116]) (.int x) = srcL c x m t := rfl
theorem pu_turn {l m t x : Int} : dpu (srcL c l m t) (.inr [116, 117, 114, 110]) (.int x) = srcL c l m x := rfl
theorem srcL_len {l m t : Int} : (srcL c l m t).length < sizeLine := by rw [sizeLine_eq]; simp [srcL]
theorem src_ne (h : HM K F M H) (e : M p = some (.src c)) : c ≠ p := fun z => by
  have := ((h.mo p _ e).2).1
  rw [z, e] at this; cases this
theorem HM.opn (h : HM K F M H) (e : M p = some (.src c)) : ∃ l m t ns, HM K F (DL.opn M p c l m t ns) H := by
  have ne := src_ne h e
  obtain ⟨nF, hc, l, m, t, ns, e1, e2⟩ := h.mo p _ e
  obtain ⟨nFc, _⟩ := h.mo c _ hc
  refine ⟨l, m, t, ns, h.le, fun a o ea => ?_⟩
  unfold DL.opn at ea
  by_cases h1 : a = p
  · rw [if_pos h1] at ea; cases ea; subst h1
    exact ⟨nF, _, e1, srcL_rp⟩
  · rw [if_neg h1] at ea
    by_cases h2 : a = c
    · rw [if_pos h2] at ea; cases ea; subst h2
      exact ⟨nFc, _, e2, RpL.ints ns⟩
    · rw [if_neg h2] at ea
      cases q : M a with
      | none => rw [q] at ea; cases ea
      | some u =>
        rw [q] at ea
        obtain ⟨z1, z2⟩ := h.mo a _ q
        cases u with
        | src c' =>
          by_cases h3 : c' = c
          · simp only [h3, if_true] at ea; cases ea
          · simp only [h3, if_false] at ea; cases ea
            refine ⟨z1, ?_, z2.2⟩
            have hc' := z2.1
            have h4 : c' ≠ p := fun z => by rw [z, e] at hc'; cases hc'
            unfold DL.opn; rw [if_neg h4, if_neg h3, hc']
        | lst _ => cases ea; exact ⟨z1, z2⟩
        | dic _ => cases ea; exact ⟨z1, z2⟩
        | dit _ => cases ea; exact ⟨z1, z2⟩
        | ins _ _ => cases ea; exact ⟨z1, z2⟩
        | hid => cases ea; exact ⟨z1, z2⟩
/-- and closed again -/
theorem Step.cls {F1 H1 : Hp} {l m t l' m' t' : Int} {ns ns' : List Int} (h : HM K F M H) (e : M p = some (.src c)) (s : Step K F (opn M p c l m t ns) H F1 (opn M p c l' m' t' ns') H1) : Step K F M H F1 M H1 := by
  have ne := src_ne h e
  have hc := ((h.mo p _ e).2).1
  have on : ∀ a, M a = none → opn M p c l m t ns a = none := fun a ha => by
    unfold opn
    have h1 : a ≠ p := fun z => by rw [z, e] at ha; cases ha
    have h2 : a ≠ c := fun z => by rw [z, hc] at ha; cases ha
    rw [if_neg h1, if_neg h2, ha]
  have no : ∀ a, opn M p c l m t ns a ≠ none → M a ≠ none := fun a ha hz => ha (on a hz)
  obtain ⟨xs, hp1, rp⟩ := (s.hm.mo p _ opn_p).2
  have ex := srcL_of rp
  obtain ⟨ys, hc1, rc⟩ := (s.hm.mo c _ (opn_c ne)).2
  have ey := RpL.of_ints rc
  have Fp := (s.hm.mo p _ opn_p).1
  have Fc := (s.hm.mo c _ (opn_c ne)).1
  refine ⟨s.fle, ⟨s.hm.le, fun a o ea => ?_⟩, fun a o ha na => s.frm a o ha (on a na), fun a o ea => .inl (by rw [ea]; exact fun z => nomatch z), fun a o ea => ?_⟩
  · by_cases h1 : a = p
    · subst h1; rw [e] at ea; cases ea
      exact ⟨Fp, hc, l', m', t', ns', by rw [hp1, ex]; rfl, by rw [hc1, ey]⟩
    · by_cases h2 : a = c
      · subst h2; rw [hc] at ea; cases ea
        exact ⟨Fc, ys, hc1⟩
      · cases o with
        | src c' =>
          by_cases h3 : c' = c
          · subst h3
            have na : opn M p c' l m t ns a = none := by unfold opn; rw [if_neg h1, if_neg h2, ea]; simp
            obtain ⟨z1, z2, l2, m2, t2, n2, z3, z4⟩ := h.mo a _ ea
            have z5 := s.frm a _ z3 na
            refine ⟨?_, z2, l2, m2, t2, ns', z5, by rw [hc1, ey]⟩
            cases q : F1 a with
            | none => rfl
            | some u =>
              rcases s.fnew a u q with y | y | y | ⟨ys, y⟩
              · rw [z1] at y; cases y
              · rw [z3] at y; cases y
              · exact absurd na y
              · rw [z3] at y; cases y
          · have ea' : opn M p c l' m' t' ns' a = some (.src c') := by unfold opn; rw [if_neg h1, if_neg h2, ea]; simp [h3]
            obtain ⟨z1, z2, z3⟩ := s.hm.mo a _ ea'
            exact ⟨z1, ((h.mo a _ ea).2).1, z3⟩
        | lst z7 =>
          have ea' : opn M p c l' m' t' ns' a = some (.lst z7) := by unfold opn; rw [if_neg h1, if_neg h2, ea]
          exact s.hm.mo a _ ea'
        | dic z7 =>
          have ea' : opn M p c l' m' t' ns' a = some (.dic z7) := by unfold opn; rw [if_neg h1, if_neg h2, ea]
          exact s.hm.mo a _ ea'
        | dit z7 =>
          have ea' : opn M p c l' m' t' ns' a = some (.dit z7) := by unfold opn; rw [if_neg h1, if_neg h2, ea]
          exact s.hm.mo a _ ea'
        | ins z7 z8 =>
          have ea' : opn M p c l' m' t' ns' a = some (.ins z7 z8) := by unfold opn; rw [if_neg h1, if_neg h2, ea]
          exact s.hm.mo a _ ea'
        | hid =>
          have ea' : opn M p c l' m' t' ns' a = some (.hid) := by unfold opn; rw [if_neg h1, if_neg h2, ea]
          exact s.hm.mo a _ ea'
  · rcases s.fnew a o ea with y | y | y | y
    · exact .inl y
    · exact .inr (.inl y)
    · exact .inr (.inr (.inl (no a y)))
    · exact .inr (.inr (.inr y))
/-- what a pick is, laid open -/
def pkO : DSp := fun ds M Q _ => ∃ (M0 : Mp) (p c : Addr) (l m t : Int) (ns : List Int) (many : Int), ds = [.ref p, .int many] ∧ c ≠ p ∧ M = opn M0 p c l m t ns ∧ many ≤ 10000000 ∧ ∀ (k : Nat) (l' m' t' : Int) (ns' : List Int), (k = 0 ∨ (k : Int) < many) → Q (.int k) (opn M0 p c l' m' t' ns')
/-- what a pick is -/
def pkS : DSp := fun ds M Q _ => ∃ (p c : Addr) (many : Int), ds = [.ref p, .int many] ∧ M p = some (.src c) ∧ many ≤ 10000000 ∧ ∀ k : Nat, (k = 0 ∨ (k : Int) < many) → Q (.int k) M
theorem pk_imp {vs : List V} {Q0 : VK} {E : XK} (h : lift K pkS vs H Q0 E) : lift K pkO vs H Q0 E := by
  obtain ⟨F, M, ds, Q, Ed, hm, r, ⟨p, c, many, rfl, e, hz, q⟩, kk, xk⟩ := h
  obtain ⟨l, m, t, ns, hm'⟩ := hm.opn e
  refine ⟨F, _, _, fun d M1 => ∃ (k : Nat) (l' m' t' : Int) (ns' : List Int), d = .int k ∧ M1 = opn M p c l' m' t' ns' ∧ Q (.int k) M, fun _ _ _ => False, hm', r, ⟨M, p, c, l, m, t, ns, many, rfl, src_ne hm e, rfl, hz, fun k l' m' t' ns' hk => ⟨k, l', m', t', ns', rfl, rfl, q k hk⟩⟩, ?_, fun _ _ _ _ _ _ _ _ _ _ z => z.elim⟩
  rintro v H' F' d M' s r' ⟨k, l', m', t', ns', rfl, rfl, q'⟩
  exact kk v H' F' (.int k) M (Step.cls hm e s) r' q'
/-- a new source, laid open, closed -/
def srO : DSp := fun ds M Q _ => ∃ ns : List Int, ds = [.scr ns] ∧ ns.length ≤ 1000 ∧ ∀ (p c : Addr) (l m t : Int) (cs : List Int), c ≠ p → M p = none → M c = none → Q (.ref p) (mset (mset M c (.lst (cs.map .int))) p (.dic (srcL c l m t)))
def srS : DSp := fun ds M Q _ => ∃ ns : List Int, ds = [.scr ns] ∧ ns.length ≤ 1000 ∧ ∀ (p c : Addr), c ≠ p → M p = none → M c = none → Q (.ref p) (mset (mset M c .hid) p (.src c))
theorem sr_imp {vs : List V} {Q0 : VK} {E : XK} (h : lift K srS vs H Q0 E) : lift K srO vs H Q0 E := by
  obtain ⟨F, M, ds, Q, Ed, hm, r, ⟨ns, rfl, hz, q⟩, kk, xk⟩ := h
  refine ⟨F, M, _, fun d M1 => ∃ (p c : Addr) (l m t : Int) (cs : List Int), d = .ref p ∧ c ≠ p ∧ M p = none ∧ M c = none ∧ M1 = mset (mset M c (.lst (cs.map .int))) p (.dic (srcL c l m t)), fun _ _ _ => False, hm, r,
    ⟨ns, rfl, hz, fun p c l m t cs h1 h2 h3 => ⟨p, c, l, m, t, cs, rfl, h1, h2, h3, rfl⟩⟩, ?_, fun _ _ _ _ _ _ _ _ _ _ z => z.elim⟩
  rintro v H' F' d M' s r' ⟨p, c, l, m, t, cs, rfl, ne, np, nc, rfl⟩
  refine kk v H' F' _ _ ?_ r' (q p c ne np nc)
  obtain ⟨Fp, xs, hp1, rp⟩ := s.hm.mo p _ mset_same
  have ex := srcL_of rp
  obtain ⟨Fc, ys, hc1, rc⟩ := s.hm.mo c _ ((mset_ne ne).trans mset_same)
  have ey := RpL.of_ints rc
  refine ⟨s.fle, ⟨s.hm.le, fun a o ea => ?_⟩, s.frm, fun a o ea => ?_, s.fnew⟩
  · by_cases h1 : a = p
    · subst h1; rw [mset_same] at ea; cases ea
      exact ⟨Fp, (mset_ne ne).trans mset_same, l, m, t, cs, by rw [hp1, ex]; rfl, by rw [hc1, ey]⟩
    · by_cases h2 : a = c
      · subst h2; rw [mset_ne h1, mset_same] at ea; cases ea
        exact ⟨Fc, ys, hc1⟩
      · rw [mset_ne h1, mset_ne h2] at ea
        have ea' : mset (mset M c (.lst (cs.map .int))) p (.dic (srcL c l m t)) a = some o := by rw [mset_ne h1, mset_ne h2]; exact ea
        obtain ⟨z1, z2⟩ := s.hm.mo a _ ea'
        refine ⟨z1, ?_⟩
        cases o with
        | src c' =>
          obtain ⟨z3, z4⟩ := z2
          refine ⟨?_, z4⟩
          have h3 : c' ≠ p := fun z => by rw [z, mset_same] at z3; cases z3
          have h4 : c' ≠ c := fun z => by rw [z, mset_ne ne, mset_same] at z3; cases z3
          rw [mset_ne h3, mset_ne h4] at z3 ⊢; exact z3
        | _ => exact z2
  · by_cases h1 : a = p
    · exact (s.dom p _ mset_same).imp (fun h => by rw [h1]; exact h) fun h => by rw [h1]; exact h
    · by_cases h2 : a = c
      · exact (s.dom c _ ((mset_ne ne).trans mset_same)).imp (fun h => by rw [h2]; exact h) fun h => by rw [h2]; exact h
      · rw [mset_ne h1, mset_ne h2] at ea
        exact s.dom a o (by rw [mset_ne h1, mset_ne h2]; exact ea)
end
end DL


set_option Elab.async false
set_option linter.all false
set_option maxRecDepth 100000
set_option maxHeartbeats 4000000
namespace DL
open PySem PySem.Spec PyProof.Rows L2
/-! ### small tools -/
theorem atI_mid {α : Type} {l a r : List α} {x : α} {i : Int} (h : l = a ++ (x :: r)) (hi : i = (a.length : Int)) : atI l i = some x := by
  subst h hi; exact atI_nat (by simp)
theorem atI_n {α : Type} {l : List α} {i : Int} {j : Nat} {x : α} (hi : i = (j : Int)) (h : l[j]? = some x) : atI l i = some x := by subst hi; exact atI_nat h
theorem dcut_mid {α : Type} {l a b r : List α} {i j : Int} (h : l = a ++ (b ++ r)) (hi : i = (a.length : Int)) (hj : j = (a.length : Int) + b.length) : dcut l (some i) (some j) = b := by
  subst h hi
  have e : j = ((a.length + b.length : Nat) : Int) := by omega
  subst e
  unfold dcut
  rw [HT.sIx_nat, HT.sIx_nat]
  have e1 : min a.length (a ++ (b ++ r)).length = a.length := by simp only [List.length_append]; omega
  have e2 : min (a.length + b.length) (a ++ (b ++ r)).length = a.length + b.length := by simp only [List.length_append]; omega
  rw [e1, e2, List.drop_left, Nat.add_sub_cancel_left, List.take_left]
theorem dcut_one {α : Type} {l a r : List α} {i j : Int} (h : l = a ++ r) (hi : i = (a.length : Int)) (hj : j = (a.length : Int) + 1) : dcut l (some i) (some j) = r.take 1 := by
  subst h hi
  have e : j = ((a.length + 1 : Nat) : Int) := by omega
  subst e
  unfold dcut
  rw [HT.sIx_nat, HT.sIx_nat]
  have e1 : min a.length (a ++ r).length = a.length := by simp only [List.length_append]; omega
  rw [e1, List.drop_left]
  cases r with
  | nil => simp
  | cons x r =>
    have e2 : min (a.length + 1) (a ++ x :: r).length = a.length + 1 := by simp only [List.length_append, List.length_cons]; omega
    rw [e2, Nat.add_sub_cancel_left]
theorem dcut_tl {α : Type} {l : List α} : dcut l (some 1) none = l.tail := by
  unfold dcut
  rw [show (some (1 : Int)) = some ((1 : Nat) : Int) from rfl, HT.sIx_nat, HT.sIx_none]
  cases l with
  | nil => rfl
  | cons x r =>
    have e : min 1 (x :: r).length = 1 := by simp only [List.length_cons]; omega
    rw [e, List.drop_one, List.tail_cons, List.length_cons, Nat.add_sub_cancel, List.take_length]
theorem dcut_tl' {α : Type} {x : α} {l : List α} : ¬ (HT.sIx (x :: l).length 0 (some 1) = 0 ∧ HT.sIx (x :: l).length (x :: l).length none = (x :: l).length) := by
  rintro ⟨h, _⟩
  rw [show (some (1 : Int)) = some ((1 : Nat) : Int) from rfl, HT.sIx_nat] at h
  simp only [List.length_cons] at h
  omega
theorem atI0 {α : Type} {x : α} {l : List α} : atI (x :: l) 0 = some x := atI_n (j := 0) rfl rfl
/-! ### a def that calls itself -/
def prev (sp : Nat → DSp) : Nat → DSp
  | 0 => fun _ _ _ _ => False
  | k + 1 => sp k
theorem fn_rec {P : Program} {w : World} {K : PySem.W.Frag} {mg : Str → Option Value} {base : Heap} {x : Str} {ps : List Str} {sp : Nat → DSp} {c : Nat} {f : Addr} {fd : FuncData} (hm : mg x = some (.ref f)) (kp : PySem.W.keepIn K (.ref f) = true) (hb : Binds K fd ps [])
    (step : ∀ n, Fn P w K mg base (n + c) x ps (prev sp n) → FnOk P w K mg base (L2.CX P w) (n + c + 1) f fd ps (lift K (sp n))) : ∀ n, Fn P w K mg base (n + c + 1) x ps (sp n)
  | 0 => ⟨f, fd, step 0 ⟨f, fd, ⟨fun _ _ _ _ h => by obtain ⟨_, _, _, _, _, _, _, h, _⟩ := h; exact h.elim, fun _ _ _ _ _ _ _ _ _ _ _ _ _ h => by obtain ⟨_, _, _, _, _, _, _, h, _⟩ := h; exact h.elim⟩, hm, kp, hb⟩, hm, kp, hb⟩
  | n + 1 => by
    have ih := fn_rec hm kp hb step n
    rw [show n + c + 1 = n + 1 + c by omega] at ih
    exact ⟨f, fd, step (n + 1) ih, hm, kp, hb⟩
/-! ### what may be compared -/
mutual
def dDep : D → Nat
  | .lst xs | .tup xs => dDepL xs + 1
  | _ => 0
def dDepL : List D → Nat
  | [] => 0
  | x :: xs => max (dDep x) (dDepL xs)
end
mutual
def dPl : D → Bool
  | .non | .bl _ | .int _ => true
  | .str s => s.all (· < 0x110000)
  | .lst xs | .tup xs => dPlL xs
  | _ => false
def dPlL : List D → Bool
  | [] => true
  | x :: xs => dPl x && dPlL xs
end
mutual
theorem pl_py : ∀ d : D, dPl d = true → ∃ p, d.py = some p ∧ p.canLay0 = true ∧ p.depth = dDep d
  | .non, _ => ⟨_, rfl, by simp [PyData.canLay0], by simp [PyData.depth, dDep]⟩
  | .bl _, _ => ⟨_, rfl, by simp [PyData.canLay0], by simp [PyData.depth, dDep]⟩
  | .int _, _ => ⟨_, rfl, by simp [PyData.canLay0], by simp [PyData.depth, dDep]⟩
  | .str s, h => ⟨_, rfl, by
      simp only [dPl] at h
      simp only [PyData.canLay0, PyData.strOk]
      show (Array.all s.toArray _) = true
      rw [List.all_toArray]; exact h, by simp [PyData.depth, dDep]⟩
  | .lst xs, h => by
    simp only [dPl] at h
    obtain ⟨ps, e, c, d⟩ := pl_pyL xs h
    exact ⟨.list ps, by simp only [D.py, e]; rfl, by simp only [PyData.canLay0, c], by simp only [PyData.depth, dDep, d]⟩
  | .tup xs, h => by
    simp only [dPl] at h
    obtain ⟨ps, e, c, d⟩ := pl_pyL xs h
    exact ⟨.tuple ps, by simp only [D.py, e]; rfl, by simp only [PyData.canLay0, c], by simp only [PyData.depth, dDep, d]⟩
  | .ty _, h => by simp [dPl] at h
  | .ref _, h => by simp [dPl] at h
  | .scr _, h => by simp [dPl] at h
  | .dic _, h => by simp [dPl] at h
  | .dit _, h => by simp [dPl] at h
  | .obj _ _, h => by simp [dPl] at h
theorem pl_pyL : ∀ d : List D, dPlL d = true → ∃ p, pyL d = some p ∧ PyData.canLayAll0 p = true ∧ PyData.depthAll p = dDepL d
  | [], _ => ⟨[], rfl, by simp [PyData.canLayAll0], by simp [PyData.depthAll, dDepL]⟩
  | x :: xs, h => by
    simp only [dPlL, Bool.and_eq_true] at h
    obtain ⟨p, e1, c1, d1⟩ := pl_py x h.1
    obtain ⟨ps, e2, c2, d2⟩ := pl_pyL xs h.2
    exact ⟨p :: ps, by simp only [pyL, e1, e2], by simp only [PyData.canLayAll0, c1, c2]; rfl, by simp only [PyData.depthAll, dDepL, d1, d2]⟩
end
theorem cmpOk_pl {d : D} (h : dPl d = true) (hd : dDep d ≤ 64) : cmpOk d = true := by
  obtain ⟨p, e, c, hp⟩ := pl_py d h
  unfold cmpOk
  rw [e]
  show SeqAt.shaped p = true
  unfold SeqAt.shaped
  rw [c, hp]
  simpa using hd
mutual
theorem deq_refl : ∀ d : D, dPl d = true → deq d d = true
  | .non, _ => by simp [deq]
  | .bl b, _ => by simp [deq]
  | .int i, _ => by simp [deq]
  | .str s, _ => by simp [deq]
  | .lst xs, h => by simp only [dPl] at h; simp only [deq]; exact deqL_refl xs h
  | .tup xs, h => by simp only [dPl] at h; simp only [deq]; exact deqL_refl xs h
  | .ty _, h => by simp [dPl] at h
  | .ref _, h => by simp [dPl] at h
  | .scr _, h => by simp [dPl] at h
  | .dic _, h => by simp [dPl] at h
  | .dit _, h => by simp [dPl] at h
  | .obj _ _, h => by simp [dPl] at h
theorem deqL_refl : ∀ d : List D, dPlL d = true → deqL d d = true
  | [], _ => by simp [deqL]
  | x :: xs, h => by
    simp only [dPlL, Bool.and_eq_true] at h
    simp only [deqL, deq_refl x h.1, deqL_refl xs h.2]; rfl
end
end DL


set_option Elab.async false
set_option linter.all false
set_option maxRecDepth 100000
set_option maxHeartbeats 4000000
namespace DL
open PySem PySem.Spec PyProof.Rows L2
/-! ### one equation for each shape -/
section
variable {M : Mp} {Q : D → Mp → Prop} {i j : Int} {a b s : Cd} {p : Bool} {c : Nat} {xs ys : List D} {ns : List Int} {kv : List (DK × D)} {kt : List (List DK × D)} {x y d : D} {C q : Addr} {fs : List (Str × D)} {lo hi : Option Int} {QM : MO → Prop} {n : String}
theorem e_vw_non : vw M (.non) = .non := rfl
theorem e_vw_bl : vw M (.bl p) = .bl p := rfl
theorem e_vw_int : vw M (.int i) = .int i := rfl
theorem e_vw_str : vw M (.str s) = .str s := rfl
theorem e_vw_scr : vw M (.scr ns) = .scr ns := rfl
theorem e_vw_lst : vw M (.lst xs) = .lst xs := rfl
theorem e_vw_tup : vw M (.tup xs) = .tup xs := rfl
theorem e_vw_dic : vw M (.dic kv) = .dic kv := rfl
theorem e_vw_dit : vw M (.dit kt) = .dit kt := rfl
theorem e_vw_obj : vw M (.obj C fs) = .obj C fs := rfl
theorem e_vw_ty : vw M (.ty n) = .ty n := rfl
theorem vw_l (h : M q = some (.lst xs)) : vw M (.ref q) = .lst xs := by simp only [vw, h]
theorem vw_d (h : M q = some (.dic kv)) : vw M (.ref q) = .dic kv := by simp only [vw, h]
theorem vw_t (h : M q = some (.dit kt)) : vw M (.ref q) = .dit kt := by simp only [vw, h]
theorem vw_i (h : M q = some (.ins C fs)) : vw M (.ref q) = .obj C fs := by simp only [vw, h]
theorem e_flat_non : flatD (.non) = true := rfl
theorem e_isn_non : isNonD (.non) = true := rfl
theorem e_ty_non : tyN (.non) = some .non := rfl
theorem e_flat_bl : flatD (.bl p) = true := rfl
theorem e_isn_bl : isNonD (.bl p) = false := rfl
theorem e_ty_bl : tyN (.bl p) = some .bool := rfl
theorem e_flat_int : flatD (.int i) = true := rfl
theorem e_isn_int : isNonD (.int i) = false := rfl
theorem e_ty_int : tyN (.int i) = some .int := rfl
theorem e_flat_str : flatD (.str s) = true := rfl
theorem e_isn_str : isNonD (.str s) = false := rfl
theorem e_ty_str : tyN (.str s) = some .str := rfl
theorem e_flat_scr : flatD (.scr ns) = false := rfl
theorem e_isn_scr : isNonD (.scr ns) = false := rfl
theorem e_ty_scr : tyN (.scr ns) = some .list := rfl
theorem e_flat_lst : flatD (.lst xs) = false := rfl
theorem e_isn_lst : isNonD (.lst xs) = false := rfl
theorem e_ty_lst : tyN (.lst xs) = some .list := rfl
theorem e_flat_tup : flatD (.tup xs) = false := rfl
theorem e_isn_tup : isNonD (.tup xs) = false := rfl
theorem e_ty_tup : tyN (.tup xs) = some .tuple := rfl
theorem e_flat_dic : flatD (.dic kv) = false := rfl
theorem e_isn_dic : isNonD (.dic kv) = false := rfl
theorem e_ty_dic : tyN (.dic kv) = some .dict := rfl
theorem e_flat_dit : flatD (.dit kt) = false := rfl
theorem e_isn_dit : isNonD (.dit kt) = false := rfl
theorem e_flat_obj : flatD (.obj C fs) = false := rfl
theorem e_isn_obj : isNonD (.obj C fs) = false := rfl
theorem e_flat_ty : flatD (.ty n) = false := rfl
theorem e_isn_ty : isNonD (.ty n) = false := rfl
theorem e_add_ii : oAdd (.int i) (.int j) M Q = Q (.int (i + j)) M := rfl
theorem e_add_ss : oAdd (.str a) (.str b) M Q = (a.length + b.length ≤ sizeLine ∧ Q (.str (a ++ b)) M) := rfl
theorem e_add_ll : oAdd (.lst xs) (.lst ys) M Q = (xs.length + ys.length ≤ sizeLine ∧ Q (.lst (xs ++ ys)) M) := rfl
theorem e_add_tt : oAdd (.tup xs) (.tup ys) M Q = (xs ≠ [] ∧ ys ≠ [] ∧ xs.length + ys.length ≤ sizeLine ∧ Q (.tup (xs ++ ys)) M) := rfl
theorem e_iadd_ii : oIadd (.int i) (.int j) M Q = Q (.int (i + j)) M := rfl
theorem e_iadd_ss : oIadd (.str a) (.str b) M Q = (a.length + b.length ≤ sizeLine ∧ Q (.str (a ++ b)) M) := rfl
theorem e_sub_ii : oSub (.int i) (.int j) M Q = Q (.int (i - j)) M := rfl
theorem e_mul_ii : oMul (.int i) (.int j) M Q = (CMul i j ∧ Q (.int (i * j)) M) := rfl
theorem e_mul_li : oMul (.lst xs) (.int j) M Q = (-(2 ^ 63) ≤ j ∧ j < 2 ^ 63 ∧ xs.length * j.toNat ≤ sizeLine ∧ Q (.lst (List.replicate j.toNat xs).flatten) M) := rfl
theorem e_mul_si : oMul (.str a) (.int j) M Q = ((-(2 ^ 63) ≤ j ∧ j ≤ 16777216 ∧ a.length * j.toNat ≤ 16777216) ∧ Q (.str (strMul a j)) M) := rfl
theorem e_fdiv_ii : oFdiv (.int i) (.int j) M Q = (CDiv i j ∧ Q (.int (i / j)) M) := rfl
theorem e_mod_ii : oMod (.int i) (.int j) M Q = (0 < j ∧ Q (.int (i % j)) M) := rfl
theorem e_pow_ii : oPow (.int i) (.int j) M Q = (CPow i j ∧ Q (.int (i ^ j.toNat)) M) := rfl
theorem e_deq_nn : deq .non .non = true := by simp [deq]
theorem e_deq_ii : deq (.int i) (.int j) = (i == j) := by simp [deq]
theorem e_deq_ss : deq (.str a) (.str b) = (a == b) := by simp [deq]
theorem e_deq_bb : deq (.bl p) (.bl true) = p := by cases p <;> simp [deq]
theorem e_deq_tt : deq (.tup xs) (.tup ys) = deqL xs ys := by simp [deq]
theorem e_deq_ll : deq (.lst xs) (.lst ys) = deqL xs ys := by simp [deq]
theorem e_deq_st : deq (.str a) (.tup ys) = false := by simp [deq]
theorem e_deq_ts : deq (.tup xs) (.str a) = false := by simp [deq]
theorem e_deql_n : deqL [] [] = true := by simp [deqL]
theorem e_deql_c : deqL (x :: xs) (y :: ys) = (deq x y && deqL xs ys) := by simp [deqL]
theorem e_deql_nc : deqL [] (y :: ys) = false := by simp [deqL]
theorem e_deql_cn : deqL (x :: xs) [] = false := by simp [deqL]
theorem e_isN : oIsN p x .non M Q = Q (.bl (p != isNonD x)) M := rfl
theorem e_ix_l : oIx (.lst xs) (.int i) M Q = ∃ d, atI xs i = some d ∧ Q d M := rfl
theorem e_ix_t : oIx (.tup xs) (.int i) M Q = ∃ d, atI xs i = some d ∧ Q d M := rfl
theorem e_ix_c : oIx (.scr ns) (.int i) M Q = ∃ d, atI ns i = some d ∧ Q (.int d) M := rfl
theorem e_ix_s : oIx (.str s) (.int i) M Q = (s.length ≤ sizeLine ∧ ∃ c, atI s i = some c ∧ Q (.str [c]) M) := rfl
theorem e_ix_d : oIx (.dic kv) x M Q = ∃ d, dfind (.dic kv) x = some (some d) ∧ Q d M := by cases x <;> rfl
theorem e_ix_dt : oIx (.dit kt) x M Q = ∃ d, dfind (.dit kt) x = some (some d) ∧ Q d M := by cases x <;> rfl
theorem e_in_l : oIn p x (.lst ys) M Q = ((flatD x = true ∧ ys.all flatD = true ∨ cmpOk x = true ∧ cmpOk (.lst ys) = true) ∧ Q (.bl (p != ys.any fun y => deq y x)) M) := by cases x <;> rfl
theorem e_in_t : oIn p x (.tup ys) M Q = ((flatD x = true ∧ ys.all flatD = true ∨ cmpOk x = true ∧ cmpOk (.tup ys) = true) ∧ Q (.bl (p != ys.any fun y => deq y x)) M) := by cases x <;> rfl
theorem e_in_s : oIn p (.str [c]) (.str s) M Q = Q (.bl (p != decide (c ∈ s))) M := rfl
theorem e_in_d : oIn p x (.dic kv) M Q = ∃ o, dfind (.dic kv) x = some o ∧ Q (.bl (p != o.isSome)) M := by cases x <;> rfl
theorem e_in_dt : oIn p x (.dit kt) M Q = ∃ o, dfind (.dit kt) x = some o ∧ Q (.bl (p != o.isSome)) M := by cases x <;> rfl
theorem e_sl_l : oSl (.lst xs) lo hi M Q = Q (.lst (dcut xs lo hi)) M := rfl
theorem e_sl_t : oSl (.tup xs) lo hi M Q = (¬ (HT.sIx xs.length 0 lo = 0 ∧ HT.sIx xs.length xs.length hi = xs.length) ∧ Q (.tup (dcut xs lo hi)) M) := rfl
theorem e_sl_s : oSl (.str s) lo hi M Q = (s.length ≤ sizeLine ∧ Q (.str (dcut s lo hi)) M) := rfl
theorem e_len_lst : oLen (.lst xs) M Q = Q (.int xs.length) M := rfl
theorem e_len_tup : oLen (.tup xs) M Q = Q (.int xs.length) M := rfl
theorem e_len_s : oLen (.str s) M Q = (s.length ≤ sizeLine ∧ Q (.int s.length) M) := rfl
theorem e_len_c : oLen (.scr ns) M Q = Q (.int ns.length) M := rfl
theorem e_len_d : oLen (.dic kv) M Q = Q (.int kv.length) M := rfl
theorem e_int_i : oInt (.int i) M Q = Q (.int i) M := rfl
theorem e_abs_i : oAbs (.int i) M Q = Q (.int (if i < 0 then -i else i)) M := rfl
theorem e_str_i : oStr (.int i) M Q = (i.natAbs.log2 < 1920 ∧ Q (.str (numS i)) M) := rfl
theorem e_tup_l : oTupOf (.lst xs) M Q = Q (.tup xs) M := rfl
theorem e_tup_t : oTupOf (.tup xs) M Q = Q (.tup xs) M := rfl
theorem e_oLst0_l : oLst0 (.lst xs) M Q = (Q (.lst xs) M) := rfl
theorem e_oLst0_t : oLst0 (.tup xs) M Q = (Q (.lst xs) M) := rfl
theorem e_oLst0M_l : oLst0M (.lst xs) M Q = (∀ p, M p = none → Q (.ref p) (mset M p (.lst xs))) := rfl
theorem e_oLst0M_t : oLst0M (.tup xs) M Q = (∀ p, M p = none → Q (.ref p) (mset M p (.lst xs))) := rfl
theorem e_set_l : setMO (.lst xs) (.int i) d M QM = ∃ j, ixN xs.length i = some j ∧ QM (.lst (xs.set j d)) := rfl
theorem e_set_d : setMO (.dic kv) x d M QM = ∃ k, dkey x = some k ∧ kv.length < sizeLine ∧ QM (.dic (dpu kv k d)) := by cases x <;> rfl
theorem e_set_t : setMO (.dit kt) (.tup xs) d M QM = ∃ k, dkeys xs = some k ∧ kt.length < sizeLine ∧ QM (.dit (dpu kt k d)) := rfl
theorem e_key_i : dkey (.int i) = some (.inl i) := rfl
theorem e_key_s : dkey (.str s) = some (.inr s) := rfl
theorem e_isT_non_bool : isT .non .bool = false := rfl
theorem e_isT_non_int : isT .non .int = false := rfl
theorem e_isT_non_str : isT .non .str = false := rfl
theorem e_isT_non_list : isT .non .list = false := rfl
theorem e_isT_non_tuple : isT .non .tuple = false := rfl
theorem e_isT_non_dict : isT .non .dict = false := rfl
theorem e_isT_bool_bool : isT .bool .bool = true := rfl
theorem e_isT_bool_int : isT .bool .int = true := rfl
theorem e_isT_bool_str : isT .bool .str = false := rfl
theorem e_isT_bool_list : isT .bool .list = false := rfl
theorem e_isT_bool_tuple : isT .bool .tuple = false := rfl
theorem e_isT_bool_dict : isT .bool .dict = false := rfl
theorem e_isT_int_bool : isT .int .bool = false := rfl
theorem e_isT_int_int : isT .int .int = true := rfl
theorem e_isT_int_str : isT .int .str = false := rfl
theorem e_isT_int_list : isT .int .list = false := rfl
theorem e_isT_int_tuple : isT .int .tuple = false := rfl
theorem e_isT_int_dict : isT .int .dict = false := rfl
theorem e_isT_str_bool : isT .str .bool = false := rfl
theorem e_isT_str_int : isT .str .int = false := rfl
theorem e_isT_str_str : isT .str .str = true := rfl
theorem e_isT_str_list : isT .str .list = false := rfl
theorem e_isT_str_tuple : isT .str .tuple = false := rfl
theorem e_isT_str_dict : isT .str .dict = false := rfl
theorem e_isT_list_bool : isT .list .bool = false := rfl
theorem e_isT_list_int : isT .list .int = false := rfl
theorem e_isT_list_str : isT .list .str = false := rfl
theorem e_isT_list_list : isT .list .list = true := rfl
theorem e_isT_list_tuple : isT .list .tuple = false := rfl
theorem e_isT_list_dict : isT .list .dict = false := rfl
theorem e_isT_tuple_bool : isT .tuple .bool = false := rfl
theorem e_isT_tuple_int : isT .tuple .int = false := rfl
theorem e_isT_tuple_str : isT .tuple .str = false := rfl
theorem e_isT_tuple_list : isT .tuple .list = false := rfl
theorem e_isT_tuple_tuple : isT .tuple .tuple = true := rfl
theorem e_isT_tuple_dict : isT .tuple .dict = false := rfl
theorem e_isT_dict_bool : isT .dict .bool = false := rfl
theorem e_isT_dict_int : isT .dict .int = false := rfl
theorem e_isT_dict_str : isT .dict .str = false := rfl
theorem e_isT_dict_list : isT .dict .list = false := rfl
theorem e_isT_dict_tuple : isT .dict .tuple = false := rfl
theorem e_isT_dict_dict : isT .dict .dict = true := rfl
theorem e_lt : oLt (.int i) (.int j) M Q = Q (.bl (decide (i < j))) M := rfl
theorem e_le : oLe (.int i) (.int j) M Q = Q (.bl (decide (i ≤ j))) M := rfl
theorem e_gt : oGt (.int i) (.int j) M Q = Q (.bl (decide (j < i))) M := rfl
theorem e_ge : oGe (.int i) (.int j) M Q = Q (.bl (decide (j ≤ i))) M := rfl
theorem gen_nx {t : TDS} {D : DEnds} {ρ : DEnv} {M : Mp} (h : ∀ R : DEnv → Mp → Prop, (∀ ρ M, D.nx ρ M → R ρ M) → t { D with nx := R } ρ M) : t D ρ M := h D.nx fun _ _ z => z
end
end DL


set_option Elab.async false
set_option linter.all false
set_option maxRecDepth 100000
set_option maxHeartbeats 1000000
namespace PySem
namespace XO
open PySem.W PySem.Calls PyProof.Rows PySem.HandSPX
open Builtin Builtin.ObjectAttr
section
variable {prog : Program} {w : World} {A : Around} {E : Value → Shared → Prop} {R : Result → Shared → Prop} {hp : Heap} {g : Array GenState} {d : Drawn} {t : Nat} {os : OsState} {bmB : List Value} {B : String}
theorem xosa_new {K : W.Frag} {name : Str} {tk : Tok} {v : Value} {x C : Addr} {fv : Array Value} {cd : ClassData} (SB : StoreFacts B bmB "object.__setattr__" "object")
    (X : K.In hp) (hx : hp.get? x = some { cls := .ref C, data := .fields fv }) (hcd : W.clsIn K C = some cd) (hm : excTail bmB cd.mro = true) (ho : bmB.contains (.type "object") = true) (hh : cd.hasDict = true) (ha : W.findIn K (.ref C) name = some none)
    (hq : ∀ h' tk' dx, (∀ b o, b ≠ x → hp.get? b = some o → h'.get? b = some o) → hp.objs.size ≤ dx → dx ≠ x → h'.get? x = some { cls := .ref C, dict := some dx, data := .fields fv } →
      h'.Ns1 dx (fun y => if y = name then some v else none) → R (.ok (.ret .none)) ⟨h', g, d, tk', os⟩) :
    codeAny (model prog w) A (.call (.builtin "object.__setattr__") ⟨[.ref x, .str name tk, v], []⟩) R ⟨hp, g, d, t, os⟩ := by
  have I : W.InstAt hp x { cls := .ref C, data := .fields fv } C none := ⟨hx, rfl, rfl, trivial⟩
  have SF := F.store_object
  have hob : cd.mro.contains (.type "object") = true := (excTail_contains "object" _ hm).trans ho
  have ne : cd.mro.isEmpty = false := by
    cases e : cd.mro with
    | nil => rw [e] at hob; cases hob
    | cons _ _ => rfl
  have hxs : x ≠ hp.objs.size := Nat.ne_of_lt (Heap.lt_size hx)
  have sub : W.Looks (model prog w) hp (isInstance (.ref x) (.type "object")) true := I.type.andThen (W.looks_mroIn X (by unfold W.mroIn; rw [hcd, Option.bind_some, if_neg (by rw [ne]; decide), hob]))
  refine codeAny_call_builtin SF.slot.plain SF.entry (@W.check_slot (model prog w) _ _ ⟨hp, g, d, t, os⟩ "object.__setattr__" "object" "__setattr__" (.ref x) [.str name tk, v] [] _ SF.kind SF.split sub (SF.args (.ref x) (.str name tk) v) ?_)
  have hmr : W.Looks (model prog w) hp (mroOf (.ref C)) cd.mro := (W.looks_clsIn X hcd).andThen .now
  have L3 : W.Looks (model prog w) hp (storeTaker? none) none := .now
  have hcls : W.Looks (model prog w) hp (classData C) cd := W.looks_clsIn X hcd
  rw [W.osa_eq, refuse_eq]
  refine wpAny_bind (wpAny_bind (I.type.at (wpAny_bind (hmr.at ?_))))
  rw [excTail_pass _ (SB.passes _) _ hm]
  refine wpAny_pure (wpAny_bind (I.type.at (wpAny_bind ((W.looks_findIn X ha).at (wpAny_bind (L3.at ?_))))))
  show wpAny _ _ (storeInOwnDict (.ref x) (.ref C) (.str name tk) name v false) _ _ _
  obtain ⟨nm, bs, mro, ns, qn, hd, sn, sb, ab, col, del⟩ := cd
  dsimp only at hh
  subst hh
  unfold storeInOwnDict ownDictForStores
  repeat (first | with_reducible refine store_in_new ?_ ?_ | with_reducible refine wpAny_loadPart_at hx ?_ | with_reducible refine hcls.at ?_ | wp_step)
  · exact ⟨_, #[], _, (Heap.get?_update_ne _ _ _ _ hxs.symm).trans (Heap.get?_push_at rfl rfl), rfl, fun e he => absurd he (by simp), fun _ => rfl⟩
  · intro h' tk' hn' hs
    have hx₁ : (hp.push { cls := .type "dict", data := .dict #[] }).get? x = some { cls := .ref C, data := .fields fv } := Heap.get?_push_of_some _ hx
    refine hq h' tk' hp.objs.size (fun b o hb ho => ?_) (Nat.le_refl _) hxs.symm ?_ hn'
    · exact (hs.2 b (Nat.ne_of_lt (Heap.lt_size ho))).trans ((Heap.get?_update_ne _ _ _ _ hb).trans (Heap.get?_push_of_some _ ho))
    · exact (hs.2 x hxs).trans (Heap.get?_update_self _ hx₁ rfl)
theorem xosa_old {K : W.Frag} {name : Str} {tk : Tok} {v : Value} {x C dx : Addr} {fv : Array Value} {cd : ClassData} {m0 : Str → Option Value} {nl : List Str} (SB : StoreFacts B bmB "object.__setattr__" "object")
    (X : K.In hp) (hx : hp.get? x = some { cls := .ref C, dict := some dx, data := .fields fv }) (hns : hp.Ns1 dx m0) (hw : Within m0 nl) (hz : nl.length ≤ 1000) (hcd : W.clsIn K C = some cd) (hm : excTail bmB cd.mro = true) (ho : bmB.contains (.type "object") = true) (hh : cd.hasDict = true)
    (ha : W.findIn K (.ref C) name = some none)
    (hq : ∀ h' tk', (∀ b o, b ≠ dx → hp.get? b = some o → h'.get? b = some o) → h'.Ns1 dx (fun y => if y = name then some v else m0 y) → R (.ok (.ret .none)) ⟨h', g, d, tk', os⟩) :
    codeAny (model prog w) A (.call (.builtin "object.__setattr__") ⟨[.ref x, .str name tk, v], []⟩) R ⟨hp, g, d, t, os⟩ := by
  obtain ⟨oD, esD, epD, hoD, hdD, _⟩ := hns.count hw
  have I : W.InstAt hp x { cls := .ref C, dict := some dx, data := .fields fv } C (some oD) := ⟨hx, rfl, rfl, hoD⟩
  have SF := F.store_object
  have hob : cd.mro.contains (.type "object") = true := (excTail_contains "object" _ hm).trans ho
  have ne : cd.mro.isEmpty = false := by
    cases e : cd.mro with
    | nil => rw [e] at hob; cases hob
    | cons _ _ => rfl
  have sub : W.Looks (model prog w) hp (isInstance (.ref x) (.type "object")) true := I.type.andThen (W.looks_mroIn X (by unfold W.mroIn; rw [hcd, Option.bind_some, if_neg (by rw [ne]; decide), hob]))
  refine codeAny_call_builtin SF.slot.plain SF.entry (@W.check_slot (model prog w) _ _ ⟨hp, g, d, t, os⟩ "object.__setattr__" "object" "__setattr__" (.ref x) [.str name tk, v] [] _ SF.kind SF.split sub (SF.args (.ref x) (.str name tk) v) ?_)
  have hmr : W.Looks (model prog w) hp (mroOf (.ref C)) cd.mro := (W.looks_clsIn X hcd).andThen .now
  have L3 : W.Looks (model prog w) hp (storeTaker? none) none := .now
  have hcls : W.Looks (model prog w) hp (classData C) cd := W.looks_clsIn X hcd
  rw [W.osa_eq, refuse_eq]
  refine wpAny_bind (wpAny_bind (I.type.at (wpAny_bind (hmr.at ?_))))
  rw [excTail_pass _ (SB.passes _) _ hm]
  refine wpAny_pure (wpAny_bind (I.type.at (wpAny_bind ((W.looks_findIn X ha).at (wpAny_bind (L3.at ?_))))))
  show wpAny _ _ (storeInOwnDict (.ref x) (.ref C) (.str name tk) name v false) _ _ _
  obtain ⟨nm, bs, mro, ns, qn, hd, sn, sb, ab, col, del⟩ := cd
  dsimp only at hh
  subst hh
  unfold storeInOwnDict ownDictForStores
  repeat (first | with_reducible refine PySem.OEX.store_in_old hns hw hz ?_ | with_reducible refine wpAny_loadPart_at hx ?_ | with_reducible refine hcls.at ?_ | wp_step)
  intro h' tk' hn' hs
  exact hq h' tk' (fun b o hb ho => (hs.2 b hb).trans ho) hn'
end
/-! ### super().__init__(..) -/
section
variable {prog : Program} {w : World} {A : Around} {E : Value → Shared → Prop} {s : Shared} {h : Heap} {g : Array GenState} {d : Drawn} {t : Nat} {os : OsState} {K : Frag}
/-- super(), plainly -/
theorem xsuper {body : List Stmt} {q : Str} {scope : Scope} {p0 p1 : Pos} {attr : Str} {whole : Sem Value} {fd : FuncData} {ar : Arg} {vs : Array Value} {file : Str} {tf : Tok} {oc ccl cl : Value} {od cdd cld : Option Addr} {osl ccs csl : Array (Option Value)} {cdD : ClassData} {Q : Value → Shared → Prop}
    {L x C D f cda cc : Addr} {m mg mb : Str → Option Value} {ox : Obj} {odx : Option Obj}
    (X : K.In h) (hns : h.Ns L m) (hG : h.Ns mainGlobals mg) (hB : h.Ns builtinsNs mb) (hsg : mg "super" = none) (hsb : mb "super" = some (.type "super"))
    (hf : K.lookup f = some ⟨oc, od, .func fd, osl⟩) (hp : (fd.params.posonlyargs ++ fd.params.args).head? = some ar) (hv : m ar.arg = some (.ref x)) (I : InstAt h x ox C odx)
    (hcode : K.lookup cda = some ⟨ccl, cdd, .fields vs, ccs⟩) (hvs : vs[2]? = some (.str file tf)) (hfile : ((prog.main.file : Str) == file) = true)
    (hcell : K.lookup cc = some ⟨cl, cld, .cell (some (.ref D)), csl⟩) (hD : clsIn K D = some cdD) (hsub : mroIn K C (.ref D) = some true)
    (hat : (attr == ("__class__" : Str)) = false) (hks : scope.names.lookup ("super" : Str) = some .globalImplicit) (hkc : scope.names.lookup ("__class__" : Str) = some .free) (hka : scope.names.lookup ar.arg = some .local) (hk : scope.kind = .function)
    (htop : (prog.main.scope.names.lookup ("super" : Str)).isSome = false)
    (hq : ∀ h', h'.get? h.objs.size = some (ks_superObj D x C) → (∀ b o, h.get? b = some o → h'.get? b = some o) → Q (.ref h.objs.size) ⟨h', g, d, t, os⟩) :
    _root_.PySem.wpAt (model prog w) A (.func body (ksEnv q scope L f (.ref cda) cc)) (attributeBase (.Call (.Name "super" p0) [] [] p1) attr (ksEnv q scope L f (.ref cda) cc) whole) Q E ⟨h, g, d, t, os⟩ := by
  obtain ⟨oD, hD1, hD2⟩ : ∃ oD, h.get? D = some oD ∧ oD.data = .cls cdD := by
    unfold clsIn at hD
    split at hD
    · rename_i c d cd' sl ho
      cases hD
      exact ⟨_, X _ _ ho, rfl⟩
    · cases hD
  refine ks_wpAt_super_base (env := ksEnv q scope L f (.ref cda) cc) hks hkc hat rfl (X _ _ hf) rfl hp rfl (X _ _ hcode) rfl hvs hfile htop ?_
  refine ks_loadName_global hk hks (loadGlobal_builtin (env := ksEnv q scope L f (.ref cda) cc) hG hsg hB hsb ⟨rfl, ?_⟩)
  refine wpAny_loadName_free hk hkc rfl ⟨_, X _ _ hcell, rfl⟩ ?_
  refine wpAny_loadName_local hk hka hns hv ?_
  refine ks_wpAny_isType_cls hD1 hD2 ⟨rfl, ?_⟩
  refine ks_wpAny_call_super hD1 hD2 I.at_ I.cls (fun c e => ?_) (looks_mroIn X hsub) (fun h' e k => hq h' e k)
  have := I.no
  unfold notCls at this
  rw [e] at this
  exact Bool.noConfusion this
/-- the bound __init__ called -/
theorem xcall_mw {B newId initId : String} {bmB : List Value} (FB : ExcBaseFacts B newId initId bmB) {nm q : Str} {C N : Addr} {bs bm : List Value} {hdct : Bool} {sn : List Str} {sub : List Value} {ab : Bool} {col : Option Bool} {dd : Option Addr} {k0 k1 k2 k3 k5 : Option Value} {u e t0 : Addr} {rest : List Value} {Q : Value → Shared → Prop}
    (hC : h.get? C = some (excClassObj nm q C N bs bm hdct sn sub ab col dd k0 k1 k2 k3 k5 newId)) (he : h.get? e = some (excO C t0)) (hu : h.get? u = some (kxs_mw initId e)) (hrest : rest.length ≤ sizeLine)
    (hq : ∀ h' t1, (∀ b o, b ≠ e → h.get? b = some o → h'.get? b = some o) → h'.get? e = some (excO C t1) → Q .none ⟨h', g, d, t, os⟩) :
    wpAny (model prog w) A (call (.ref u) rest) Q E ⟨h, g, d, t, os⟩ := by
  refine wpAny_call (codeAny_of_tree ?_)
  show wpAny _ A.in1 (callAny (.ref u) ⟨rest, []⟩) _ _ _
  simp only [callAny]
  refine wpAny_bind (wpAny_load hu ?_)
  simp only [kxs_mw, show (Value.type "method-wrapper" == Value.type "method" || Value.type "method-wrapper" == Value.type "builtin_function_or_method" || Value.type "method-wrapper" == Value.type "method-wrapper") = true by decide, if_true]
  refine KFB.if_so (by decide) ?_
  refine wpAny_bind (check_bound_init FB.toExcCallFacts hC he rfl ?_)
  refine wpAny_bind (wpAny_pure (wpAny_pure ?_))
  refine ⟨plainId_quiet FB.init.plain _, codeAny_builtin FB.initEntry ?_⟩
  exact exc_init_tree (cls := .ref C) (t0 := t0) (dv := none) (c2 := .none) (c3 := .none) (b4 := .bool false) he hrest fun h' k e' _ => hq h' _ k e'
end
end XO
end PySem


set_option Elab.async false
set_option linter.all false
set_option maxRecDepth 100000
set_option maxHeartbeats 1000000
namespace DL
open PySem PySem.Spec PyProof.Rows L2
/-- what the written part says of an own exception's class over the built-in B -/
structure XCls (K : PySem.W.Frag) (C : Addr) (B newId initId : String) (bmB : List Value) : Prop where
  F : ExcBaseFacts B newId initId bmB
  SB : StoreFacts B bmB "object.__setattr__" "object"
  KF : PySem.W.KxsFacts B initId
  ob : bmB.contains (.type "object") = true
  cls : ∃ nm q N bs bm sn sub ab col dd k0 k1 k2 k3 k5, K.lookup C = some (excClassObj nm q C N bs bm true sn sub ab col dd k0 k1 k2 k3 k5 newId) ∧ PySem.W.excTail bmB bm = true
  sa : PySem.W.findIn K (.ref C) "__setattr__" = some (some (.builtin "object.__setattr__"))
  exC : PySem.W.subIn K (.ref C) (.type "BaseException") = some true
  exB : PySem.W.subIn K (.ref C) (.type B) = some true
  tyC : PySem.W.typeIn K (.ref C) = some (.type "type")
  kC : PySem.W.keepIn K (.ref C) = true
/-- what it says of the class's own __init__, at f -/
structure XIni (P : Program) (K : PySem.W.Frag) (C f : Addr) (initId : String) (name qual : Str) (params : Arguments) (body : List Stmt) (scope : Scope) (cda cc : Addr) (fd : FuncData) : Prop where
  fn : ∃ (oc : Value) (od : Option Addr) (kV doc pm ct : Value) (an : Option Addr) (osl : Array (Option Value)), fd = PySem.W.ksFn name qual params body scope .none kV doc pm an (.ref cda) ct cc ∧ K.lookup f = some ⟨oc, od, .func fd, osl⟩
  cd : PySem.W.codeIn K (.ref cda) qual = true
  code : ∃ (ccl : Value) (cdd : Option Addr) (vs : Array Value) (ccs : Array (Option Value)) (file : Str) (tf : Tok), K.lookup cda = some ⟨ccl, cdd, .fields vs, ccs⟩ ∧ vs[2]? = some (.str file tf) ∧ ((P.main.file : Str) == file) = true
  cell : ∃ (cl : Value) (cld : Option Addr) (csl : Array (Option Value)), K.lookup cc = some ⟨cl, cld, .cell (some (.ref C)), csl⟩
  sup : PySem.W.ks_superIn K C C "__init__" = some (some (.builtin initId))
  opq : PySem.W.nsIn K PySem.cStatics "thirdparty.any" = some none
  ini : PySem.W.findIn K (.ref C) "__init__" = some (some (.ref f))
  ty : PySem.W.typeIn K (.ref f) = some (.type "function")
  mro : PySem.W.mroIn K C (.ref C) = some true
  top : (P.main.scope.names.lookup ("super" : Str)).isSome = false
theorem XIni.binds {P : Program} {K : PySem.W.Frag} {C f cda cc : Addr} {initId : String} {name qual : Str} {params : Arguments} {body : List Stmt} {scope : Scope} {fd : FuncData} {ps : List Str} (Y : XIni P K C f initId name qual params body scope cda cc fd)
    (h : ∀ (kV doc pm ct : Value) (an : Option Addr) (us : List Value), us.length = ps.length → bindArgs (PySem.W.ksFn name qual params body scope .none kV doc pm an (.ref cda) ct cc) ⟨us, []⟩ = pure (ps.zip us)) : Binds K fd ps [] := by
  obtain ⟨oc, od, kV, doc, pm, ct, an, osl, rfl, lk⟩ := Y.fn
  exact .all fun us hl => h kV doc pm ct an us hl
structure FnScopeX (N P : List Str) (sc : Scope) : Prop where
  kind : sc.kind = .function
  co : sc.isCoroutine = false
  gen : sc.isGenerator = false
  nd : N.Nodup
  pre : N.take P.length = P
  par : ∀ x ∈ P, sc.names.lookup x = some .local
  nocell : ∀ y ∈ sc.names, y.2 ≠ .cell
  ofree : ∀ y ∈ sc.names, y.2 = .free → y.1 = ("__class__" : Str)
  sup : sc.names.lookup ("super" : Str) = some .globalImplicit
  cls : sc.names.lookup ("__class__" : Str) = some .free
def cxX (CX : CXT) (P : Program) (w : World) (K : PySem.W.Frag) (mg : Str → Option Value) (base : Heap) (N : List Str) (qual : Str) (scope : Scope) (f cda cc : Addr) (A : Around) (outer : List Env) (s : Shared) (H : Hp) (E : XK) : Cx where
  prog := P
  w := w
  K := K
  mg := mg
  base := base
  A := A.deeper (PySem.W.ksEnv qual scope s.heap.objs.size f (.ref cda) cc)
  N := N
  s_0 := s
  H_0 := H
  env := PySem.W.ksEnv qual scope s.heap.objs.size f (.ref cda) cc
  outer := outer
  stack := PySem.W.ksEnv qual scope s.heap.objs.size f (.ref cda) cc :: outer
  ex := []
  calm := true
  fn := fun x => !(x == ("__class__" : Str))
  pn := []
  xe := fun e s' => wpAny (model P w) (A.deeper (PySem.W.ksEnv qual scope s.heap.objs.size f (.ref cda) cc)) (leaving (PySem.W.ksEnv qual scope s.heap.objs.size f (.ref cda) cc) e) (fun _ s'' => CX outer H s E e s'') (fun e' s'' => CX outer H s E e' s'') s'
theorem lookup_snoc {α : Type} {y p : Str} {w : α} : ∀ {l : List (Str × α)}, (l ++ [(p, w)]).lookup y = match l.lookup y with
    | some v => some v
    | none => if y = p then some w else none
  | [] => by
    show (match y == p with | true => some w | false => none) = _
    by_cases h : y = p
    · subst h; simp
    · have h' : (y == p) = false := by simpa using h
      rw [h', if_neg h]; rfl
  | (q, v) :: r => by
    show (match y == q with | true => some v | false => (r ++ [(p, w)]).lookup y) = match (match y == q with | true => some v | false => r.lookup y) with
      | some v => some v
      | none => if y = p then some w else none
    cases h : (y == q)
    · exact lookup_snoc
    · rfl
theorem lookup_nil_of {α : Type} {y : Str} : ∀ {l : List (Str × α)}, (∀ v, (y, v) ∉ l) → l.lookup y = none
  | [], _ => rfl
  | (q, v) :: r, h => by
    show (match y == q with | true => some v | false => r.lookup y) = none
    have hq : (y == q) = false := by
      simp only [beq_eq_false_iff_ne, ne_eq]
      intro e; exact h v (by rw [e]; simp)
    rw [hq]
    exact lookup_nil_of fun v hv => h v (List.mem_cons_of_mem _ hv)
theorem zip_rev_get : ∀ {ps : List Str} {us : List Value} {i : Nat} {y : Str} {u : Value}, ps.Nodup → ps[i]? = some y → us[i]? = some u → (ps.zip us).reverse.lookup y = some u
  | [], _, _, _, _, _, h, _ => by simp at h
  | _ :: _, [], _, _, _, _, _, h => by simp at h
  | p :: ps, x :: us, 0, y, u, nd, h1, h2 => by
    simp only [List.getElem?_cons_zero, Option.some.injEq] at h1 h2
    subst h1 h2
    rw [List.zip_cons_cons, List.reverse_cons, lookup_snoc, lookup_nil_of fun v hv => (List.nodup_cons.mp nd).1 (List.of_mem_zip (List.mem_reverse.mp hv)).1]
    simp
  | p :: ps, x :: us, i + 1, y, u, nd, h1, h2 => by
    simp only [List.getElem?_cons_succ] at h1 h2
    rw [List.zip_cons_cons, List.reverse_cons, lookup_snoc, zip_rev_get (List.nodup_cons.mp nd).2 h1 h2]
section
variable {CX : CXT} {P : Program} {w : World} {K : PySem.W.Frag} {mg : Str → Option Value} {base : Heap} {N ps : List Str} {qual name : Str} {scope : Scope} {f cda cc C : Addr} {A : Around} {outer : List Env} {s : Shared} {H : Hp} {E : XK} {us : List Value} {vs : List V} {B newId initId : String} {bmB : List Value} {params : Arguments} {body rest : List Stmt} {fd : FuncData}
theorem inv_startX (S : FnScopeX N ps scope) (hd : A.handled = none) (e0 : Env0 P w K mg base A outer s H) (hl : vs.length = ps.length) (r : Vals vs us) (hcell : ∃ (cl : Value) (cld : Option Addr) (csl : Array (Option Value)) (v : Value), K.lookup cc = some ⟨cl, cld, .cell (some v), csl⟩)
    {h₀ : Heap} {t : Nat} (hns : h₀.Ns s.heap.objs.size (fun x => (ps.zip us).reverse.lookup x)) (hk : ∀ b o, s.heap.get? b = some o → h₀.get? b = some o) :
    Inv (cxX CX P w K mg base N qual scope f cda cc A outer s H E) [] (L2.start N vs) H { s with heap := h₀, toks := t } := by
  have hpl : ps.length ≤ N.length := by have := congrArg List.length S.pre; rw [List.length_take] at this; omega
  obtain ⟨cl, cld, csl, v0, hcc⟩ := hcell
  have noA : ∀ b : Addr, b ∉ (cxX CX P w K mg base N qual scope f cda cc A outer s H E).ex := fun b z => absurd (show b ∈ ([] : List Addr) from z) (by simp)
  have cl1 : ∀ {x : Str} {c : Addr}, (cxX CX P w K mg base N qual scope f cda cc A outer s H E).env.cells.lookup x = some c → x = ("__class__" : Str) ∧ c = cc := fun {x c} h => by
    have h' : (match x == ("__class__" : Str) with | true => some cc | false => none) = some c := h
    cases e : (x == ("__class__" : Str)) with
    | false => rw [e] at h'; cases h'
    | true => rw [e] at h'; exact ⟨eq_of_beq e, (Option.some.inj h').symm⟩
  have ccb := e0.bs cc _ (e0.mod.kin _ _ hcc)
  refine ⟨⟨e0.mod, S.kind, rfl, rfl, Nat.le_refl _, fun y z c h1 h2 => (cl1 h1).1.trans (cl1 h2).1.symm, fun y hy => ?_, fun y c hf h => ?_, fun _ => hd, Around.frames_deeper e0.frames, .inr ⟨rfl, rfl⟩, fun b z => absurd z (noA b), e0.bs, e0.bsz, fun b _ _ => noA b, fun b z => absurd z (noA b), e0.funs, e0.frf⟩,
    rfl, e0.bare, Un.kept hk, ⟨_, hns, fun i y v h1 h2 h3 => ?_⟩, fun y c h => ?_, e0.hok.fresh (Nat.le_refl _), fun y c h => ?_, fun p hp => absurd (show p ∈ ([] : List (Addr × Obj)) from hp) (by simp), e0.hok.kept hk, ?_⟩
  · have hy : scope.names.lookup y = some .cell ∨ scope.names.lookup y = some .free := hy
    rcases hy with hy | hy
    · exact absurd rfl (S.nocell _ (PySem.mem_of_lookup hy))
    · have := S.ofree _ (PySem.mem_of_lookup hy) rfl
      subst this
      exact ⟨cc, rfl⟩
  · have e := (cl1 h).1
    subst e
    exact absurd (show (!(Str.ofString "__class__" == ("__class__" : Str))) = true from hf) (by decide)
  · have hi : i < vs.length := by
      unfold L2.start at h2
      by_cases hi : i < vs.length
      · exact hi
      · rw [List.getElem?_append_right (by simpa using hi)] at h2
        rw [List.getElem?_replicate] at h2
        split at h2 <;> cases h2
    have ha : vs[i]? = some v := by
      unfold L2.start at h2
      rw [List.getElem?_append_left (by simpa using hi), List.getElem?_map] at h2
      cases e : vs[i]? with
      | none => rw [e] at h2; cases h2
      | some a => rw [e] at h2; cases h2; rfl
    obtain ⟨u, hu, rv⟩ := r.get ha
    have hp : ps[i]? = some y := by
      rw [← S.pre, List.getElem?_take_of_lt (by omega)]; exact h1
    have ndP : ps.Nodup := by rw [← S.pre]; exact S.nd.sublist (List.take_sublist _ _)
    exact ⟨u, rv, .inl ⟨S.par y (List.mem_of_getElem? hp), zip_rev_get ndP hp hu⟩⟩
  · obtain ⟨rfl, rfl⟩ := cl1 h
    exact ⟨some v0, ⟨_, hk _ _ ccb.1, rfl⟩⟩
  · obtain ⟨rfl, rfl⟩ := cl1 h
    exact ccb.2
  · unfold L2.start
    show _ = N.length
    rw [List.length_append, List.length_map, List.length_replicate]
    omega
/-- super().__init__(e), the first row of such an __init__ -/
theorem at_sup {pl : Sem Bool} {p0 p1 p2 p3 p4 : Pos} {e : Expr} {te : TE} {a : Addr} {ar : Arg} {σ : L2.St} {H1 : Hp} {s1 : Shared} {Q : Flow → Shared → Prop} (T : XCls K C B newId initId bmB) (Y : XIni P K C f initId name qual params body scope cda cc fd) (S : FnScopeX N ps scope)
    (har : (params.posonlyargs ++ params.args).head? = some ar) (hN : N[0]? = some ar.arg) (hka : scope.names.lookup ar.arg = some .local) (hsm : mg "super" = none)
    (I : Inv (cxX CX P w K mg base N qual scope f cda cc A outer s H E) [] σ H1 s1) (hσ : σ[0]? = some (some (.ref a))) (ha : H1 a = some (exo a C none))
    (he : PE (cxX CX P w K mg base N qual scope f cda cc A outer s H E) e te)
    (hq : te σ H1 fun _ H2 => H2 a = some (exo a C none) ∧ ∀ s2, Inv (cxX CX P w K mg base N qual scope f cda cc A outer s H E) [] σ H2 s2 → Q .next s2)
    (hev : eval (.Call (.Attribute (.Call (.Name "super" p0) [] [] p1) "__init__" p2) [e] [] p3) (PySem.W.ksEnv qual scope s.heap.objs.size f (.ref cda) cc) = (do
      let ov ← attributeBase (.Call (.Name "super" p0) [] [] p1) "__init__" (PySem.W.ksEnv qual scope s.heap.objs.size f (.ref cda) cc) (eval (.Call (.Name "super" p0) [] [] p1) (PySem.W.ksEnv qual scope s.heap.objs.size f (.ref cda) cc))
      standAt p2.atName
      let (fx, first) ← holding [ov] (getMethod ov "__init__" pl)
      callWith p3 fx first (backTo p3 (starEach [e] (PySem.W.ksEnv qual scope s.heap.objs.size f (.ref cda) cc))) []))
    (hi : interactive (PySem.W.ksEnv qual scope s.heap.objs.size f (.ref cda) cc) = false := by rfl) (hs : swapsWith (.Call (.Attribute (.Call (.Name "super" p0) [] [] p1) "__init__" p2) [e] [] p3) none p4.line (PySem.W.ksEnv qual scope s.heap.objs.size f (.ref cda) cc) = pure false := by rfl)
    (hst : starEach [e] (PySem.W.ksEnv qual scope s.heap.objs.size f (.ref cda) cc) = (false, eval e (PySem.W.ksEnv qual scope s.heap.objs.size f (.ref cda) cc)) :: starEach [] (PySem.W.ksEnv qual scope s.heap.objs.size f (.ref cda) cc) := by rfl) :
    _root_.PySem.wpAt (model P w) (A.deeper (PySem.W.ksEnv qual scope s.heap.objs.size f (.ref cda) cc)) (.func body (PySem.W.ksEnv qual scope s.heap.objs.size f (.ref cda) cc)) (exec (.Expr (.Call (.Attribute (.Call (.Name "super" p0) [] [] p1) "__init__" p2) [e] [] p3) p4) (PySem.W.ksEnv qual scope s.heap.objs.size f (.ref cda) cc)) Q
      (cxX CX P w K mg base N qual scope f cda cc A outer s H E).xe s1 := by
  obtain ⟨oc, od, kV, doc, pm, ct, an, osl, rfl, lk⟩ := Y.fn
  obtain ⟨ccl, cdd, vv, ccs, file, tf, hcode, hvs, hfile⟩ := Y.code
  obtain ⟨cl, cld, csl, hcell⟩ := Y.cell
  obtain ⟨nm, q, N0, bs, bm, sn, sub, ab, col, dd, k0, k1, k2, k3, k5, hC, hbm⟩ := T.cls
  have hcl : PySem.W.clsIn K C = some { name := nm, bases := bs, mro := .ref C :: bm, ns := N0, qualname := q, hasDict := true, slotNames := sn, subclasses := sub, abstract := ab, collection := col, hasDel := false } := by unfold PySem.W.clsIn; rw [hC] <;> rfl
  have X1 : K.In s1.heap := I.kIn
  obtain ⟨m, hns, hloc⟩ := I.loc
  obtain ⟨u, ru, lu⟩ := hloc 0 ar.arg _ hN hσ (.inl hka)
  have hm : m ar.arg = some (.ref a) := by
    obtain rfl : u = Value.ref a := ru
    rcases lu with ⟨_, h⟩ | ⟨h, _⟩
    · exact h
    · have hk : some NameKind.local = some .cell ∨ some NameKind.local = some .free := by rw [← hka]; exact h
      rcases hk with hk | hk <;> cases hk
  obtain ⟨t1, ho⟩ := exo_at I.hok ha
  have II : PySem.W.InstAt s1.heap a _ C none := ⟨ho, rfl, rfl, trivial⟩
  have mod := I.ok.mod
  obtain ⟨mb, hb1, hb2⟩ := mod.blt
  have hkeep := I.bk
  refine ks_wpAt_Expr_any (ks_wpAt_MethodCall ?_ hev) hi hs
  obtain ⟨hp, g, d, t, os⟩ := s1
  refine PySem.XO.xsuper (D := C) (C := C) X1 hns (mod.glob.keeps hkeep) (hb1.keeps hkeep) hsm ((hb2 _ (by decide +kernel)).trans (by decide +kernel)) lk har hm II hcode hvs hfile hcell hcl Y.mro (by decide +kernel) S.sup S.cls hka S.kind Y.top fun h2 e2 k2 => ?_
  have I2 : Inv (cxX CX P w K mg base N qual scope f cda cc A outer s H E) [] σ H1 ⟨h2, g, d, t, os⟩ := I.kept (t' := t) k2
  have X2 : K.In h2 := I2.kIn
  have II2 : PySem.W.InstAt h2 a _ C none := ⟨k2 _ _ ho, rfl, rfl, trivial⟩
  have hf : PySem.W.alongIn K "__init__" (((Value.ref C :: bm).dropWhile (· != .ref C)).drop 1) = some (some (.builtin initId)) := by
    have z := Y.sup
    unfold PySem.W.ks_superIn at z
    rw [hcl] at z
    exact z
  refine PySem.W.kxs_getMethod T.KF e2 (PySem.W.looks_opaque X2 Y.opq) (l₀ := .ref C :: bm) ((PySem.W.looks_clsIn X2 hcl).andThen .now) rfl X2 hf (II2.type.andThen (PySem.W.looks_subIn X2 T.exB)) (PySem.W.ks_ne X1 II hcl) (by decide +kernel) ?_
  have k3 : ∀ b o, h2.get? b = some o → (h2.push (PySem.W.kxs_mw initId a)).get? b = some o := fun b o z => Heap.get?_push_of_some _ z
  have I3 : Inv (cxX CX P w K mg base N qual scope f cda cc A outer s H E) [] σ H1 ⟨h2.push (PySem.W.kxs_mw initId a), g, d, t + 1, os⟩ := I2.kept (t' := t + 1) k3
  have hu : (h2.push (PySem.W.kxs_mw initId a)).get? h2.objs.size = some (PySem.W.kxs_mw initId a) := Heap.get?_push_size _ rfl
  have I4 : Inv (cxX CX P w K mg base N qual scope f cda cc A outer s H E) [(h2.objs.size, PySem.W.kxs_mw initId a)] σ H1 ⟨h2.push (PySem.W.kxs_mw initId a), g, d, t + 1, os⟩ := I3.pins_of fun p hp => by
    rcases List.mem_singleton.mp hp with rfl
    refine ⟨hu, I2.hok.fresh (Nat.le_refl _), ?_, ?_, fun v z => by cases z⟩
    · obtain ⟨m2, hn2, _⟩ := I2.loc
      exact Nat.ne_of_gt hn2.lt
    · intro hm2
      obtain ⟨_, o, z, _⟩ := I2.stack.mem (show h2.objs.size ∈ frs (cxX CX P w K mg base N qual scope f cda cc A outer s H E).stack from List.mem_cons_of_mem _ hm2)
      exact absurd (Heap.lt_size z) (Nat.lt_irrefl _)
  refine PySem.W.kxs_callWith (i := initId) (x := a) (by rw [hst]; rfl) ?_
  rw [hst]
  refine Calls.evalArgs_plain (Calls.spliced_cons ?_)
  refine thn (he.run _ _ σ H1 _ I4 hq) fun v s5 ⟨y, H5, I5, ry, ha5, q5⟩ => Calls.spliced_nil ?_
  obtain ⟨h5, g5, d5, t5, os5⟩ := s5
  have hu5 := (I5.pin _ (List.mem_append_right _ (List.mem_singleton.mpr rfl))).1
  refine ⟨hu5, ?_⟩
  obtain ⟨t6, ho5⟩ := exo_at I5.hok ha5
  refine PySem.XO.xcall_mw T.F (I5.kIn _ _ hC) ho5 hu5 (by show ([] ++ [v]).length ≤ _; rw [sizeLine_eq]; simp) fun h' t7 k7 e7 => ?_
  have J := I5.write (t' := t5) (x := a) (e := a) (o := exo a C none) (by rw [ha5]; exact True.intro) (.inl rfl) k7 ⟨_, e7⟩ (exo_ok e7)
  have eu : upd H5 a (exo a C none) = H5 := by
    funext b
    by_cases hb : b = a
    · rw [hb, upd_same, ha5]
    · rw [upd_ne hb]
  rw [eu] at J
  exact q5 _ (J.pins_of fun p hp => absurd hp (by simp))
end
end DL


set_option Elab.async false
set_option linter.all false
set_option maxRecDepth 100000
set_option maxHeartbeats 1000000
namespace DL
open PySem PySem.Spec PyProof.Rows L2
section
variable {CX : CXT} {P : Program} {w : World} {K : PySem.W.Frag} {mg : Str → Option Value} {base : Heap} {N ps : List Str} {qual name : Str} {scope : Scope} {f cda cc C : Addr} {B newId initId : String} {bmB : List Value} {params : Arguments} {rest : List Stmt} {fd : FuncData} {e : Expr} {p0 p1 p2 p3 p4 : Pos}
/-- THE RULE for an own exception's __init__ whose first row is super().__init__(e) -/
theorem fn_ofX {k : Nat} {sp : Sp} {ar : Arg} {pl : Sem Bool} (T : XCls K C B newId initId bmB) (Y : XIni P K C f initId name qual params (.Expr (.Call (.Attribute (.Call (.Name "super" p0) [] [] p1) "__init__" p2) [e] [] p3) p4 :: rest) scope cda cc fd) (S : FnScopeX N ps scope)
    (har : (params.posonlyargs ++ params.args).head? = some ar) (hN : N[0]? = some ar.arg) (hka : scope.names.lookup ar.arg = some .local) (hsm : mg "super" = none)
    (len : ∀ vs H Q E, sp vs H Q E → vs.length = ps.length)
    (hev : ∀ L, eval (.Call (.Attribute (.Call (.Name "super" p0) [] [] p1) "__init__" p2) [e] [] p3) (PySem.W.ksEnv qual scope L f (.ref cda) cc) = (do
      let ov ← attributeBase (.Call (.Name "super" p0) [] [] p1) "__init__" (PySem.W.ksEnv qual scope L f (.ref cda) cc) (eval (.Call (.Name "super" p0) [] [] p1) (PySem.W.ksEnv qual scope L f (.ref cda) cc))
      standAt p2.atName
      let (fx, first) ← holding [ov] (getMethod ov "__init__" pl)
      callWith p3 fx first (backTo p3 (starEach [e] (PySem.W.ksEnv qual scope L f (.ref cda) cc))) []))
    (hbody : ∀ (A : Around) (outer : List Env) (s : Shared) (H : Hp) (vs : List V) (Q : VK) (E : XK), Room k (A.deeper (PySem.W.ksEnv qual scope s.heap.objs.size f (.ref cda) cc)) → sp vs H Q E →
      ∃ (a : Addr) (te : TE) (t : TS), PE (cxX CX P w K mg base N qual scope f cda cc A outer s H E) e te ∧ PSs (cxX CX P w K mg base N qual scope f cda cc A outer s H E) rest t ∧ (L2.start N vs)[0]? = some (some (.ref a)) ∧ H a = some (exo a C none) ∧
        ∀ G : Hp → Prop, (∀ H2, H2 a = some (exo a C none) → t { nx := fun _ H' => Q .non H', rt := Q } (L2.start N vs) H2 → G H2) → te (L2.start N vs) H fun _ H2 => G H2)
    (hi : ∀ L, interactive (PySem.W.ksEnv qual scope L f (.ref cda) cc) = false := by intro _; rfl) (hs : ∀ L, swapsWith (.Call (.Attribute (.Call (.Name "super" p0) [] [] p1) "__init__" p2) [e] [] p3) none p4.line (PySem.W.ksEnv qual scope L f (.ref cda) cc) = pure false := by intro _; rfl)
    (hst : ∀ L, starEach [e] (PySem.W.ksEnv qual scope L f (.ref cda) cc) = (false, eval e (PySem.W.ksEnv qual scope L f (.ref cda) cc)) :: starEach [] (PySem.W.ksEnv qual scope L f (.ref cda) cc) := by intro _; rfl) :
    FnOk P w K mg base CX (k + 1) f fd ps sp := by
  refine ⟨len, fun A outer s H args us vs Q E hr e0 hb r hsp => ?_⟩
  have hl := len _ _ _ _ hsp
  have KX : K.In s.heap := e0.mod.kin.keeps fun b o e => (e0.bs b o e).1
  have lim : s.heap.NoLimit := e0.mod.nolimit.keeps fun b o e => (e0.bs b o e).1
  have Y' := Y
  obtain ⟨oc, od, kV, doc, pm, ct, an, osl, rfl, lk⟩ := Y.fn
  obtain ⟨cl, cld, csl, hcell⟩ := Y.cell
  refine ks_codeAny_call_defAt (fd := PySem.W.ksFn name qual params (.Expr (.Call (.Attribute (.Call (.Name "super" p0) [] [] p1) "__init__" p2) [e] [] p3) p4 :: rest) scope .none kV doc pm an (.ref cda) ct cc) (binds := ps.zip us) hr.depth (KX _ _ lk) rfl lim (PySem.W.codeRec_of KX Y.cd) rfl hb S.nocell (fun x hx => S.par _ (List.of_mem_zip hx).1) (fun h₀ hns hk => ?_) S.co S.gen S.kind
  obtain ⟨a, te, t, he, ht, hσ, ha, hq⟩ := hbody A outer s H vs Q E (hr.deeper _) hsp
  have I : Inv (cxX CX P w K mg base N qual scope f cda cc A outer s H E) [] (L2.start N vs) H { s with heap := h₀, toks := s.toks + (ps.zip us).length } := inv_startX S hr.hd e0 hl r ⟨cl, cld, csl, _, hcell⟩ hns hk
  have fin : ∀ {σ' : L2.St} {H' : Hp} {v : V} {u : Value} {s' : Shared}, Inv (cxX CX P w K mg base N qual scope f cda cc A outer s H E) [] σ' H' s' → RelV v u → Q v H' → CE outer P w H s Q u s' :=
    fun {σ' H' v u s'} J rv q => ⟨v, H', J.os, J.bare, J.base, J.hok, rv, q⟩
  refine ks_wpAt_execs_cons (at_sup (te := te) T Y' S har hN hka hsm I hσ ha he ?_ (hev _) (hi _) (hs _) (hst _))
  refine hq _ fun H2 ha2 hb2 => ⟨ha2, fun s2 I2 => ?_⟩
  refine PySem.wpAt_of_wpAny (wpAny_mono (ht.run [] s2 (L2.start N vs) H2 _ I2 hb2) (fun fl s' hs => ?_) fun e s' hs => hs)
  cases fl with
  | ret u =>
    obtain ⟨v, σ', H', J, rv, q⟩ := hs
    exact fin J rv q
  | next =>
    obtain ⟨σ', H', J, q⟩ := hs
    exact fin (v := V.non) (u := Value.none) J rfl q
  | brk =>
    obtain ⟨_, _, _, q⟩ := hs
    exact False.elim q
  | cont =>
    obtain ⟨_, _, _, q⟩ := hs
    exact False.elim q
end
/-! ### self.f = v on an exception that is being made -/
section
variable {X : Cx} {pins : List (Addr × Obj)} {σ : L2.St} {H : Hp} {s : Shared} {a C dx : Addr} {f : Str} {y : V} {u : Value} {fs : List (Str × V)} {Q : Unit → Shared → Prop} {E : Value → Shared → Prop} {A : Around} {B newId initId : String} {bmB : List Value}
theorem xst_new (T : XCls X.K C B newId initId bmB) (I : Inv X pins σ H s) (e : H a = some (exo a C none)) (hno : PySem.W.findIn X.K (.ref C) f = some none) (ry : RelV y u)
    (h : ∀ dx s', H dx = none → dx ≠ a → Inv X pins σ (upd (upd H dx (exd dx [(f, y)])) a (exo a C (some dx))) s' → Q () s') : wpAny (model X.prog X.w) A (setAttr (.ref a) f u) Q E s := by
  obtain ⟨nm, q, N, bs, bm, sn, sub, ab, col, dd, k0, k1, k2, k3, k5, hC, hbm⟩ := T.cls
  have hcl : PySem.W.clsIn X.K C = some { name := nm, bases := bs, mro := .ref C :: bm, ns := N, qualname := q, hasDict := true, slotNames := sn, subclasses := sub, abstract := ab, collection := col, hasDel := false } := by unfold PySem.W.clsIn; rw [hC] <;> rfl
  obtain ⟨t1, ho⟩ := exo_at I.hok e
  obtain ⟨hp, g, d, t, os⟩ := s
  refine PySem.W.set_plain I.kIn (ox := { cls := .ref C, dict := none, data := .fields #[.ref t1, .none, .none, .none, .bool false, .none] }) (od := none) ⟨ho, rfl, rfl, trivial⟩ T.sa ?_
  refine PySem.XO.xosa_new T.SB I.kIn ho hcl (show PySem.W.excTail bmB (.ref C :: bm) = true from hbm) T.ob rfl hno (fun h' tk' dx k dn dne hx hn => ?_)
  have hnd : H dx = none := I.hok.fresh dn
  have nd : ∀ {b : Addr} {o : Obj}, hp.get? b = some o → b ≠ dx := fun {b o} q => Nat.ne_of_lt (Nat.lt_of_lt_of_le (Heap.lt_size q) dn)
  have na : ∀ {b : Addr}, H b = none → b ≠ a := fun {b} n z => by
    rw [z, e] at n
    cases n
  have Un1 : Un X.fs [] H (upd (upd H dx (exd dx [(f, y)])) a (exo a C (some dx))) hp h' := {
    keep := fun b o q n _ _ => k b o (na n) q
    slot := fun b o q n _ _ => ⟨o.slots, k b o (na n) q⟩
    free := fun b o q n _ => by rw [upd_ne (na n), upd_ne (nd q)]; exact n
    there := fun b o q _ => by
      by_cases hb : b = a
      · exact ⟨_, by rw [hb]; exact hx⟩
      · exact ⟨o, k b o hb q⟩
    tups := fun b xs q => by rw [upd_ne (at_ne e q exo_tup), upd_ne (ne_of_none q hnd)]; exact q
    frzs := fun b o v q => by rw [upd_ne (at_ne e q exo_frz), upd_ne (ne_of_none q hnd)]; exact q
    tbls := fun b ps q => ⟨#[], by rw [upd_ne (at_ne e q exo_tbl), upd_ne (ne_of_none q hnd), q]; simp⟩ }
  refine h dx _ hnd dne (I.un (t' := tk') Un1 fun b o q => ?_)
  by_cases hb : b = a
  · subst hb
    rw [upd_same] at q
    cases q
    exact exo_ok hx
  · rw [upd_ne hb] at q
    by_cases hd : b = dx
    · subst hd
      rw [upd_same] at q
      cases q
      exact exd_ok hn (relO_put (fs := []) ry fun g => True.intro)
    · rw [upd_ne hd] at q
      exact (I.hok b o q).stay (fun c v hc z => k c v (by
          rcases hc with hc | hc
          · rw [hc]
            exact hb
          · exact at_ne e hc exo_own) z)
        (fun c hc => by rw [upd_ne (at_ne e hc exo_own), upd_ne (ne_of_none hc hnd)]; exact hc) (fun c xs hc => by rw [upd_ne (at_ne e hc exo_tup), upd_ne (ne_of_none hc hnd)]; exact hc)
theorem xst_old (T : XCls X.K C B newId initId bmB) (I : Inv X pins σ H s) (e : H a = some (exo a C (some dx))) (ed : H dx = some (exd dx fs)) (hl : fs.length ≤ 900) (hno : PySem.W.findIn X.K (.ref C) f = some none) (ry : RelV y u)
    (h : ∀ s', Inv X pins σ (upd H dx (exd dx ((f, y) :: fs))) s' → Q () s') : wpAny (model X.prog X.w) A (setAttr (.ref a) f u) Q E s := by
  obtain ⟨nm, q, N, bs, bm, sn, sub, ab, col, dd, k0, k1, k2, k3, k5, hC, hbm⟩ := T.cls
  have hcl : PySem.W.clsIn X.K C = some { name := nm, bases := bs, mro := .ref C :: bm, ns := N, qualname := q, hasDict := true, slotNames := sn, subclasses := sub, abstract := ab, collection := col, hasDel := false } := by unfold PySem.W.clsIn; rw [hC] <;> rfl
  obtain ⟨t1, ho⟩ := exo_at I.hok e
  obtain ⟨mA, hns, rel⟩ := exd_at I.hok ed
  have hw := within_of rel
  obtain ⟨hp, g, d, t, os⟩ := s
  obtain ⟨oD, _, _, hoD, _, _⟩ := hns.count hw
  refine PySem.W.set_plain I.kIn (ox := { cls := .ref C, dict := some dx, data := .fields #[.ref t1, .none, .none, .none, .bool false, .none] }) (od := some oD) ⟨ho, rfl, rfl, hoD⟩ T.sa ?_
  refine PySem.XO.xosa_old T.SB I.kIn ho hns hw (by rw [List.length_map]; omega) hcl (show PySem.W.excTail bmB (.ref C :: bm) = true from hbm) T.ob rfl hno (fun h' tk' k hn => ?_)
  have hd : ∃ o, h'.get? dx = some o := by
    obtain ⟨o, _, _, e', _⟩ := hn
    exact ⟨o, e'⟩
  exact h _ (I.write (t' := tk') (x := dx) (e := dx) (o := exd dx ((f, y) :: fs)) (by rw [ed]; exact True.intro) (.inl rfl) k hd (exd_ok hn (relO_put ry rel)))
end
/-- a class of the program -/
def XC? (K : PySem.W.Frag) (C : Addr) : Prop := ∃ B newId initId bmB, XCls K C B newId initId bmB
def tXst (K : PySem.W.Frag) (f : Str) (to te : TE) : TS := fun D σ H => te σ H fun y H1 => to σ H1 fun x H2 => ∃ a C : Addr, x = .ref a ∧ XC? K C ∧ PySem.W.findIn K (.ref C) f = some none ∧
  ((H2 a = some (exo a C none) ∧ ∀ dx, H2 dx = none → dx ≠ a → D.nx σ (upd (upd H2 dx (exd dx [(f, y)])) a (exo a C (some dx)))) ∨
    ∃ (dx : Addr) (fs : List (Str × V)), H2 a = some (exo a C (some dx)) ∧ H2 dx = some (exd dx fs) ∧ fs.length ≤ 900 ∧ D.nx σ (upd H2 dx (exd dx ((f, y) :: fs))))
section
variable {X : Cx} {o e : Expr} {es : List Expr} {to te : TE} {ta : TA} {f : Str} {p p' p1 p2 pos : Pos}
theorem ps_xst (ho : PE X o to) (he : PE X e te) (hs : swapsWith e (some (.Attribute o f p')) pos.line X.env = pure false := by rfl) : PS X (.Assign [.Attribute o f p'] e pos) (tXst X.K f to te) := by
  refine ⟨fun pins s σ H D I h => ?_⟩
  refine plainObj_wpAny_Assign_Attribute (thn (he.run pins s σ H _ I h) fun v s1 ⟨y, H1, I1, r1, q1⟩ => thn (ho.run pins s1 σ H1 _ I1 q1) fun u s2 ⟨x, H2, I2, r2, a, C, ex, ⟨_, _, _, _, T⟩, hno, q⟩ => ?_) hs
  subst ex
  obtain rfl : u = Value.ref a := r2
  rcases q with ⟨ea, q⟩ | ⟨dx, fs, ea, ed, hl, q⟩
  · exact xst_new T I2 ea hno r1 fun dx s' n ne J => ⟨σ, _, J, q dx n ne⟩
  · exact xst_old T I2 ea ed hl hno r1 fun s' J => ⟨σ, _, J, q⟩
end
/-! ### C(e, ..), C() -/
/-- the end, where no field was set -/
theorem mk_endN {X : Cx} {pins : List (Addr × Obj)} {σ : L2.St} {H1 H2 : Hp} {Q : XK} {hp hp2 h2 : Heap} {g1 g2 : Array GenState} {d1 d2 : Drawn} {t1 t2 : Nat} {os1 os2 : OsState} {a C : Addr} (T : Raises X (.ref C)) (I1 : Inv X pins σ H1 ⟨hp, g1, d1, t1, os1⟩)
    (ha : hp.objs.size ≤ a) (k : ∀ b o, hp.get? b = some o → hp2.get? b = some o) (un : Un (frs X.stack) [] (upd H1 a (exo a C none)) H2 hp2 h2) (hok : HOk X.prog X.w H2 h2) (ho : os2 = os1) (hb : AllBare g2)
    (ea : H2 a = some (exo a C none)) (q : Q (.ref C) none (del H2 a)) : MkP X pins σ Q (.ref a) ⟨h2, g2, d2, t2, os2⟩ := by
  obtain ⟨t0, hoe⟩ := exo_at hok ea
  have hn : H1 a = none := I1.hok.fresh ha
  obtain ⟨G, g1', g2'⟩ := restrict h2 fun b => decide (b ≠ a)
  have gk : ∀ b, b ≠ a → G.get? b = h2.get? b := fun b hb => g1' b (decide_eq_true hb)
  have ge : G.get? a = none := g2' a (by simp)
  have nha : ∀ {b : Addr} {o : Obj}, hp.get? b = some o → b ≠ a := fun {b o} z => Nat.ne_of_lt (Nat.lt_of_lt_of_le (Heap.lt_size z) ha)
  have up : ∀ {b : Addr}, b ≠ a → H1 b = none → upd H1 a (exo a C none) b = none := fun {b} hb n => by rw [upd_ne hb]; exact n
  have U : Un (frs X.stack) [] H1 (del H2 a) hp G := {
    keep := fun b o z n hf hx => by
      rw [gk b (nha z)]
      exact un.keep b o (k b o z) (up (nha z) n) hf hx
    slot := fun b o z n hf hx => by
      rw [gk b (nha z)]
      exact un.slot b o (k b o z) (up (nha z) n) hf hx
    free := fun b o z n hx => by
      rw [del_ne (nha z)]
      exact un.free b o (k b o z) (up (nha z) n) hx
    there := fun b o z hx => by
      rw [gk b (nha z)]
      exact un.there b o (k b o z) hx
    tups := fun b xs z => by
      rw [del_ne (ne_of_none z hn)]
      exact un.tups b xs (by rw [upd_ne (ne_of_none z hn)]; exact z)
    frzs := fun b o v z => by
      rw [del_ne (ne_of_none z hn)]
      exact un.frzs b o v (by rw [upd_ne (ne_of_none z hn)]; exact z)
    tbls := fun b ps z => by
      rw [del_ne (ne_of_none z hn)]
      exact un.tbls b ps (by rw [upd_ne (ne_of_none z hn)]; exact z) }
  have hok3 : HOk X.prog X.w (del H2 a) G := fun b o z => by
    have hba : b ≠ a := fun e => by
      rw [e, del_same] at z
      cases z
    rw [del_ne hba] at z
    have noa : ∀ {c : Addr}, H2 c = some (.own b) → c ≠ a := fun {c} hc => at_ne ea hc exo_own
    exact (hok b o z).stay (fun c v hc y => by
        have hca : c ≠ a := by
          rcases hc with hc | hc
          · rw [hc]
            exact hba
          · exact noa hc
        rw [gk c hca]
        exact y)
      (fun c hc => by rw [del_ne (noa hc)]; exact hc) (fun c xs hc => by rw [del_ne (at_ne ea hc exo_tup)]; exact hc)
  have J : Inv X pins σ (del H2 a) ⟨G, g2, d2, t2, os2⟩ := I1.call' (ch := []) ho U hok3 hb (fun b z => absurd z (by simp))
  refine ⟨a, _, _, ⟨G, g2, d2, t2, os2⟩, _, .ref C, none, rfl, J, fun b o z => ?_, ge, hoe, ⟨rfl, rfl⟩, rfl, rfl, del_same, rfl, hb, T, q⟩
  by_cases hba : b = a
  · rw [hba, ge] at z
    cases z
  · exact (gk b hba).symm.trans z
def tMkX (C : Addr) (sp : Sp) (ta : TA) : L2.St → Hp → XK → Prop := fun σ H Q => ta σ H fun vs H1 => vs.length ≤ 1000 ∧ ∀ a, H1 a = none → sp (.ref a :: vs) (upd H1 a (exo a C none))
  (fun v H2 => v = .non ∧ ((H2 a = some (exo a C none) ∧ Q (.ref C) none (del H2 a)) ∨ ∃ (d : Addr) (fs : List (Str × V)), H2 a = some (exo a C (some d)) ∧ H2 d = some (exd d fs) ∧ H1 d = none ∧ Q (.ref C) (some d) (upd (del H2 a) d (.xd fs)))) (fun _ _ _ => False)
section
variable {X : Cx} {CX : CXT} {x : Str} {C fI : Addr} {k : Nat} {fd : FuncData} {ps : List Str} {sp : Sp} {e : Expr} {es : List Expr} {ta : TA} {p pos : Pos} {B newId initId : String} {bmB : List Value}
theorem xmake {pins : List (Addr × Obj)} {σ : L2.St} {H1 : Hp} {s1 : Shared} {Q : XK} {us : List Value} {vs : List V} (T : XCls X.K C B newId initId bmB) (iC : PySem.W.findIn X.K (.ref C) "__init__" = some (some (.ref fI))) (tI : PySem.W.typeIn X.K (.ref fI) = some (.type "function"))
    (F1 : FnOk X.prog X.w X.K X.mg X.base CX k fI fd ps sp) (hr : Room (k + 1) X.A) (hb : Binds X.K fd ps []) (hx : Passes CX X (fun _ _ _ => False)) (I1 : Inv X pins σ H1 s1) (r1 : Vals vs us) (hz : vs.length ≤ 1000)
    (q1 : ∀ a, H1 a = none → sp (.ref a :: vs) (upd H1 a (exo a C none))
      (fun v H2 => v = .non ∧ ((H2 a = some (exo a C none) ∧ Q (.ref C) none (del H2 a)) ∨ ∃ (d : Addr) (fs : List (Str × V)), H2 a = some (exo a C (some d)) ∧ H2 d = some (exd d fs) ∧ H1 d = none ∧ Q (.ref C) (some d) (upd (del H2 a) d (.xd fs)))) (fun _ _ _ => False)) :
    wpAny (model X.prog X.w) X.A (call (.ref C) us) (MkP X pins σ Q) X.xe s1 := by
  obtain ⟨nm, q, N, bs, bm, sn, sub, ab, col, dd, k0, k1, k2, k3, k5, hC, hbm⟩ := T.cls
  obtain ⟨hp, g, dr, tk, os⟩ := s1
  have hsz : hp.objs.size ≤ hp.objs.size + 1 := Nat.le_succ _
  have hn : H1 (hp.objs.size + 1) = none := I1.hok.fresh hsz
  have hq := q1 (hp.objs.size + 1) hn
  have kk : ∀ b o, hp.get? b = some o → ((hp.push (PySem.W.kdv_tup us)).push (PySem.HandSPX.excO C hp.objs.size)).get? b = some o := fun b o e => Heap.get?_push_of_some _ (Heap.get?_push_of_some _ e)
  have hget : ((hp.push (PySem.W.kdv_tup us)).push (PySem.HandSPX.excO C hp.objs.size)).get? (hp.objs.size + 1) = some (PySem.HandSPX.excO C hp.objs.size) := by heap_get
  have I2 : Inv X pins σ (upd H1 (hp.objs.size + 1) (exo (hp.objs.size + 1) C none)) ⟨(hp.push (PySem.W.kdv_tup us)).push (PySem.HandSPX.excO C hp.objs.size), g, dr, tk, os⟩ :=
    I1.laid (t' := tk) (a := hp.objs.size + 1) (o := exo (hp.objs.size + 1) C none) (h' := (hp.push (PySem.W.kdv_tup us)).push (PySem.HandSPX.excO C hp.objs.size)) kk hsz (exo_ok hget)
  have r2 : Vals (V.ref (hp.objs.size + 1) :: vs) (Value.ref (hp.objs.size + 1) :: us) := .cons rfl r1
  have hl : (Value.ref (hp.objs.size + 1) :: us).length = ps.length := by
    have e := r2.length
    rw [F1.len _ _ _ _ hq] at e
    exact e.symm
  have hus : us.length ≤ sizeLine := by
    rw [← Paired.length r1, sizeLine_eq]
    omega
  have hbb := hb ⟨(hp.push (PySem.W.kdv_tup us)).push (PySem.HandSPX.excO C hp.objs.size), g, dr, tk, os⟩ (Value.ref (hp.objs.size + 1) :: us) I2.kIn (by rw [List.append_nil]; exact hl)
  rw [List.append_nil] at hbb
  refine wpAny_call (PySem.HandSPX.call_own T.F (fun Y => PySem.W.excTail_contains Y bm hbm) (I1.kIn _ _ hC) (PySem.W.looks_findIn I1.kIn iC) (fun self => PySem.W.bind_fn I1.kIn self tI) hus
    (codeAny_mono (F1.run _ X.stack _ _ ⟨Value.ref (hp.objs.size + 1) :: us, []⟩ (Value.ref (hp.objs.size + 1) :: us) _ _ (fun _ _ _ => False) (hr.make C us []) (I2.env0.make C us []) hbb r2 hq) fun r s' hq' => ?_))
  cases r with
  | error er => exact hx pins σ _ _ er s' I2 hq'
  | ok fl =>
    cases fl with
    | ret u =>
      obtain ⟨v, H2, os2, bare2, un2, hok2, rv, ev, q2⟩ := hq'
      subst ev
      obtain ⟨h2, g2, d2, t2, os'⟩ := s'
      rcases q2 with ⟨ea, q2⟩ | ⟨d, fs, ea, ed, hd1, q2⟩
      · exact ⟨rv, mk_endN (raises_own T.exC T.tyC) I1 hsz kk un2 hok2 os2 bare2 ea q2⟩
      · exact ⟨rv, mk_end (raises_own T.exC T.tyC) I1 hsz kk un2 hok2 os2 bare2 ea ed hd1 q2⟩
    | next => exact False.elim hq'
    | brk => exact False.elim hq'
    | cont => exact False.elim hq'
theorem pmkX (T : XCls X.K C B newId initId bmB) (iC : PySem.W.findIn X.K (.ref C) "__init__" = some (some (.ref fI))) (tI : PySem.W.typeIn X.K (.ref fI) = some (.type "function"))
    (F1 : FnOk X.prog X.w X.K X.mg X.base CX k fI fd ps sp) (hr : Room (k + 1) X.A) (hb : Binds X.K fd ps []) (hx : Passes CX X (fun _ _ _ => False)) (hg : Gl X x) (hm : X.mg x = some (.ref C)) (ha : PA X (e :: es) ta)
    (hdb : (x == ("__debug__" : Str)) = false := by decide) (he : starEach (e :: es) X.env = (false, eval e X.env) :: starEach es X.env := by rfl) (hpl : (backTo pos (starEach es X.env)).any (·.1) = false := by rfl) :
    PMk X (.Call (.Name x p) (e :: es) [] pos) (tMkX C sp ta) := by
  intro pins s σ H Q I h
  refine wpAny_Call_Name_kw (ld_glob I hg hm ?_ hdb)
  refine PySem.W.callWith_K (h₀ := X.base) I.ok.mod.kin T.kC (thn (ha.run pos pins s σ H _ I h) fun us s1 ⟨vs, H1, I1, r1, hz, q1⟩ => ⟨I1.kIn, ?_⟩) he hpl
  exact xmake T iC tI F1 hr hb hx I1 r1 hz q1
theorem pmkX0 (T : XCls X.K C B newId initId bmB) (iC : PySem.W.findIn X.K (.ref C) "__init__" = some (some (.ref fI))) (tI : PySem.W.typeIn X.K (.ref fI) = some (.type "function"))
    (F1 : FnOk X.prog X.w X.K X.mg X.base CX k fI fd ps sp) (hr : Room (k + 1) X.A) (hb : Binds X.K fd ps []) (hx : Passes CX X (fun _ _ _ => False)) (hg : Gl X x) (hm : X.mg x = some (.ref C))
    (hdb : (x == ("__debug__" : Str)) = false := by decide) : PMk X (.Call (.Name x p) [] [] pos) (tMkX C sp tNil) := by
  intro pins s σ H Q I h
  refine wpAny_Call_Name_kw (ld_glob I hg hm ?_ hdb)
  obtain ⟨hz, q1⟩ := h
  exact PySem.W.callWith_K0 I.kIn T.kC (xmake (us := []) T iC tI F1 hr hb hx I .nil hz q1)
end
end DL


set_option Elab.async false
set_option linter.all false
set_option maxRecDepth 100000
set_option maxHeartbeats 1000000
namespace DL
open PySem PySem.Spec PyProof.Rows L2
/-! ### __init__ without fields, with one -/
def sp0 (C : Addr) : Sp := fun vs H Q _ => ∃ a, vs = [.ref a] ∧ H a = some (exo a C none) ∧ Q .non H
def sp1 (C : Addr) (f : Str) (ok : V → Prop) : Sp := fun vs H Q _ => ∃ a x, vs = [.ref a, x] ∧ H a = some (exo a C none) ∧ ok x ∧ ∀ dx, H dx = none → dx ≠ a → Q .non (upd (upd H dx (exd dx [(f, x)])) a (exo a C (some dx)))
section
variable {CX : CXT} {P : Program} {w : World} {K : PySem.W.Frag} {mg : Str → Option Value} {base : Heap} {N ps : List Str} {qual name : Str} {scope : Scope} {f cda cc C : Addr} {B newId initId : String} {bmB : List Value} {params : Arguments} {fd : FuncData} {p0 p1 p2 p3 p4 : Pos}
theorem fn_S0 {ar : Arg} {pl : Sem Bool} {m : Str} {j} {pe : Pos} (T : XCls K C B newId initId bmB) (Y : XIni P K C f initId name qual params [.Expr (.Call (.Attribute (.Call (.Name "super" p0) [] [] p1) "__init__" p2) [.Constant (.str m) j pe] [] p3) p4] scope cda cc fd) (S : FnScopeX N ps scope)
    (har : (params.posonlyargs ++ params.args).head? = some ar) (hN : N[0]? = some ar.arg) (hka : scope.names.lookup ar.arg = some .local) (hsm : mg "super" = none) (hp : ps.length = 1)
    (hev : ∀ L, eval (.Call (.Attribute (.Call (.Name "super" p0) [] [] p1) "__init__" p2) [.Constant (.str m) j pe] [] p3) (PySem.W.ksEnv qual scope L f (.ref cda) cc) = (do
      let ov ← attributeBase (.Call (.Name "super" p0) [] [] p1) "__init__" (PySem.W.ksEnv qual scope L f (.ref cda) cc) (eval (.Call (.Name "super" p0) [] [] p1) (PySem.W.ksEnv qual scope L f (.ref cda) cc))
      standAt p2.atName
      let (fx, first) ← holding [ov] (getMethod ov "__init__" pl)
      callWith p3 fx first (backTo p3 (starEach [.Constant (.str m) j pe] (PySem.W.ksEnv qual scope L f (.ref cda) cc))) []))
    (hi : ∀ L, interactive (PySem.W.ksEnv qual scope L f (.ref cda) cc) = false := by intro _; rfl) : FnOk P w K mg base CX 1 f fd ps (sp0 C) := by
  refine fn_ofX T Y S har hN hka hsm (fun vs H Q E h => by obtain ⟨a, rfl, _⟩ := h; exact hp.symm) hev (fun A outer s H vs Q E hr h => ?_) (hi := hi)
  obtain ⟨a, rfl, ha, q⟩ := h
  exact ⟨a, _, _, pe_str, pss_nil, rfl, ha, fun G hG => hG H ha q⟩
theorem fn_S1 {ar : Arg} {pl : Sem Bool} {fl x self : Str} {ok : V → Prop} {e : Expr} {pa pb pc pd : Pos} (T : XCls K C B newId initId bmB) (Y : XIni P K C f initId name qual params [.Expr (.Call (.Attribute (.Call (.Name "super" p0) [] [] p1) "__init__" p2) [e] [] p3) p4, .Assign [.Attribute (.Name self pa) fl pb] (.Name x pc) pd] scope cda cc fd) (S : FnScopeX N ps scope)
    (har : (params.posonlyargs ++ params.args).head? = some ar) (hN : N[0]? = some ar.arg) (hka : scope.names.lookup ar.arg = some .local) (hsm : mg "super" = none) (hp : ps.length = 2) (hno : PySem.W.findIn K (.ref C) fl = some none)
    (hx1 : N[1]? = some x) (hx2 : scope.names.lookup x = some .local) (hs1 : N[0]? = some self) (hs2 : scope.names.lookup self = some .local) (hNl : N.length = 2)
    (dx1 : (x == ("__debug__" : Str)) = false) (dx2 : (x == ("__classdict__" : Str)) = false) (ds1 : (self == ("__debug__" : Str)) = false) (ds2 : (self == ("__classdict__" : Str)) = false)
    (hsw : ∀ L, swapsWith (.Name x pc) (some (.Attribute (.Name self pa) fl pb)) pd.line (PySem.W.ksEnv qual scope L f (.ref cda) cc) = pure false)
    (he : ∀ (A : Around) (outer : List Env) (s : Shared) (H : Hp) (E : XK), ∃ te, PE (cxX CX P w K mg base N qual scope f cda cc A outer s H E) e te ∧ ∀ (y : V) (a : Addr) (H : Hp) (G : Hp → Prop), ok y → G H → te [some (.ref a), some y] H fun _ H2 => G H2)
    (hev : ∀ L, eval (.Call (.Attribute (.Call (.Name "super" p0) [] [] p1) "__init__" p2) [e] [] p3) (PySem.W.ksEnv qual scope L f (.ref cda) cc) = (do
      let ov ← attributeBase (.Call (.Name "super" p0) [] [] p1) "__init__" (PySem.W.ksEnv qual scope L f (.ref cda) cc) (eval (.Call (.Name "super" p0) [] [] p1) (PySem.W.ksEnv qual scope L f (.ref cda) cc))
      standAt p2.atName
      let (fx, first) ← holding [ov] (getMethod ov "__init__" pl)
      callWith p3 fx first (backTo p3 (starEach [e] (PySem.W.ksEnv qual scope L f (.ref cda) cc))) []))
    (hst : ∀ L, starEach [e] (PySem.W.ksEnv qual scope L f (.ref cda) cc) = (false, eval e (PySem.W.ksEnv qual scope L f (.ref cda) cc)) :: starEach [] (PySem.W.ksEnv qual scope L f (.ref cda) cc) := by intro _; rfl)
    (hs : ∀ L, swapsWith (.Call (.Attribute (.Call (.Name "super" p0) [] [] p1) "__init__" p2) [e] [] p3) none p4.line (PySem.W.ksEnv qual scope L f (.ref cda) cc) = pure false := by intro _; rfl)
    (hi : ∀ L, interactive (PySem.W.ksEnv qual scope L f (.ref cda) cc) = false := by intro _; rfl) : FnOk P w K mg base CX 1 f fd ps (sp1 C fl ok) := by
  refine fn_ofX T Y S har hN hka hsm (fun vs H Q E h => by obtain ⟨a, x, rfl, _⟩ := h; exact hp.symm) hev (fun A outer s H vs Q E hr h => ?_) (hs := hs) (hst := hst) (hi := hi)
  obtain ⟨a, y, rfl, ha, hy, q⟩ := h
  obtain ⟨te, h1, h2⟩ := he A outer s H E
  have st : L2.start N [V.ref a, y] = [some (.ref a), some y] := by unfold L2.start; rw [hNl]; rfl
  refine ⟨a, _, _, h1, pss_one (ps_xst (pe_var hs1 (.inl hs2) ds1 ds2) (pe_var hx1 (.inl hx2) dx1 dx2) (hsw _)), by rw [st]; rfl, ha, fun G hG => ?_⟩
  rw [st] at hG ⊢
  refine h2 y a H G hy (hG H ha ?_)
  exact ⟨y, rfl, .ref a, rfl, a, C, rfl, ⟨_, _, _, _, T⟩, hno, .inl ⟨ha, q⟩⟩
end
/-! ### exceptions raised, at the level of data -/
abbrev TDX := DEnv → Mp → (List (Str × D) → Mp → Prop) → Prop
def lowX (K : PySem.W.Frag) (E0 : L2.St → XK) (Ee : DEnv → DXK) (C : Addr) (t : TDX) : L2.St → Hp → XK → Prop := fun σ H Q => ∃ F M ρ Qx, SS K E0 Ee σ H F M ρ ∧ t ρ M Qx ∧
  ∀ F' M' H' d xs ds, Step K F M H F' M' H' → XAt H' d xs → RpF K F' xs ds → Qx ds M' → Q (.ref C) d H'
def DX (X : Cx) (E0 : L2.St → XK) (Ee : DEnv → DXK) (C : Addr) (e : Expr) (t : TDX) : Prop := PMk X e (lowX X.K E0 Ee C t)
theorem PMimp {X : Cx} {e : Expr} {t u : L2.St → Hp → XK → Prop} (h : PMk X e t) (i : ∀ σ H Q, u σ H Q → t σ H Q) : PMk X e u := fun pins s σ H Q I q => h pins s σ H Q I (i _ _ _ q)
section
variable {X : Cx} {E0 : L2.St → XK} {Ee : DEnv → DXK} {x f : Str} {C fI : Addr} {k : Nat} {fd : FuncData} {ps : List Str} {e : Expr} {te : TDE} {p pos : Pos} {B newId initId : String} {bmB : List Value}
def dX0 : TDX := fun _ M Q => Q [] M
def dX1 (f : Str) (ok : D → Prop) (te : TDE) : TDX := fun ρ M Q => te ρ M fun d M1 => ok d ∧ Q [(f, d)] M1
theorem upd_upd_del {H : Hp} {a d : Addr} {o o1 o2 : HO} (ha : H a = none) (ne : d ≠ a) : upd (del (upd (upd (upd H a o) d o1) a o2) a) d (.xd fs) = upd H d (.xd fs) := by
  funext b
  by_cases h1 : b = d
  · subst h1; rw [upd_same, upd_same]
  · rw [upd_ne h1, upd_ne h1]
    by_cases h2 : b = a
    · subst h2; rw [del_same, ha]
    · rw [del_ne h2, upd_ne h2, upd_ne h1, upd_ne h2]
theorem del_upd {H : Hp} {a : Addr} {o : HO} (ha : H a = none) : del (upd H a o) a = H := by
  funext b
  by_cases h2 : b = a
  · subst h2; rw [del_same, ha]
  · rw [del_ne h2, upd_ne h2]
theorem dx_S0 (T : XCls X.K C B newId initId bmB) (iC : PySem.W.findIn X.K (.ref C) "__init__" = some (some (.ref fI))) (tI : PySem.W.typeIn X.K (.ref fI) = some (.type "function"))
    (F1 : FnOk X.prog X.w X.K X.mg X.base (L2.CX X.prog X.w) 1 fI fd ps (sp0 C)) (hr : Room k X.A) (hk : 2 ≤ k) (hb : Binds X.K fd ps []) (hg : Gl X x) (hm : X.mg x = some (.ref C)) (hdb : (x == ("__debug__" : Str)) = false := by decide) : DX X E0 Ee C (.Call (.Name x p) [] [] pos) dX0 :=
  PMimp (pmkX0 T iC tI F1 (hr.mono hk) hb (fun _ _ _ _ _ _ _ c => by obtain ⟨_, _, _, _, _, _, _, _, _, _, _, _, z⟩ := c; exact z.elim) hg hm hdb) fun σ H Q ⟨F, M, ρ, Qx, ss, q, kq⟩ => by
    refine ⟨Nat.zero_le _, fun a ha => ⟨a, rfl, upd_same, rfl, .inl ⟨upd_same, ?_⟩⟩⟩
    rw [del_upd ha]
    exact kq _ _ _ _ _ _ (.refl ss.hm) rfl .nil q
theorem dx_S1 {okV : V → Prop} {ok : D → Prop} (T : XCls X.K C B newId initId bmB) (iC : PySem.W.findIn X.K (.ref C) "__init__" = some (some (.ref fI))) (tI : PySem.W.typeIn X.K (.ref fI) = some (.type "function"))
    (F1 : FnOk X.prog X.w X.K X.mg X.base (L2.CX X.prog X.w) 1 fI fd ps (sp1 C f okV)) (hok : ∀ F v d, Rp X.K F v d → ok d → okV v) (hr : Room k X.A) (hk : 2 ≤ k) (hb : Binds X.K fd ps []) (hg : Gl X x) (hm : X.mg x = some (.ref C)) (he : DE X E0 Ee e te)
    (h1 : starEach [e] X.env = (false, eval e X.env) :: starEach [] X.env := by rfl) (hdb : (x == ("__debug__" : Str)) = false := by decide) (hpl : (backTo pos (starEach [] X.env)).any (·.1) = false := by rfl) : DX X E0 Ee C (.Call (.Name x p) [e] [] pos) (dX1 f ok te) :=
  PMimp (pmkX T iC tI F1 (hr.mono hk) hb (fun _ _ _ _ _ _ _ c => by obtain ⟨_, _, _, _, _, _, _, _, _, _, _, _, z⟩ := c; exact z.elim) hg hm (pa_cons he pa_nil h1) hdb h1 hpl) fun σ H Q ⟨F, M, ρ, Qx, ss, q, kq⟩ => by
    refine ⟨F, M, ρ, _, ss, q, fun v H1 F1 d M1 s1 r q1 => ?_⟩
    refine ⟨by simp, fun a ha => ⟨a, v, rfl, upd_same, hok _ _ _ r q1.1, fun dx hdx ne => ⟨rfl, .inr ⟨dx, [(f, v)], upd_same, ?_, ?_, ?_⟩⟩⟩⟩
    · rw [upd_ne ne, upd_same]
    · rw [upd_ne ne] at hdx; exact hdx
    · have hdx' : H1 dx = none := by rw [upd_ne ne] at hdx; exact hdx
      rw [upd_upd_del ha ne]
      obtain ⟨nM, nF⟩ := s1.hm.none hdx'
      have s2 := (Step.refl s1.hm).hset hdx' nF nM (.xd [(f, v)])
      exact kq _ _ _ _ _ _ (s1.trans s2) upd_same (.cons r .nil) q1.2
def dRaise (Ee : DEnv → DXK) (C : Addr) (t : TDX) : TDS := fun _ ρ M => t ρ M fun fs M' => Ee ρ C fs M'
theorem ds_raise {t : TDX} (hc : X.calm = true) (tk : Takes X fun cls d σ H => E0 σ cls d H) (he : DX X E0 Ee C e t) : DS X E0 Ee (.Raise (some e) none pos) (dRaise Ee C t) :=
  PSimp (ps_raise hc tk he) fun D0 σ H ⟨F, M, ρ, D, ss, q, k⟩ => ⟨F, M, ρ, _, ss, q, fun F' M' H' d xs ds s xa rf ed => ss.xc F' M' H' σ ρ C d xs ds s (ss.env.mono s.fle) xa rf ed⟩
end
/-! ### try -/
def imm : D → Bool
  | .non | .bl _ | .int _ | .str _ => true
  | _ => false
def ImmF (fs : List (Str × D)) : Prop := ∀ q ∈ fs, imm q.2 = true
theorem rpF_look {K : PySem.W.Frag} {F : Hp} {f : Str} {d : D} : ∀ {xs : List (Str × V)} {ds : List (Str × D)}, RpF K F xs ds → ds.lookup f = some d → ∃ v, xs.lookup f = some v ∧ Rp K F v d
  | _, _, .nil, h => nomatch (show (none : Option D) = _ from h)
  | _, _, .cons (k := g) (v := v) (d := d') (vs := vs) (ds := ds) a t, h => by
    have h' : (match f == g with | true => some d' | false => ds.lookup f) = some d := h
    show ∃ u, (match f == g with | true => some v | false => vs.lookup f) = some u ∧ _
    cases e : (f == g) with
    | true => rw [e] at h'; cases h'; exact ⟨v, rfl, a⟩
    | false => rw [e] at h'; exact rpF_look t h'
theorem rp_imm {K : PySem.W.Frag} {F F' : Hp} {v : V} {d : D} (r : Rp K F v d) (h : imm d = true) : Rp K F' v d := by
  cases r with
  | non => exact .non
  | bl b => exact .bl b
  | int i => exact .int i
  | str s => exact .str s
  | _ => cases h
theorem lookup_memF {f : Str} {d : D} : ∀ {ds : List (Str × D)}, ds.lookup f = some d → ∃ q ∈ ds, q.2 = d
  | [], h => nomatch (show (none : Option D) = _ from h)
  | (g, d') :: r, h => by
    have h' : (match f == g with | true => some d' | false => r.lookup f) = some d := h
    cases e : (f == g) with
    | true => rw [e] at h'; cases h'; exact ⟨_, List.mem_cons_self, rfl⟩
    | false =>
      rw [e] at h'
      obtain ⟨q, hq, z⟩ := lookup_memF h'
      exact ⟨q, List.mem_cons_of_mem _ hq, z⟩
abbrev ES (d : Option Addr) (xs : List (Str × V)) : L2.St → XK := fun _ _ _ H' => XAt H' d xs
abbrev ET : DEnv → DXK := fun _ _ _ _ => True
def dTryAs (exm : Addr → Option Bool) (i : Nat) (t : (DEnv → DXK) → TDS) (u : Addr → Addr → List (Str × D) → TDS) (Eo : DEnv → DXK) : TDS := fun D ρ M =>
  t (fun ρ' C fs M' => ∃ b, exm C = some b ∧ (b = true → ImmF fs ∧ ∀ a, M' a = none → u a C fs { nx := fun ρ2 M2 => D.nx (rset ρ2 i none) M2, rt := D.rt, bk := fun ρ2 M2 => D.bk (rset ρ2 i none) M2, ct := fun ρ2 M2 => D.ct (rset ρ2 i none) M2 } (rset ρ' i (some (.ref a))) M') ∧ (b = false → Eo ρ' C fs M')) D ρ M
def dTryOnly (exm : Addr → Option Bool) (t : (DEnv → DXK) → TDS) (u : TDS) (Eo : DEnv → DXK) : TDS := fun D ρ M =>
  t (fun ρ' C fs M' => ∃ b, exm C = some b ∧ (b = true → u D ρ' M') ∧ (b = false → Eo ρ' C fs M')) D ρ M
section
variable {X : Cx} {E0 : L2.St → XK} {Ee : DEnv → DXK} {x n : Str} {c : Value} {i : Nat} {body suite : List Stmt} {b₀ : Stmt} {np pos pos' : Pos} {t : (DEnv → DXK) → TDS}
theorem ds_tryAs {u : Addr → Addr → List (Str × D) → TDS} (hs : X.stack = X.env :: X.outer) (hf : X.env.frame = some X.env.locals) (hN : X.N.Nodup) (hi : X.N[i]? = some n) (hln : X.env.kindOf n = some .local) (hc : Names X x c) (tk : Takes X fun cls d σ H => E0 σ cls d H)
    (hb : ∀ (W : WX) (Ee' : DEnv → DXK) (pn : List (Addr × Obj)) (xe : Value → Shared → Prop), Takes (X.tr pn xe) W → PassesOwn (model X.prog X.w) X.A X.env xe → DSs (X.tr pn xe) (WE W) Ee' body (t Ee'))
    (hsu : ∀ (a C : Addr) (oe : Obj) (d : Option Addr) (xs : List (Str × V)) (ds : List (Str × D)) (F : Hp) (pn : List (Addr × Obj)), Zc (.ref C) d oe → (∃ vs, oe.data = .fields vs) → RpF X.K F xs ds → ImmF ds → DSs (X.suite a ((a, oe) :: pn)) (ES d xs) ET (b₀ :: suite) (u a C ds)) :
    DS X E0 Ee (.Try body [.ExceptHandler (some (.Name x np)) (some n) (b₀ :: suite) pos'] [] [] pos) (dTryAs (fun C => PySem.W.exmOne X.K (.ref C) c) i t u Ee) := by
  refine PSimp (ps_try_as (tb := fun W => fun D0 σ H => ∃ Ee', lowS X.K (WE W) Ee' (t Ee') D0 σ H) (ts := fun a cls d => fun D0 σ H => ∃ C xs ds F, cls = .ref C ∧ RpF X.K F xs ds ∧ ImmF ds ∧ lowS X.K (ES d xs) ET (u a C ds) D0 σ H) hs hf hN hi hln hc tk
    (fun W pn xe tk' po => ⟨fun pins s σ H D I ⟨Ee', q⟩ => (hb W Ee' pn xe tk' po).run pins s σ H D I q⟩)
    (fun a oe cls d pn hz hd => ⟨fun pins s σ H D I ⟨C, xs, ds, F, ec, rf, im, q⟩ => by subst ec; exact (hsu a C oe d xs ds F pn hz hd rf im).run pins s σ H D I q⟩)) fun D0 σ H ⟨F, M, ρ, D, ss, q, k⟩ => ?_
  refine ⟨_, F, M, ρ, D, ⟨ss.hm, ss.env, ?_⟩, q, k⟩
  intro F' M' H' σ' ρ' C d xs ds s en xa rf ⟨b, eb, hy, hn⟩
  refine ⟨b, eb, fun hb1 a ha => ?_, fun hb0 => ss.xc F' M' H' σ' ρ' C d xs ds s en xa rf (hn hb0)⟩
  obtain ⟨im, q1⟩ := hy hb1
  have ck := k.step s
  refine ⟨C, xs, ds, F', rfl, rf, im, F', M', _, _, ⟨s.hm, en.set i (.ref a), fun F2 M2 H2 σ2 ρ2 C2 d2 xs2 ds2 s2 _ _ _ _ => ?_⟩, q1 a (s.hm.none ha).1, ?_⟩
  · cases d with
    | none => exact xa
    | some dd =>
      have xa' : H' dd = some (.xd xs) := xa
      refine s2.frm dd _ xa' ?_
      cases q2 : M' dd with
      | none => rfl
      | some o =>
        have := (s.hm.mo dd o q2).2
        cases o with
        | lst _ => obtain ⟨_, e, _⟩ := this; rw [xa'] at e; cases e
        | dic _ => obtain ⟨_, e, _⟩ := this; rw [xa'] at e; cases e
        | dit _ => obtain ⟨_, e, _⟩ := this; rw [xa'] at e; cases e
        | ins _ _ => obtain ⟨_, _, e, _⟩ := this; rw [xa'] at e; cases e
        | src _ => obtain ⟨_, _, _, _, _, e, _⟩ := this; rw [xa'] at e; cases e
        | hid => obtain ⟨_, e⟩ := this; rw [xa'] at e; cases e
  · exact ⟨fun σ4 H4 F4 ρ4 M4 s4 e4 q4 => ck.nx _ _ _ _ _ s4 (e4.unset i) q4, ck.rt, fun σ4 H4 F4 ρ4 M4 s4 e4 q4 => ck.bk _ _ _ _ _ s4 (e4.unset i) q4, fun σ4 H4 F4 ρ4 M4 s4 e4 q4 => ck.ct _ _ _ _ _ s4 (e4.unset i) q4⟩
theorem ds_tryOnly {u : TDS} (hs : X.stack = X.env :: X.outer) (hf : X.env.frame = some X.env.locals) (hc : Names X x c) (tk : Takes X fun cls d σ H => E0 σ cls d H)
    (hb : ∀ (W : WX) (Ee' : DEnv → DXK) (pn : List (Addr × Obj)) (xe : Value → Shared → Prop), Takes (X.tr pn xe) W → PassesOwn (model X.prog X.w) X.A X.env xe → DSs (X.tr pn xe) (WE W) Ee' body (t Ee'))
    (hsu : ∀ (a : Addr) (oe : Obj) (cls : Value) (d : Option Addr) (pn : List (Addr × Obj)), Zc cls d oe → (∃ vs, oe.data = .fields vs) → DSs (X.suite a ((a, oe) :: pn)) EN NX (b₀ :: suite) u) :
    DS X E0 Ee (.Try body [.ExceptHandler (some (.Name x np)) none (b₀ :: suite) pos'] [] [] pos) (dTryOnly (fun C => PySem.W.exmOne X.K (.ref C) c) t u Ee) := by
  refine PSimp (ps_try_only (tb := fun W => fun D0 σ H => ∃ Ee', lowS X.K (WE W) Ee' (t Ee') D0 σ H) (ts := fun a cls d => lowS X.K EN NX u) hs hf hc tk
    (fun W pn xe tk' po => ⟨fun pins s σ H D I ⟨Ee', q⟩ => (hb W Ee' pn xe tk' po).run pins s σ H D I q⟩) hsu) fun D0 σ H ⟨F, M, ρ, D, ss, q, k⟩ => ?_
  refine ⟨_, F, M, ρ, D, ⟨ss.hm, ss.env, ?_⟩, q, k⟩
  intro F' M' H' σ' ρ' C d xs ds s en xa rf ⟨b, eb, hy, hn⟩
  exact ⟨b, eb, fun hb1 a ha => ⟨F', M', ρ', D, ⟨s.hm, en, xc_no⟩, hy hb1, k.step s⟩, fun hb0 => ss.xc F' M' H' σ' ρ' C d xs ds s en xa rf (hn hb0)⟩
/-- e.f in such a suite -/
def dXf (K : PySem.W.Frag) (a C : Addr) (fs : List (Str × D)) (f : Str) (te : TDE) : TDE := fun ρ M Q => te ρ M fun x M1 => x = .ref a ∧ (XfC K C ∧ PySem.W.findIn K (.ref C) f = some none) ∧ ∃ v, fs.lookup f = some v ∧ Q v M1
theorem de_xf {a C : Addr} {oe : Obj} {d : Option Addr} {xs : List (Str × V)} {ds : List (Str × D)} {F : Hp} {pn : List (Addr × Obj)} {e : Expr} {te : TDE} {f : Str} (hz : Zc (.ref C) d oe) (hd : ∃ vs, oe.data = .fields vs) (rf : RpF X.K F xs ds) (im : ImmF ds)
    (he : DE (X.suite a ((a, oe) :: pn)) (ES d xs) ET e te) (hb : attributeBase e f X.env (eval e X.env) = eval e X.env := by rfl) : DE (X.suite a ((a, oe) :: pn)) (ES d xs) ET (.Attribute e f pos) (dXf X.K a C ds f te) := by
  refine ⟨fun pins s σ H Q I ⟨F1, M, ρ, Q1, ss, q, k⟩ => ?_⟩
  by_cases hh : XfC X.K C ∧ PySem.W.findIn X.K (.ref C) f = some none
  · refine (pe_xf (X := X) hh.1 hh.2 hz hd he hb).run pins s σ H Q I ⟨F1, M, ρ, _, ss, q, fun x H1 F2 dd M1 s1 r q1 => ?_⟩
    obtain ⟨rfl, _, v, hv, q2⟩ := q1
    cases r
    obtain ⟨u, hu, ru⟩ := rpF_look rf hv
    obtain ⟨p, hp, ep⟩ := lookup_memF hv
    have iv : imm v = true := by rw [← ep]; exact im p hp
    have xa : XAt H1 d xs := ss.xc F2 M1 H1 σ ρ C none [] [] s1 (ss.env.mono s1.fle) rfl .nil trivial
    cases d with
    | none =>
      have : xs = [] := xa
      subst this
      cases hu
    | some d0 => exact ⟨rfl, rfl, d0, xs, u, rfl, xa, hu, k _ _ _ _ _ s1 (rp_imm ru iv) q2⟩
  · exact attr_of hb (thn (he.run pins s σ H (fun _ _ => False) I ⟨F1, M, ρ, _, ss, q, fun x H1 F2 dd M1 s1 r q1 => hh q1.2.1⟩) fun u s1 h => by obtain ⟨_, _, _, _, z⟩ := h; exact z.elim)
end
end DL


set_option Elab.async false
set_option linter.all false
set_option maxRecDepth 100000
set_option maxHeartbeats 1000000
namespace DL
open PySem PySem.Spec PyProof.Rows L2 He
/-! ### what the head tells of own exceptions -/
def leBase : List Value := [.type "LookupError", .type "Exception", .type "BaseException", .type "object"]
/-- an own exception's __init__ -/
structure IniD where
  cls : Str
  val : Bool
  qual : Str
  params : Arguments
  body : List Stmt
  scope : Scope
def IniD.B (d : IniD) : String := if d.val = true then "ValueError" else "LookupError"
def IniD.nw (d : IniD) : String := if d.val = true then "ValueError.__new__" else "LookupError.__new__"
def IniD.ii (d : IniD) : String := if d.val = true then "ValueError.__init__" else "LookupError.__init__"
def IniD.bm (d : IniD) : List Value := if d.val = true then veBase else leBase
abbrev FnV : Type := Option (Str × Str × Arguments × FuncBody × Scope × Addr × List Str × Addr)
def fnV (K : PySem.W.Frag) (p : Str × Option Str) : FnV := match K.lookup (fAd K p) with
  | some ⟨_, _, .func fd, _⟩ => some (fd.name, fd.qualname, fd.params, fd.body, fd.scope, fd.globals, fd.closure.map (·.1), fd.builtins)
  | _ => none
def IniD.v (d : IniD) : FnV := some ("__init__", d.qual, d.params, .stmts d.body, d.scope, mainGlobals, ["__class__"], builtinsNs)
def xclsB (K : PySem.W.Frag) (C : Addr) (bmB : List Value) (newId : String) : Bool := match K.lookup C with
  | some ⟨.type "type", _, .cls cd, sl⟩ => (match cd.mro, sl.toList with
    | .ref C' :: bm, [_, _, _, _, some (.builtin n), _] => decide (C' = C) && (decide (n = newId) && (!cd.hasDel && (cd.hasDict && PySem.W.excTail bmB bm)))
    | _, _ => false)
  | _ => false
theorem xclsB_ok {K : PySem.W.Frag} {C : Addr} {bmB : List Value} {newId : String} (q : xclsB K C bmB newId = true) :
    ∃ nm qn N bs bm sn sub ab col dd k0 k1 k2 k3 k5, K.lookup C = some (excClassObj nm qn C N bs bm true sn sub ab col dd k0 k1 k2 k3 k5 newId) ∧ PySem.W.excTail bmB bm = true := by
  unfold xclsB at q
  split at q
  · rename_i dd cd sl ho
    split at q
    · rename_i C' bm k0 k1 k2 k3 n k5 hm hs
      obtain ⟨h1, q⟩ := ba q
      obtain ⟨h2, q⟩ := ba q
      obtain ⟨h3, q⟩ := ba q
      obtain ⟨h4, h5⟩ := ba q
      have e1 := of_decide_eq_true h1
      have e2 := of_decide_eq_true h2
      subst e1 e2
      obtain ⟨nm, bs, mro, ns, qn, hd, sn, sub, ab, col, del⟩ := cd
      dsimp only at hm h3 h4
      have h3' : del = false := by simpa using h3
      subst hm h3' h4
      have hsl : sl = #[k0, k1, k2, k3, some (.builtin n), k5] := by
        obtain ⟨l⟩ := sl
        simp only at hs
        rw [hs]
      subst hsl
      exact ⟨nm, qn, ns, bs, bm, sn, sub, ab, col, dd, k0, k1, k2, k3, k5, ho, h5⟩
    · cases q
  · cases q
/-- the class alone -/
def clsXB (K : PySem.W.Frag) (d : IniD) : Bool := xclsB K (ga K d.cls) d.bm d.nw && (eqO (PySem.W.findIn K (.ref (ga K d.cls)) "__setattr__") (some (some (.builtin "object.__setattr__"))) && (decide (PySem.W.subIn K (.ref (ga K d.cls)) (.type "BaseException") = some true) &&
  (decide (PySem.W.subIn K (.ref (ga K d.cls)) (.type d.B) = some true) && (decide (PySem.W.typeIn K (.ref (ga K d.cls)) = some (.type "type")) && PySem.W.keepIn K (.ref (ga K d.cls))))))
def iniXB (K : PySem.W.Frag) (fl : Str) (d : IniD) : Bool := match K.lookup (fAd K (d.cls, some "__init__")) with
  | some ⟨_, _, .func fd, _⟩ => (match fd.closure, fd.code, fd.defaults with
    | [(_, cc)], .ref cda, .none => PySem.W.codeIn K (.ref cda) d.qual && ((match K.lookup cda with
        | some ⟨_, _, .fields vs, _⟩ => (match (vs[2]? : Option Value) with
          | some (Value.str file _) => fl == file
          | _ => false)
        | _ => false) && ((match K.lookup cc with
        | some ⟨_, _, .cell (some (.ref C')), _⟩ => decide (C' = ga K d.cls)
        | _ => false) && (eqO (PySem.W.ks_superIn K (ga K d.cls) (ga K d.cls) "__init__") (some (some (.builtin d.ii))) && (eqO (PySem.W.nsIn K PySem.cStatics "thirdparty.any") (some none) &&
          (eqO (PySem.W.findIn K (.ref (ga K d.cls)) "__init__") (some (some (.ref (fAd K (d.cls, some "__init__"))))) && (decide (PySem.W.typeIn K (.ref (fAd K (d.cls, some "__init__"))) = some (.type "function")) && decide (PySem.W.mroIn K (ga K d.cls) (.ref (ga K d.cls)) = some true)))))))
    | _, _, _ => false)
  | _ => false
theorem clsXB_ok {K : PySem.W.Frag} {d : IniD} (h : clsXB K d = true) : XCls K (ga K d.cls) d.B d.nw d.ii d.bm := by
  obtain ⟨h1, h⟩ := ba h
  obtain ⟨h2, h⟩ := ba h
  obtain ⟨h3, h⟩ := ba h
  obtain ⟨h4, h⟩ := ba h
  obtain ⟨h5, h6⟩ := ba h
  have c := xclsB_ok h1
  have sa := eqO_ok h2
  have e3 := of_decide_eq_true h3
  have e4 := of_decide_eq_true h4
  have e5 := of_decide_eq_true h5
  unfold IniD.B IniD.nw IniD.ii IniD.bm at *
  cases e : d.val with
  | true =>
    simp only [e, if_true] at c e4 ⊢
    exact ⟨F.excBase_ValueError, F.store_ValueError, PySem.W.kxs_ValueError, by decide +kernel, c, sa, e3, e4, e5, h6⟩
  | false =>
    simp only [e, Bool.false_eq_true, if_false] at c e4 ⊢
    exact ⟨F.excBase_LookupError, F.store_LookupError, PySem.W.kxs_LookupError, by decide +kernel, c, sa, e3, e4, e5, h6⟩
theorem iniXB_ok {P : Program} {K : PySem.W.Frag} {d : IniD} (e : fnV K (d.cls, some "__init__") = d.v) (h : iniXB K P.main.file d = true) (ht : (P.main.scope.names.lookup ("super" : Str)).isSome = false) :
    ∃ cda cc fd, XIni P K (ga K d.cls) (fAd K (d.cls, some "__init__")) d.ii "__init__" d.qual d.params d.body d.scope cda cc fd := by
  unfold fnV at e
  unfold iniXB at h
  cases q : K.lookup (fAd K (d.cls, some "__init__")) with
  | none => rw [q] at h; cases h
  | some o =>
    obtain ⟨oc, od, dt, osl⟩ := o
    rw [q] at h e
    cases dt with
    | func fd =>
      obtain ⟨n1, n2, n3, n4, n5, n6, n7, n8, n9, n10, n11, n12, n13, n14, n15⟩ := fd
      have e2 : (some (n1, n2, n3, n4, n5, n6, n7.map (·.1), n15) : FnV) = (some ("__init__", d.qual, d.params, .stmts d.body, d.scope, mainGlobals, ["__class__"], builtinsNs) : FnV) := e
      simp only [Option.some.injEq, Prod.mk.injEq] at e2
      obtain ⟨h1, h2, h3, h4, h5, h6, h7, h8⟩ := e2
      dsimp only at h
      split at h
      · rename_i nm cc cda
        have hnm : nm = ("__class__" : Str) := by simpa using h7
        subst h1 h2 h3 h4 h5 h6 h8 hnm
        obtain ⟨k1, h⟩ := ba h
        obtain ⟨k2, h⟩ := ba h
        obtain ⟨k3, h⟩ := ba h
        obtain ⟨k4, h⟩ := ba h
        obtain ⟨k5, h⟩ := ba h
        obtain ⟨k6, h⟩ := ba h
        obtain ⟨k7, k8⟩ := ba h
        refine ⟨cda, cc, _, ⟨oc, od, n9, n10, n11, n14, n12, osl, rfl, q⟩, k1, ?_, ?_, eqO_ok k4, eqO_ok k5, eqO_ok k6, of_decide_eq_true k7, of_decide_eq_true k8, ht⟩
        · split at k2
          · rename_i o1 o2 vs o3 hl
            split at k2
            · rename_i file tf hv
              exact ⟨_, _, vs, _, file, tf, hl, hv, k2⟩
            · cases k2
          · cases k2
        · split at k3
          · rename_i o1 o2 C' o3 hl
            have := of_decide_eq_true k3
            subst this
            exact ⟨_, _, _, hl⟩
          · cases k3
      · cases h
    | _ => cases h
/-! ### the Hook -/
def asE (g : Addr → Option Obj) (n : Nat) : List Addr := PySem.cStatics :: asD g n
abbrev AlE : Type := (Bool × List FnW) × List FnV
def obsE2 (fl : Str) (fa : List Fa) (fn : List DefD) (ix cx : List IniD) (ex : PySem.W.Frag → Bool) (K : PySem.W.Frag) : AlE := ((((fa.all fun f => f.ok K) && fn.all fun d => d.ok K) && ((ix.all fun d => clsXB K d && iniXB K fl d) && ((cx.all fun d => clsXB K d) && ex K)), fn.map fun d => fnW K d.at_), ix.map fun d => fnV K (d.cls, some "__init__"))
def valE2 (fn : List DefD) (ix : List IniD) : AlE := ((true, fn.map DefD.val), ix.map IniD.v)
def SaysE (fl : Str) (fa : List Fa) (fn : List DefD) (ix cx : List IniD) (ex : PySem.W.Frag → Bool) (K : PySem.W.Frag) : Prop := obsE2 fl fa fn ix cx ex K = valE2 fn ix
def obsEG (n : Nat) (fl : Str) (fa : List Fa) (fn : List DefD) (ix cx : List IniD) (ex : PySem.W.Frag → Bool) (g : Addr → Option Obj) : AlE := obsE2 fl fa fn ix cx ex (frG g (asE g n))
def hookE (n : Nat) (fl : Str) (fa : List Fa) (fn : List DefD) (ix cx : List IniD) (ex : PySem.W.Frag → Bool) : PySem.W.Hook where
  α := AlE
  obs := fun s => obsEG n fl fa fn ix cx ex s.heap.get?
  val := fun _ => valE2 fn ix
  says := fun _ h => ∃ K : PySem.W.Frag, K.In h ∧ SaysE fl fa fn ix cx ex K
  of := fun _ _ e => ⟨_, frG_in, e⟩
  keeps := fun _ _ _ ⟨K, hK, c⟩ k => ⟨K, PySem.W.Frag.In.keeps hK k, c⟩
theorem obsEG_eq {n : Nat} {fl : Str} {fa : List Fa} {fn : List DefD} {ix cx : List IniD} {ex : PySem.W.Frag → Bool} {g : Addr → Option Obj} {s : Shared} (h : ∀ a, g a = s.heap.get? a) : obsEG n fl fa fn ix cx ex g = (hookE n fl fa fn ix cx ex).obs s := by
  have e : g = s.heap.get? := funext h
  rw [e] <;> rfl
section
variable {fl : Str} {fa : List Fa} {fn : List DefD} {ix cx : List IniD} {ex : PySem.W.Frag → Bool} {K : PySem.W.Frag}
theorem SaysE.all (c : SaysE fl fa fn ix cx ex K) : (((fa.all fun f => f.ok K) && fn.all fun d => d.ok K) && ((ix.all fun d => clsXB K d && iniXB K fl d) && ((cx.all fun d => clsXB K d) && ex K))) = true := congrArg (fun z : AlE => z.1.1) c
theorem SaysE.fact (c : SaysE fl fa fn ix cx ex K) (i : Nat) {f : Fa} (h : fa[i]? = some f := by rfl) : f.ok K = true :=
  List.all_eq_true.mp (ba (ba c.all).1).1 f (List.mem_of_getElem? h)
theorem SaysE.def_ (c : SaysE fl fa fn ix cx ex K) (i : Nat) {d : DefD} (h : fn[i]? = some d := by rfl) : ∃ fd, FunD K d.name d.qual d.params d.body d.scope (d.dvs K) (d.kws K) (fAd K d.at_) fd := by
  have e : fn.map (fun d => fnW K d.at_) = fn.map DefD.val := congrArg (fun z : AlE => z.1.2) c
  have e2 : (fn.map fun d => fnW K d.at_)[i]? = (fn.map DefD.val)[i]? := by rw [e]
  rw [List.getElem?_map, List.getElem?_map, h] at e2
  exact DefD.funD (Option.some.inj e2) (List.all_eq_true.mp (ba (ba c.all).1).2 d (List.mem_of_getElem? h))
theorem SaysE.cls (c : SaysE fl fa fn ix cx ex K) (i : Nat) {d : IniD} (h : cx[i]? = some d := by rfl) : XCls K (ga K d.cls) d.B d.nw d.ii d.bm :=
  clsXB_ok (List.all_eq_true.mp (ba (ba (ba c.all).2).2).1 d (List.mem_of_getElem? h))
theorem SaysE.exB (c : SaysE fl fa fn ix cx ex K) : ex K = true := (ba (ba (ba c.all).2).2).2
theorem SaysE.ini {P : Program} (c : SaysE P.main.file fa fn ix cx ex K) (ht : (P.main.scope.names.lookup ("super" : Str)).isSome = false) (i : Nat) {d : IniD} (h : ix[i]? = some d := by rfl) :
    XCls K (ga K d.cls) d.B d.nw d.ii d.bm ∧ ∃ cda cc fd, XIni P K (ga K d.cls) (fAd K (d.cls, some "__init__")) d.ii "__init__" d.qual d.params d.body d.scope cda cc fd := by
  obtain ⟨h1, h2⟩ := ba (List.all_eq_true.mp (ba (ba c.all).2).1 d (List.mem_of_getElem? h))
  have e : ix.map (fun d => fnV K (d.cls, some "__init__")) = ix.map IniD.v := congrArg (fun z : AlE => z.2) c
  have e2 : (ix.map fun d => fnV K (d.cls, some "__init__"))[i]? = (ix.map IniD.v)[i]? := by rw [e]
  rw [List.getElem?_map, List.getElem?_map, h] at e2
  exact ⟨clsXB_ok h1, iniXB_ok (Option.some.inj e2) h2 ht⟩
end
end DL


set_option Elab.async false
set_option linter.all false
set_option maxRecDepth 100000
set_option maxHeartbeats 1000000
namespace DL
open PySem PySem.Spec PyProof.Rows L2
/-- an own exception of no field, of one -/
def EX0 (P : Program) (w : World) (K : PySem.W.Frag) (mg : Str → Option Value) (base : Heap) (x : Str) (C : Addr) : Prop := ∃ B nw ii bm fI fd ps, XCls K C B nw ii bm ∧ PySem.W.findIn K (.ref C) "__init__" = some (some (.ref fI)) ∧ PySem.W.typeIn K (.ref fI) = some (.type "function") ∧
  FnOk P w K mg base (L2.CX P w) 1 fI fd ps (sp0 C) ∧ Binds K fd ps [] ∧ mg x = some (.ref C)
def EX1 (P : Program) (w : World) (K : PySem.W.Frag) (mg : Str → Option Value) (base : Heap) (x : Str) (C : Addr) (f : Str) (okV : V → Prop) : Prop := ∃ B nw ii bm fI fd ps, XCls K C B nw ii bm ∧ PySem.W.findIn K (.ref C) "__init__" = some (some (.ref fI)) ∧ PySem.W.typeIn K (.ref fI) = some (.type "function") ∧
  FnOk P w K mg base (L2.CX P w) 1 fI fd ps (sp1 C f okV) ∧ Binds K fd ps [] ∧ mg x = some (.ref C)
section
variable {X : Cx} {E0 : L2.St → XK} {Ee : DEnv → DXK} {x f : Str} {C : Addr} {k : Nat} {e : Expr} {te : TDE} {p pos pos2 : Pos} {okV : V → Prop} {ok : D → Prop}
theorem rz0 (F : EX0 X.prog X.w X.K X.mg X.base x C) (hr : Room k X.A) (hk : 2 ≤ k) (tk : Takes X fun cls d σ H => E0 σ cls d H) (hc : X.calm = true) (hg : Gl X x) (hdb : (x == ("__debug__" : Str)) = false := by decide) :
    DS X E0 Ee (.Raise (some (.Call (.Name x p) [] [] pos)) none pos2) (dRaise Ee C dX0) := by
  obtain ⟨B, nw, ii, bm, fI, fd, ps, T, iC, tI, F1, hb, hm⟩ := F
  exact ds_raise hc tk (dx_S0 T iC tI F1 hr hk hb hg hm hdb)
theorem rz1 (F : EX1 X.prog X.w X.K X.mg X.base x C f okV) (hok : ∀ F v d, Rp X.K F v d → ok d → okV v) (hr : Room k X.A) (hk : 2 ≤ k) (tk : Takes X fun cls d σ H => E0 σ cls d H) (hc : X.calm = true) (hg : Gl X x) (he : DE X E0 Ee e te)
    (h1 : starEach [e] X.env = (false, eval e X.env) :: starEach [] X.env := by rfl) (hdb : (x == ("__debug__" : Str)) = false := by decide) (hpl : (backTo pos (starEach [] X.env)).any (·.1) = false := by rfl) :
    DS X E0 Ee (.Raise (some (.Call (.Name x p) [e] [] pos)) none pos2) (dRaise Ee C (dX1 f ok te)) := by
  obtain ⟨B, nw, ii, bm, fI, fd, ps, T, iC, tI, F1, hb, hm⟩ := F
  exact ds_raise hc tk (dx_S1 T iC tI F1 hok hr hk hb hg hm he h1 hdb hpl)
end
/-- f'a{x}b', x an int -/
def okI (v : V) : Prop := ∃ i : Int, v = .int i ∧ i.natAbs < 10 ^ 8
def okD (d : D) : Prop := ∃ i : Int, d = .int i ∧ i.natAbs < 10 ^ 8
theorem okD_I {K : PySem.W.Frag} : ∀ F v d, Rp K F v d → okD d → okI v := fun F v d r ⟨i, e, h⟩ => by subst e; cases r; exact ⟨i, rfl, h⟩
theorem log2_lt {n : Nat} (h : n < 10 ^ 8) : n.log2 < 1920 := by
  have : n.log2 ≤ n := Nat.log2_le_self n
  by_cases h0 : n = 0
  · subst h0; decide
  · have h1 := Nat.log2_lt (n := n) (k := 30) h0
    have h2 : n.log2 < 30 := h1.mpr (Nat.lt_trans h (by decide))
    omega
theorem txt_len {i : Int} (h : i.natAbs < 10 ^ 8) : ((toString i : Str)).length ≤ 1000 := by
  have e := PySem.int_text_length_le10 (k := 8) (a := i) (by decide) h
  rw [show ((toString i : Str)).length = (Str.ofString (toString i)).length from rfl, PySem.ofString_length]
  omega
theorem joinI {X : Cx} {a b : Str} {i : Nat} {te : TE} {e : Expr} {j1 j2} {q1 q2 q3 q4 : Pos} (he : PE X e (tVar 1)) (ha : a.length ≤ 1000) (hb : b.length ≤ 1000) :
    ∃ te, PE X (.JoinedStr [.Constant (.str a) j1 q1, .FormattedValue e (-1) none q2, .Constant (.str b) j2 q3] q4) te ∧ ∀ (y : V) (r : Addr) (H : Hp) (G : Hp → Prop), okI y → G H → te [some (.ref r), some y] H fun _ H2 => G H2 := by
  refine ⟨_, pe_joined (.cons pe_str (.cons (pe_fmt he) (.cons pe_str .nil))), fun y r H G ⟨i, ey, hi⟩ hG => ?_⟩
  subst ey
  have l := txt_len hi
  refine ⟨a, rfl, ?_, ⟨_, rfl, .inr ⟨i, rfl, log2_lt hi, ⟨_, rfl, ?_, ⟨b, rfl, ?_, hG⟩⟩⟩⟩⟩
  · rw [Str.length_append, sizeLine_eq]; have : (Str.empty).length = 0 := rfl; omega
  · rw [Str.length_append, Str.length_append, sizeLine_eq]; have : (Str.empty).length = 0 := rfl; omega
  · rw [Str.length_append, Str.length_append, Str.length_append, sizeLine_eq]; have : (Str.empty).length = 0 := rfl; omega
def dJoinE (to te : TDE) : TDE := fun ρ M Q => to ρ M fun x M1 => ∃ a, x = .str a ∧ te ρ M1 fun y M2 => ∃ ys, (vw M2 y = .lst (ys.map .str) ∨ vw M2 y = .tup (ys.map .str)) ∧ sumL ys + ys.length * a.length ≤ 16777216 ∧ Q (.str (joinD a ys)) M2
theorem de_joinE {X : Cx} {E0 : L2.St → XK} {Ee : DEnv → DXK} {o e : Expr} {to te : TDE} {apos pos : Pos} (ho : DE X E0 Ee o to) (he : DE X E0 Ee e te) (hs : starEach [e] X.env = [(false, eval e X.env)] := by rfl) (hbase : attributeBase o "join" X.env (eval o X.env) = eval o X.env := by rfl) (hline : (apos.endLine == pos.line) = true := by rfl) :
    DE X E0 Ee (.Call (.Attribute o "join" apos) [e] [] pos) (dJoinE to te) := by
  refine PEimp (pe_join ho he hs hbase hline) fun σ H Q0 ⟨F, M, ρ, Q, ss, q, k⟩ => ?_
  refine ⟨F, M, ρ, _, ss, q, fun x H1 F1 dx M1 s1 rx q1 => ?_⟩
  obtain ⟨a, rfl, q1⟩ := q1
  cases rx
  refine ⟨⟨_, rfl⟩, F1, M1, ρ, _, ss.step s1, q1, fun y H2 F2 dy M2 s2 ry q2 => ?_⟩
  obtain ⟨ys, hy, hz, q3⟩ := q2
  have c := Ct.vw s2.hm ry
  have z : (((ys.map mkS).map (·.length)).sum + (ys.map mkS).length * (mkS a).length ≤ 16777216) ∧ Q0 (.str (Txt.join (mkS a) (ys.map mkS))) H2 := by
    refine ⟨?_, ?_⟩
    · rw [sumL_eq, List.length_map, mkS_len]; exact hz
    · rw [join_eq]; exact (k.step (s1.trans s2)).end s2.hm (.str _) q3
  rcases hy with hy | hy
  · rw [hy] at c
    obtain ⟨p, xs, rfl, e, rl⟩ := c
    rw [RpL.of_strs rl] at e
    exact ⟨_, p, ys.map mkS, rfl, rfl, .inl (SqL.of e), z⟩
  · rw [hy] at c
    obtain ⟨p, xs, rfl, e, rl⟩ := c
    rw [RpL.of_strs rl] at e
    exact ⟨_, p, ys.map mkS, rfl, rfl, .inr (SqT.of e), z⟩
theorem dcut_take {α : Type} {l : List α} {i : Int} {k : Nat} (hi : i = (k : Int)) : dcut l none (some i) = l.take k := by
  subst hi
  unfold dcut
  rw [HT.sIx_nat, HT.sIx_none, List.drop_zero, Nat.sub_zero]
  by_cases h : k ≤ l.length
  · rw [Nat.min_eq_left h]
  · rw [Nat.min_eq_right (by omega), List.take_of_length_le (Nat.le_refl _), List.take_of_length_le (by omega)]
theorem dcut_drop {α : Type} {l : List α} {i : Int} {k : Nat} (hi : i = (k : Int)) : dcut l (some i) none = l.drop k := by
  subst hi
  unfold dcut
  rw [HT.sIx_nat, HT.sIx_none]
  by_cases h : k ≤ l.length
  · rw [Nat.min_eq_left h, List.take_of_length_le (by simp)]
  · rw [Nat.min_eq_right (by omega), Nat.sub_self, List.take_zero, List.drop_eq_nil_of_le (by omega)]
end DL


set_option Elab.async false
set_option linter.all false
set_option maxRecDepth 100000
set_option maxHeartbeats 1000000
namespace DL
open PySem PySem.Spec PyProof.Rows L2
/-! ### what is only thought: a Step that changes no heap -/
def Gh (K : PySem.W.Frag) (M M' : Mp) : Prop := ∀ F H, HM K F M H → ∃ F', Step K F M H F' M' H
theorem Gh.sub {K : PySem.W.Frag} {M M' : Mp} (s : Sub M' M) : Gh K M M' := fun F H h => ⟨F, (Step.refl h).drop s⟩
theorem Gh.trans {K : PySem.W.Frag} {M M1 M2 : Mp} (a : Gh K M M1) (b : Gh K M1 M2) : Gh K M M2 := fun F H h => by
  obtain ⟨F1, s1⟩ := a F H h
  obtain ⟨F2, s2⟩ := b F1 H s1.hm
  exact ⟨F2, s1.trans s2⟩
theorem gh_imp {K : PySem.W.Frag} {sp sp' : DSp} (h : ∀ ds M Q E, sp' ds M Q E → sp ds M (fun d M1 => ∃ M2, Gh K M1 M2 ∧ Q d M2) E) {vs : List V} {H : Hp} {Q0 : VK} {E : XK} (q : lift K sp' vs H Q0 E) : lift K sp vs H Q0 E := by
  obtain ⟨F, M, ds, Q, Ed, hm, r, q, kk, xk⟩ := q
  refine ⟨F, M, ds, _, Ed, hm, r, h _ _ _ _ q, fun v H' F' d M' s r' ⟨M2, g, q2⟩ => ?_, xk⟩
  obtain ⟨F2, s2⟩ := g F' H' s.hm
  exact kk v H' F2 d M2 (s.trans s2) (r'.mono s2.fle) q2
/-! ### fields -/
def dputF (f : Str) (v : D) : List (Str × D) → List (Str × D)
  | [] => [(f, v)]
  | (g, u) :: r => if g = f then (g, v) :: r else (g, u) :: dputF f v r
theorem rpF_none {K : PySem.W.Frag} {F : Hp} {f : Str} : ∀ {xs : List (Str × V)} {ds : List (Str × D)}, RpF K F xs ds → ds.lookup f = none → xs.lookup f = none
  | _, _, .nil, _ => rfl
  | _, _, .cons (k := g) (v := v) (d := d') (vs := vs) (ds := ds) a t, h => by
    have h' : (match f == g with | true => some d' | false => ds.lookup f) = none := h
    show (match f == g with | true => some v | false => vs.lookup f) = none
    cases e : (f == g) with
    | true => rw [e] at h'; cases h'
    | false => rw [e] at h'; exact rpF_none t h'
theorem RpF.put {K : PySem.W.Frag} {F : Hp} {f : Str} {v : V} {d : D} (r : Rp K F v d) : ∀ {xs : List (Str × V)} {ds : List (Str × D)}, RpF K F xs ds → RpF K F (putF f v xs) (dputF f d ds)
  | _, _, .nil => .cons r .nil
  | _, _, .cons (k := g) a t => by
    unfold putF dputF
    split
    · exact .cons r t
    · exact .cons a (RpF.put r t)
theorem RpF.len {K : PySem.W.Frag} {F : Hp} : ∀ {xs : List (Str × V)} {ds : List (Str × D)}, RpF K F xs ds → xs.length = ds.length
  | _, _, .nil => rfl
  | _, _, .cons _ t => by simp [RpF.len t]
def dFld (ok : Addr → Prop) (f : Str) (te : TDE) : TDE := fun ρ M Q => te ρ M fun x M1 => ∃ C fs, vw M1 x = .obj C fs ∧ ok C ∧ ∃ v, fs.lookup f = some v ∧ Q v M1
def dFldS (ok : Addr → Prop) (f : Str) (to te : TDE) : TDS := fun D ρ M => te ρ M fun y M1 => to ρ M1 fun x M2 => ∃ a C fs, x = .ref a ∧ M2 a = some (.ins C fs) ∧ ok C ∧ fs.length < 1000 ∧ D.nx ρ (mset M2 a (.ins C (dputF f y fs)))
def dMeth (ok : Addr → Prop) (m : Str) (sp : DSp) (Ee : DEnv → DXK) (to : TDE) (tr : TDA) : TDE := fun ρ M Q => to ρ M fun x M1 => ∃ C fs, vw M1 x = .obj C fs ∧ ok C ∧ fs.lookup m = none ∧ tr ρ M1 fun ds M2 => sp (x :: ds) M2 Q (Ee ρ)
def dMake (C : Addr) (sp : DSp) (Ee : DEnv → DXK) (tr : TDA) : TDE := fun ρ M Q => tr ρ M fun ds M1 => ∀ a, M1 a = none → sp (.ref a :: ds) (mset M1 a (.ins C [])) (fun _ M2 => Q (.ref a) M2) (Ee ρ)
section
variable {X : Cx} {E0 : L2.St → XK} {Ee : DEnv → DXK} {ok : Addr → Prop} {f m x : Str} {g C : Addr} {k : Nat} {fd : FuncData} {ps : List Str} {sp : DSp} {e o value : Expr} {es : List Expr} {te to : TDE} {tr : TDA} {p pos pos' apos : Pos}
theorem de_fld (hC : ∀ C, ok C → L2.Cls X.K C ∧ L2.NoAttr X.K C f) (he : DE X E0 Ee e te) (hb : attributeBase e f X.env (eval e X.env) = eval e X.env := by rfl) : DE X E0 Ee (.Attribute e f pos) (dFld ok f te) :=
  PEimp (pe_fld he hb) fun σ H Q0 ⟨F, M, ρ, Q, ss, q, k⟩ => ⟨F, M, ρ, _, ss, q, fun v H1 F1 d M1 s1 r ⟨C, fs, hv, hok, y, hl, q2⟩ => by
    have c := Ct.vw s1.hm r
    rw [hv] at c
    obtain ⟨a, dx, xs, rfl, e, rf⟩ := c
    obtain ⟨u, hu, ru⟩ := rpF_look rf hl
    exact ⟨a, C, dx, xs, u, rfl, e, (hC C hok).1, (hC C hok).2, hu, k _ _ _ _ _ s1 ru q2⟩⟩
theorem ds_fld (hC : ∀ C, ok C → L2.Cls X.K C ∧ L2.NoAttr X.K C f) (ho : DE X E0 Ee o to) (hv : DE X E0 Ee value te) (hs : swapsWith value (some (.Attribute o f pos')) pos.line X.env = pure false := by rfl) : DS X E0 Ee (.Assign [.Attribute o f pos'] value pos) (dFldS ok f to te) :=
  PSimp (ps_fld ho hv hs) fun D0 σ H ⟨F, M, ρ, De, ss, q, k⟩ => ⟨F, M, ρ, _, ss, q, fun y H1 F1 dy M1 s1 ry q1 => ⟨F1, M1, ρ, _, ss.step s1, q1, fun x H2 F2 dx M2 s2 rx ⟨a, C, fs, ex, ea, hok, hl, q2⟩ => by
    subst ex
    cases rx
    obtain ⟨dx, xs, e, rf⟩ := (s2.hm.mo a _ ea).2
    have s3 := Step.wr (o := .ins C dx (putF f y xs)) (mo := .ins C (dputF f dy fs)) s2.hm ea (by intro z; cases z) ⟨dx, _, upd_same, (RpF.put (ry.mono s2.fle) rf)⟩
    exact ⟨a, C, dx, xs, rfl, e, (hC C hok).1, (hC C hok).2, by rw [RpF.len rf]; exact hl, k.nx _ _ _ _ _ ((s1.trans s2).trans s3) (ss.env.mono ((s1.trans s2).trans s3).fle) q2⟩⟩⟩
theorem de_meth {CX : CXT} {pl : Sem Bool} (hC : ∀ C, ok C → L2.Cls X.K C ∧ L2.Meth X.K C m g) (F : FnOk X.prog X.w X.K X.mg X.base CX k g fd ps (lift X.K sp)) (hr : Room k X.A) (hb : Binds X.K fd ps []) (hx : ∀ σ, PassesAt CX X σ (E0 σ)) (ho : DE X E0 Ee o to) (ha : DA X E0 Ee (e :: es) tr)
    (hst : starEach (e :: es) X.env = (false, eval e X.env) :: starEach es X.env := by rfl) (hpl : (backTo pos (starEach es X.env)).any (·.1) = false := by rfl)
    (ht : eval (.Call (.Attribute o m apos) (e :: es) [] pos) X.env = (do
      let ov ← eval o X.env
      standAt apos.atName
      let (f, first) ← holding [ov] (getMethod ov m pl)
      callWith pos f first (backTo pos (starEach (e :: es) X.env)) (backToKw pos (keywordEach [] X.env))) := by rfl) : DE X E0 Ee (.Call (.Attribute o m apos) (e :: es) [] pos) (dMeth ok m sp Ee to tr) := by
  refine ⟨fun pins s σ H Q0 I ⟨F1, M, ρ, Q, ss, q, kk⟩ => ?_⟩
  refine PySem.W.methodCall_KW (pl := pl) (thn (ho.run pins s σ H (fun x H1 => ∃ a C dx fs, x = .ref a ∧ H1 a = some (.ins C dx fs) ∧ L2.Cls X.K C ∧ L2.Meth X.K C m g ∧ fs.lookup m = none ∧ lowA X.K E0 Ee tr σ H1 fun vs H2 => lift X.K sp (x :: vs) H2 Q0 (E0 σ)) I
    ⟨F1, M, ρ, _, ss, q, fun v H1 F2 d M1 s1 r ⟨C, fs, hv, hok, hl, q2⟩ => ?_⟩) fun u s1 ⟨x, H1, I1, rx, a, C, dx, fs, ex, ea, c, hm, l, q⟩ => ?_) ht
  · have c := Ct.vw s1.hm r
    rw [hv] at c
    obtain ⟨a, dx, xs, rfl, e, rf⟩ := c
    exact ⟨a, C, dx, xs, rfl, e, (hC C hok).1, (hC C hok).2, rpF_none rf hl, F2, M1, ρ, _, ss.step s1, q2, fun vs H2 F3 ds M2 s2 r2 q3 => call_low ((ss.step s1).step s2) (.cons (r.mono s2.fle) r2) q3 ((kk.step s1).step s2)⟩
  · subst ex
    obtain rfl : u = Value.ref a := rx
    refine getmeth_ok I1 ea c hm l ?_
    refine PySem.W.callWith_K (first := [.ref a]) (h₀ := X.base) I.ok.mod.kin hm.kp (thn (ha.run pos pins s1 σ H1 _ I1 q) fun us s2 ⟨vs, H2, I2, r, q2⟩ => ⟨I2.kIn, ?_⟩) hst hpl
    exact run_fnSD (us := .ref a :: us) (vs := .ref a :: vs) (dvs := []) (ds := []) (E := E0) F hr hb .nil (hx σ) I2 (.cons rfl r) (by rw [List.append_nil]; exact q2)
theorem de_meth0 {CX : CXT} {pl : Sem Bool} (hC : ∀ C, ok C → L2.Cls X.K C ∧ L2.Meth X.K C m g) (F : FnOk X.prog X.w X.K X.mg X.base CX k g fd ps (lift X.K sp)) (hr : Room k X.A) (hb : Binds X.K fd ps []) (hx : ∀ σ, PassesAt CX X σ (E0 σ)) (ho : DE X E0 Ee o to)
    (ht : eval (.Call (.Attribute o m apos) [] [] pos) X.env = (do
      let ov ← eval o X.env
      standAt apos.atName
      let (f, first) ← holding [ov] (getMethod ov m pl)
      callWith pos f first (backTo pos (starEach [] X.env)) (backToKw pos (keywordEach [] X.env))) := by rfl) : DE X E0 Ee (.Call (.Attribute o m apos) [] [] pos) (dMeth ok m sp Ee to dNil) := by
  refine ⟨fun pins s σ H Q0 I ⟨F1, M, ρ, Q, ss, q, kk⟩ => ?_⟩
  refine PySem.W.methodCall_KW (pl := pl) (thn (ho.run pins s σ H (fun x H1 => ∃ a C dx fs, x = .ref a ∧ H1 a = some (.ins C dx fs) ∧ L2.Cls X.K C ∧ L2.Meth X.K C m g ∧ fs.lookup m = none ∧ lift X.K sp [x] H1 Q0 (E0 σ)) I
    ⟨F1, M, ρ, _, ss, q, fun v H1 F2 d M1 s1 r ⟨C, fs, hv, hok, hl, q2⟩ => ?_⟩) fun u s1 ⟨x, H1, I1, rx, a, C, dx, fs, ex, ea, c, hm, l, q⟩ => ?_) ht
  · have c := Ct.vw s1.hm r
    rw [hv] at c
    obtain ⟨a, dx, xs, rfl, e, rf⟩ := c
    exact ⟨a, C, dx, xs, rfl, e, (hC C hok).1, (hC C hok).2, rpF_none rf hl, call_low (ss.step s1) (.cons r .nil) q2 (kk.step s1)⟩
  · subst ex
    obtain rfl : u = Value.ref a := rx
    refine getmeth_ok I1 ea c hm l ?_
    exact PySem.W.callWith_K0 (first := [.ref a]) I1.kIn hm.kp (run_fnSD (us := [.ref a]) (vs := [.ref a]) (dvs := []) (ds := []) (E := E0) F hr hb .nil (hx σ) I1 (.cons rfl .nil) q)
end
end DL


set_option Elab.async false
set_option linter.all false
set_option maxRecDepth 100000
set_option maxHeartbeats 1000000
namespace DL
open PySem PySem.Spec PyProof.Rows L2
/-! ### C(..) -/
section
variable {X : Cx} {E0 : L2.St → XK} {Ee : DEnv → DXK} {x : Str} {g C : Addr} {k : Nat} {fd : FuncData} {ps : List Str} {sp : DSp} {e : Expr} {es : List Expr} {tr : TDA} {p pos : Pos} {CX : CXT}
theorem run_makeS {spv : Sp} {E : L2.St → XK} {pins : List (Addr × Obj)} {σ : L2.St} {H : Hp} {s : Shared} {Q : VK} {us : List Value} {vs : List V} (Mk : L2.Mk X.K C g) (F : FnOk X.prog X.w X.K X.mg X.base CX k g fd ps spv) (hr : Room (k + 1) X.A) (hb : Binds X.K fd ps [])
    (hx : PassesAt CX X σ (E σ)) (I : Inv X pins σ H s) (r : Vals vs us)
    (h : ∀ x dx, H x = none → H dx = none → dx ≠ x → spv (.ref x :: vs) (upd (upd H dx (.own x)) x (.ins C dx [])) (fun v H2 => v = .non ∧ Q (.ref x) H2) (E σ)) :
    wpAny (model X.prog X.w) X.A (call (.ref C) us) (EP X pins σ Q) X.xe s := by
  have hq := h (s.heap.objs.size + 1) s.heap.objs.size (I.hok.fresh (Nat.le_succ _)) (I.hok.fresh (Nat.le_refl _)) (Nat.ne_of_lt (Nat.lt_succ_self _))
  have I2 := Inv.made (C := C) I
  have r2 : Vals (V.ref (s.heap.objs.size + 1) :: vs) (Value.ref (s.heap.objs.size + 1) :: us) := .cons rfl r
  have hl : ((Value.ref (s.heap.objs.size + 1) :: us) ++ ([] : List Value)).length = ps.length := by
    rw [List.append_nil]
    have e := r2.length
    rw [F.len _ _ _ _ hq] at e
    exact e.symm
  have hb2 := hb _ (Value.ref (s.heap.objs.size + 1) :: us) I2.kIn hl
  rw [List.append_nil] at hb2
  refine wpAny_call (make_map (f := g) I.kIn Mk.makes Mk.init (beq_iff_eq.mp Mk.fn) (codeAny_mono (F.run _ X.stack _ _ ⟨Value.ref (s.heap.objs.size + 1) :: us, []⟩ (Value.ref (s.heap.objs.size + 1) :: us) _ _ (E σ) (hr.make C us [])
    (I2.env0.make C us []) hb2 r2 hq) fun r s' hq' => ?_))
  cases r with
  | error e => exact hx pins _ _ e s' I2 hq'
  | ok fl =>
    cases fl with
    | ret u =>
      obtain ⟨v, H', I3, rv, ev, q3⟩ := I2.after hq'
      subst ev
      exact ⟨rv, ⟨V.ref (s.heap.objs.size + 1), H', I3, rfl, q3⟩⟩
    | next => exact False.elim hq'
    | brk => exact False.elim hq'
    | cont => exact False.elim hq'
theorem de_make (Mk : L2.Mk X.K C g) (F : FnOk X.prog X.w X.K X.mg X.base CX k g fd ps (lift X.K sp)) (hr : Room (k + 1) X.A) (hg : Gl X x) (hm : X.mg x = some (.ref C)) (hb : Binds X.K fd ps []) (hx : ∀ σ, PassesAt CX X σ (E0 σ))
    (ha : DA X E0 Ee (e :: es) tr) (hdb : (x == ("__debug__" : Str)) = false := by decide) (he : starEach (e :: es) X.env = (false, eval e X.env) :: starEach es X.env := by rfl) (hpl : (backTo pos (starEach es X.env)).any (·.1) = false := by rfl) :
    DE X E0 Ee (.Call (.Name x p) (e :: es) [] pos) (dMake C (fun ds M Q E => sp ds M (fun d M' => d = .non ∧ Q d M') E) Ee tr) := by
  refine ⟨fun pins s σ H Q0 I ⟨F1, M, ρ, Q, ss, q, kk⟩ => ?_⟩
  refine wpAny_Call_Name_kw (ld_glob I hg hm ?_ hdb)
  refine PySem.W.callWith_K (h₀ := X.base) I.ok.mod.kin Mk.kp (thn (ha.run pos pins s σ H (fun vs H1 => ∀ x dx, H1 x = none → H1 dx = none → dx ≠ x → lift X.K sp (.ref x :: vs) (upd (upd H1 dx (.own x)) x (.ins C dx [])) (fun v H2 => v = .non ∧ Q0 (.ref x) H2) (E0 σ)) I ⟨F1, M, ρ, _, ss, q, fun vs H1 F2 ds M1 s1 r q1 a dx ha hdx ne => ?_⟩) fun us s1 ⟨vs, H1, I1, r, q⟩ => ⟨I1.kIn, ?_⟩) he hpl
  · obtain ⟨nM, nF⟩ := s1.hm.none ha
    obtain ⟨dM, dF⟩ := s1.hm.none hdx
    have s2 := (Step.refl s1.hm).hset hdx dF dM (.own a)
    have ha2 : upd H1 dx (.own a) a = none := by rw [upd_ne (Ne.symm ne)]; exact ha
    have s3 := Step.newM (o := .ins C dx []) (mo := .ins C []) s2.hm ha2 ⟨dx, [], upd_same, .nil⟩
    have s23 := s2.trans s3
    have q2 := q1 a nM
    refine ⟨F2, _, .ref a :: ds, _, Ee ρ, s23.hm, .cons (.ref a) (r.mono s23.fle), q2, fun v H' F' d M' s4 rd ⟨ed, q3⟩ => ?_, fun F' M' H' C d xs dd s4 xa rf ed => ?_⟩
    · subst ed
      cases rd
      exact ⟨rfl, kk _ _ _ _ _ ((s1.trans s23).trans s4) (.ref a) q3⟩
    · have s5 := (s1.trans s23).trans s4
      exact ss.xc F' M' H' σ ρ C d xs dd s5 (ss.env.mono s5.fle) xa rf ed
  · exact run_makeS Mk F hr hb (hx σ) I1 r q
end
/-! ### what the head tells of a class with instances -/
def insB (K : PySem.W.Frag) (C : Addr) : Bool := PySem.W.plainGet K C Str.empty && (PySem.W.hasDictIn K C && (PySem.W.plainOver K C && He.eqO (PySem.W.findIn K (.ref C) "__setattr__") (some (some (.builtin "object.__setattr__")))))
theorem insB_ok {K : PySem.W.Frag} {C : Addr} (h : insB K C = true) : L2.Cls K C := by
  obtain ⟨h1, h⟩ := He.ba h
  obtain ⟨h2, h⟩ := He.ba h
  obtain ⟨h3, h4⟩ := He.ba h
  exact ⟨h1, h2, h3, He.eqO_ok h4⟩
def mkB (K : PySem.W.Frag) (C f : Addr) : Bool := PySem.W.makesIn K C && (He.eqO (PySem.W.findIn K (.ref C) "__init__") (some (some (.ref f))) && (PySem.W.isFn K (.ref f) && PySem.W.keepIn K (.ref C)))
theorem mkB_ok {K : PySem.W.Frag} {C f : Addr} (h : mkB K C f = true) : L2.Mk K C f := by
  obtain ⟨h1, h⟩ := He.ba h
  obtain ⟨h2, h⟩ := He.ba h
  obtain ⟨h3, h4⟩ := He.ba h
  exact ⟨h1, He.eqO_ok h2, h3, h4⟩
def methB (K : PySem.W.Frag) (C : Addr) (m : Str) (f : Addr) : Bool := He.eqO (PySem.W.findIn K (.ref C) m) (some (some (.ref f))) && (PySem.W.isFn K (.ref f) && PySem.W.keepIn K (.ref f))
theorem methB_ok {K : PySem.W.Frag} {C f : Addr} {m : Str} (h : methB K C m f = true) : L2.Meth K C m f := by
  obtain ⟨h1, h⟩ := He.ba h
  obtain ⟨h2, h3⟩ := He.ba h
  exact ⟨He.eqO_ok h1, h2, h3⟩
def noB (K : PySem.W.Frag) (C : Addr) (fs : List Str) : Bool := fs.all fun f => He.eqO (PySem.W.findIn K (.ref C) f) (some none)
theorem noB_ok {K : PySem.W.Frag} {C : Addr} {fs : List Str} (h : noB K C fs = true) {f : Str} (hf : f ∈ fs) : L2.NoAttr K C f := He.eqO_ok (List.all_eq_true.mp h f hf)
end DL


set_option Elab.async false
set_option linter.all false
set_option maxRecDepth 100000
set_option maxHeartbeats 1000000
namespace DL
open PySem PySem.Spec PyProof.Rows L2
/-! ### zip of two sequences, each a list or a tuple -/
inductive Kd where
  | l | t
def Kd.sq : Kd → Heap → Addr → Array Value → Prop
  | .l => Heap.IsList
  | .t => Heap.IsTuple
def Kd.it : Kd → Heap → Addr → Addr → Nat → Prop
  | .l => Heap.IsListIter
  | .t => Heap.IsTupleIter
def Kd.nm : Kd → String
  | .l => "list_iterator"
  | .t => "tuple_iterator"
theorem Kd.it_obj {k : Kd} {h : Heap} {a b : Addr} {i : Nat} (x : k.it h a b i) : ∃ o, h.get? a = some o ∧ o.cls = .type k.nm ∧ o.data = .fields #[.ref b, .int i 0] := by cases k <;> exact x
theorem Kd.it_of {k : Kd} {h : Heap} {a b : Addr} {i : Nat} (x : ∃ o, h.get? a = some o ∧ o.cls = .type k.nm ∧ o.data = .fields #[.ref b, .int i 0]) : k.it h a b i := by cases k <;> exact x
theorem Kd.it.keep {k : Kd} {h h' : Heap} {a b : Addr} {i : Nat} (x : k.it h a b i) (f : ∀ o, h.get? a = some o → h'.get? a = some o) : k.it h' a b i := by
  obtain ⟨o, e, r⟩ := Kd.it_obj x
  exact Kd.it_of ⟨o, f o e, r⟩
theorem Kd.sq.keep {k : Kd} {h h' : Heap} {a : Addr} {xs : Array Value} (x : k.sq h a xs) (f : ∀ o, h.get? a = some o → h'.get? a = some o) : k.sq h' a xs := by
  cases k <;> (obtain ⟨o, e, r⟩ := x; exact ⟨o, f o e, r⟩)
theorem Kd.sq_lt {k : Kd} {h : Heap} {a : Addr} {xs : Array Value} (x : k.sq h a xs) : a < h.objs.size := by
  cases k <;> (obtain ⟨o, e, r⟩ := x; exact Heap.lt_size e)
section
variable {prog : Program} {w : World} {A : Around} {E : Value → Shared → Prop} {s : Shared}
theorem Kd.item {k : Kd} {it l : Addr} {i : Nat} {items} {x : Value} {Q : Value → Shared → Prop} (hit : k.it s.heap it l i) (hl : k.sq s.heap l items) (hx : items[i]? = some x)
    (hQ : ∀ h', k.it h' it l (i + 1) → Heap.SameBut it s.heap h' → Q x { s with heap := h' }) : wpAny (model prog w) A (Builtin.SmallTypes.nextOf (.ref it)) Q E s := by
  cases k with
  | l => exact wpAny_nextOf_list_item hit hl hx hQ
  | t => exact RZ.nextOf_tuple_item hit hl hx hQ
theorem Kd.over {k : Kd} {it l : Addr} {i : Nat} {items} {Q : Value → Shared → Prop} (hh : A.handled = none) (hit : k.it s.heap it l i) (hl : k.sq s.heap l items) (hx : items[i]? = none)
    (hE : ∀ h' e, Heap.ExtBut it s.heap h' → (∃ o, h'.get? e = some o ∧ o.cls = .type "StopIteration") → E (.ref e) { s with heap := h' }) : wpAny (model prog w) A (Builtin.SmallTypes.nextOf (.ref it)) Q E s := by
  cases k with
  | l => exact wpAny_nextOf_list_end hh hit hl hx hE
  | t => exact RZ.nextOf_tuple_end hh hit hl hx hE
/-- two steps that change one object each -/
theorem only {h h1 : Heap} {a b : Addr} (x : Heap.SameBut a h h1) (n : b ≠ a) : ∀ o, h.get? b = some o → h1.get? b = some o := fun o e => x.extBut _ _ n e
theorem zx_item {j k : Kd} {z TI TO i1 i2 l1 l2 : Addr} {k1 k2 : Nat} {xs ys : Array Value} {x y a b : Value} {Q : Value → Shared → Prop} (D : ZipApart z TI TO i1 i2 l1 l2)
    (hz : IsZip s.heap z TI TO .none) (hTI : IsPair s.heap TI (.ref i1) (.ref i2)) (hTO : IsPair s.heap TO a b)
    (h1 : j.it s.heap i1 l1 k1) (h2 : k.it s.heap i2 l2 k2) (hl1 : j.sq s.heap l1 xs) (hl2 : k.sq s.heap l2 ys) (hx : xs[k1]? = some x) (hy : ys[k2]? = some y)
    (hQ : ∀ h', IsZip h' z TI TO (rawInt s.heap.objs.size) → IsPair h' TO x y → j.it h' i1 l1 (k1 + 1) → k.it h' i2 l2 (k2 + 1) → IsPair h' s.heap.objs.size x y → h'.objs.size = s.heap.objs.size + 1 →
      (∀ c o, c ≠ z → c ≠ TO → c ≠ i1 → c ≠ i2 → s.heap.get? c = some o → h'.get? c = some o) → Q (.ref s.heap.objs.size) { s with heap := h' }) :
    wpAny (model prog w) A (Builtin.«zip.__next__» ⟨[.ref z], []⟩) (fun fin s' => ∃ v, fin = .done (.ret v) ∧ Q v s') E s := by
  show wpAny _ _ (field (.ref z) 2 >>= _) _ _ _
  refine wpAny_bind (wpAny_field hz rfl (x := .bool false) rfl ?_)
  show wpAny _ _ (field (.ref z) 3 >>= _) _ _ _
  refine wpAny_bind (wpAny_field hz rfl (x := .ref TI) rfl ?_)
  refine wpAny_bind (wpAny_seqItems hTI rfl ?_)
  show wpAny _ _ (Builtin.SmallTypes.ownedTupleIsFree (.ref z) >>= _) _ _ _
  refine wpAny_bind ?_
  unfold Builtin.SmallTypes.ownedTupleIsFree
  refine wpAny_bind (wpAny_field hz rfl (x := .none) rfl (wpAny_pure ?_))
  simp only [if_true]
  refine wpAny_bind (wpAny_rule ?_)
  refine wpAny_bind (wpAny_field hz rfl (x := .ref TO) rfl ?_)
  refine wpAny_bind (wpAny_setField_rec hz (by simp) fun g1 z1 c1 => ?_)
  replace z1 : IsZip g1 z TI TO .ellipsis := z1
  refine wpAny_bind ?_
  simp only [List.zipIdx_cons, List.zipIdx_nil, List.forIn_cons, List.forIn_nil]
  refine wpAny_bind (wpAny_bind (wpAny_onRaise ?_))
  show wpAny _ _ (Builtin.SmallTypes.nextOf (.ref i1) >>= _) _ _ _
  refine wpAny_bind (Kd.item (h1.keep (only c1 D.i1z)) (hl1.keep (only c1 D.l1z)) hx fun g2 n1 c2 => wpAny_pure ?_)
  have p2 : IsPair g2 TO a b := only c2 D.TOi1 _ (only c1 D.TOz _ hTO)
  refine wpAny_bind (wpAny_seqItems p2 rfl ?_)
  refine wpAny_bind (wpAny_updateSeq_pair p2 fun g3 p3 c3 => ?_)
  replace p3 : IsPair g3 TO x b := p3
  refine wpAny_bind (wpAny_letGo (wpAny_pure ?_))
  refine wpAny_bind (wpAny_bind (wpAny_onRaise ?_))
  show wpAny _ _ (Builtin.SmallTypes.nextOf (.ref i2) >>= _) _ _ _
  refine wpAny_bind (Kd.item (((h2.keep (only c1 D.i2z)).keep (only c2 D.i12.symm)).keep (only c3 D.TOi2.symm)) (((hl2.keep (only c1 D.l2z)).keep (only c2 D.l2i1)).keep (only c3 D.l2TO)) hy fun g4 n2 c4 => wpAny_pure ?_)
  have p4 : IsPair g4 TO x b := only c4 D.TOi2 _ p3
  refine wpAny_bind (wpAny_seqItems p4 rfl ?_)
  refine wpAny_bind (wpAny_updateSeq_pair p4 fun g5 p5 c5 => ?_)
  replace p5 : IsPair g5 TO x y := p5
  refine wpAny_bind (wpAny_letGo (wpAny_pure (wpAny_pure ?_)))
  refine wpAny_bind (wpAny_seqItems p5 rfl ?_)
  refine wpAny_bind (wpAny_newTuple ?_)
  have hsz : g5.objs.size = s.heap.objs.size := by rw [c5.1, c4.1, c3.1, c2.1, c1.1]
  have all : ∀ c o, c ≠ z → c ≠ TO → c ≠ i1 → c ≠ i2 → s.heap.get? c = some o → g5.get? c = some o := fun c o n1 n2 n3 n4 e => only c5 n2 _ (only c4 n4 _ (only c3 n2 _ (only c2 n3 _ (only c1 n1 _ e))))
  have z5 : IsZip g5 z TI TO .ellipsis := only c5 D.TOz.symm _ (only c4 D.i2z.symm _ (only c3 D.TOz.symm _ (only c2 D.i1z.symm _ z1)))
  have m1 : j.it g5 i1 l1 (k1 + 1) := ((n1.keep (only c3 D.TOi1.symm)).keep (only c4 D.i12)).keep (only c5 D.TOi1.symm)
  have m2 : k.it g5 i2 l2 (k2 + 1) := n2.keep (only c5 D.TOi2.symm)
  show wpAny _ _ (Builtin.SmallTypes.ownedTupleHandOut (.ref z) (.ref g5.objs.size) >>= _) _ _ _
  refine wpAny_bind ?_
  unfold Builtin.SmallTypes.ownedTupleHandOut
  have z6 : IsZip (g5.push { cls := .type "tuple", data := .seq #[x, y] }) z TI TO .ellipsis := Heap.get?_push_of_some _ z5
  refine wpAny_bind (wpAny_setField_rec z6 (by simp) fun g7 z7 c7 => ?_)
  replace z7 : IsZip g7 z TI TO (rawInt g5.objs.size) := z7
  refine wpAny_setField_rec z7 (by simp) fun g8 z8 c8 => ?_
  replace z8 : IsZip g8 z TI TO (rawInt g5.objs.size) := z8
  have up : ∀ c o, c ≠ z → g5.get? c = some o → g8.get? c = some o := fun c o n e => only c8 n _ (only c7 n _ (Heap.get?_push_of_some _ e))
  have t8 : IsPair g8 g5.objs.size x y := only c8 (Nat.ne_of_gt (Heap.lt_size z5)) _ (only c7 (Nat.ne_of_gt (Heap.lt_size z5)) _ (Heap.get?_push_size _ rfl))
  have s8 : g8.objs.size = g5.objs.size + 1 := by rw [c8.1, c7.1, Heap.size_push]
  rw [hsz] at z8 t8 s8
  refine wpAny_pure ⟨_, rfl, ?_⟩
  show Q (.ref g5.objs.size) _
  rw [hsz]
  exact hQ g8 z8 (up _ _ D.TOz p5) (m1.keep fun o e => up _ o D.i1z e) (m2.keep fun o e => up _ o D.i2z e) t8 s8 fun c o n1 n2 n3 n4 e => up c o n1 (all c o n1 n2 n3 n4 e)
end
end DL


set_option Elab.async false
set_option linter.all false
set_option maxRecDepth 100000
set_option maxHeartbeats 1000000
namespace DL
open PySem PySem.Spec PyProof.Rows L2
section
variable {prog : Program} {w : World} {A : Around} {E : Value → Shared → Prop} {s : Shared}
theorem zx_end {j k : Kd} {z TI TO i1 i2 l1 l2 : Addr} {k1 k2 : Nat} {xs ys : Array Value} {a b : Value} {Q : Fin → Shared → Prop} (hh : A.handled = none) (D : ZipApart z TI TO i1 i2 l1 l2)
    (hz : IsZip s.heap z TI TO .none) (hTI : IsPair s.heap TI (.ref i1) (.ref i2)) (hTO : IsPair s.heap TO a b)
    (h1 : j.it s.heap i1 l1 k1) (h2 : k.it s.heap i2 l2 k2) (hl1 : j.sq s.heap l1 xs) (hl2 : k.sq s.heap l2 ys) (hend : xs[k1]? = none ∨ ys[k2]? = none)
    (hE : ∀ h' e, (∀ c o, c ≠ z → c ≠ TO → c ≠ i1 → c ≠ i2 → s.heap.get? c = some o → h'.get? c = some o) → (∃ o, h'.get? e = some o ∧ o.cls = .type "StopIteration") → E (.ref e) { s with heap := h' }) :
    wpAny (model prog w) A (Builtin.«zip.__next__» ⟨[.ref z], []⟩) Q E s := by
  show wpAny _ _ (field (.ref z) 2 >>= _) _ _ _
  refine wpAny_bind (wpAny_field hz rfl (x := .bool false) rfl ?_)
  show wpAny _ _ (field (.ref z) 3 >>= _) _ _ _
  refine wpAny_bind (wpAny_field hz rfl (x := .ref TI) rfl ?_)
  refine wpAny_bind (wpAny_seqItems hTI rfl ?_)
  show wpAny _ _ (Builtin.SmallTypes.ownedTupleIsFree (.ref z) >>= _) _ _ _
  refine wpAny_bind ?_
  unfold Builtin.SmallTypes.ownedTupleIsFree
  refine wpAny_bind (wpAny_field hz rfl (x := .none) rfl (wpAny_pure ?_))
  simp only [if_true]
  refine wpAny_bind (wpAny_rule ?_)
  refine wpAny_bind (wpAny_field hz rfl (x := .ref TO) rfl ?_)
  refine wpAny_bind (wpAny_setField_rec hz (by simp) fun g1 z1 c1 => ?_)
  replace z1 : IsZip g1 z TI TO .ellipsis := z1
  refine wpAny_bind ?_
  simp only [List.zipIdx_cons, List.zipIdx_nil, List.forIn_cons, List.forIn_nil]
  refine wpAny_bind (wpAny_bind (wpAny_onRaise ?_))
  show wpAny _ _ (Builtin.SmallTypes.nextOf (.ref i1) >>= _) _ _ _
  have fin : ∀ {g : Heap} {e : Addr}, IsZip g z TI TO .ellipsis → (∃ o, g.get? e = some o ∧ o.cls = .type "StopIteration") → (∀ c o, c ≠ z → c ≠ TO → c ≠ i1 → c ≠ i2 → s.heap.get? c = some o → g.get? c = some o) →
      wpAny (model prog w) A (setField (.ref z) 0 Value.none) (fun _ s'' => E (.ref e) s'') E { s with heap := g } := by
    intro g e zg he hk
    obtain ⟨oe, hoe, hce⟩ := he
    have hez : e ≠ z := fun x => by subst x; rw [zg] at hoe; cases hoe; simp at hce
    exact wpAny_setField_rec zg (by simp) fun g3 _ c3 => hE g3 e (fun c o n1 n2 n3 n4 x => only c3 n1 _ (hk c o n1 n2 n3 n4 x)) ⟨oe, only c3 hez _ hoe, hce⟩
  cases hx : xs[k1]? with
  | none =>
    refine wpAny_bind (Kd.over hh (h1.keep (only c1 D.i1z)) (hl1.keep (only c1 D.l1z)) hx fun g2 e c2 he => ?_)
    exact fin (c2 _ _ D.i1z.symm z1) he fun c o n1 n2 n3 n4 x => c2 _ _ n3 (only c1 n1 _ x)
  | some x =>
    have hy : ys[k2]? = none := by
      rcases hend with h | h
      · rw [hx] at h; cases h
      · exact h
    refine wpAny_bind (Kd.item (h1.keep (only c1 D.i1z)) (hl1.keep (only c1 D.l1z)) hx fun g2 n1 c2 => wpAny_pure ?_)
    have p2 : IsPair g2 TO a b := only c2 D.TOi1 _ (only c1 D.TOz _ hTO)
    refine wpAny_bind (wpAny_seqItems p2 rfl ?_)
    refine wpAny_bind (wpAny_updateSeq_pair p2 fun g3 p3 c3 => ?_)
    refine wpAny_bind (wpAny_letGo (wpAny_pure ?_))
    refine wpAny_bind (wpAny_bind (wpAny_onRaise ?_))
    show wpAny _ _ (Builtin.SmallTypes.nextOf (.ref i2) >>= _) _ _ _
    refine wpAny_bind (Kd.over hh (((h2.keep (only c1 D.i2z)).keep (only c2 D.i12.symm)).keep (only c3 D.TOi2.symm)) (((hl2.keep (only c1 D.l2z)).keep (only c2 D.l2i1)).keep (only c3 D.l2TO)) hy fun g4 e c4 he => ?_)
    exact fin (c4 _ _ D.i2z.symm (only c3 D.TOz.symm _ (only c2 D.i1z.symm _ z1))) he fun c o n1 n2 n3 n4 x => c4 _ _ n4 (only c3 n2 _ (only c2 n3 _ (only c1 n1 _ x)))
theorem zx_next {j k : Kd} {z TI TO i1 i2 l1 l2 : Addr} {k1 k2 : Nat} {xs ys : Array Value} {x y a b : Value} {Q : Option Value → Shared → Prop} (D : ZipApart z TI TO i1 i2 l1 l2)
    (hz : IsZip s.heap z TI TO .none) (hTI : IsPair s.heap TI (.ref i1) (.ref i2)) (hTO : IsPair s.heap TO a b)
    (h1 : j.it s.heap i1 l1 k1) (h2 : k.it s.heap i2 l2 k2) (hl1 : j.sq s.heap l1 xs) (hl2 : k.sq s.heap l2 ys) (hx : xs[k1]? = some x) (hy : ys[k2]? = some y)
    (hQ : ∀ h', IsZip h' z TI TO (rawInt s.heap.objs.size) → IsPair h' TO x y → j.it h' i1 l1 (k1 + 1) → k.it h' i2 l2 (k2 + 1) → IsPair h' s.heap.objs.size x y → h'.objs.size = s.heap.objs.size + 1 →
      (∀ c o, c ≠ z → c ≠ TO → c ≠ i1 → c ≠ i2 → s.heap.get? c = some o → h'.get? c = some o) → Q (some (.ref s.heap.objs.size)) { s with heap := h' }) :
    wpAny (model prog w) A (pyNext (.ref z)) Q E s := by
  have hT : s.TypeIs (.ref z) "zip" := ⟨_, hz, rfl⟩
  unfold pyNext
  exact wpAny_bind (wpAny_attempt (wpAny_callSpecial?_slot (name := Str.ofString "__next__") hT F.slot_zip_next
    (wpAny_call_entry F.slot_zip_next hT F.entry_zip_next
      (zx_item D hz hTI hTO h1 h2 hl1 hl2 hx hy fun h' a1 a2 a3 a4 a5 a6 a7 => wpAny_pure (hQ h' a1 a2 a3 a4 a5 a6 a7)) (F.args_zip_next_1 _))))
theorem zx_stop {j k : Kd} {z TI TO i1 i2 l1 l2 : Addr} {k1 k2 : Nat} {xs ys : Array Value} {a b : Value} {Q : Option Value → Shared → Prop} (hh : A.handled = none) (D : ZipApart z TI TO i1 i2 l1 l2)
    (hz : IsZip s.heap z TI TO .none) (hTI : IsPair s.heap TI (.ref i1) (.ref i2)) (hTO : IsPair s.heap TO a b)
    (h1 : j.it s.heap i1 l1 k1) (h2 : k.it s.heap i2 l2 k2) (hl1 : j.sq s.heap l1 xs) (hl2 : k.sq s.heap l2 ys) (hend : xs[k1]? = none ∨ ys[k2]? = none)
    (hQ : ∀ h', (∀ c o, c ≠ z → c ≠ TO → c ≠ i1 → c ≠ i2 → s.heap.get? c = some o → h'.get? c = some o) → Q none { s with heap := h' }) : wpAny (model prog w) A (pyNext (.ref z)) Q E s := by
  have hT : s.TypeIs (.ref z) "zip" := ⟨_, hz, rfl⟩
  unfold pyNext
  refine wpAny_bind (wpAny_attempt (wpAny_callSpecial?_slot (name := Str.ofString "__next__") hT F.slot_zip_next
    (wpAny_call_entry F.slot_zip_next hT F.entry_zip_next (zx_end hh D hz hTI hTO h1 h2 hl1 hl2 hend fun h' e hk he => ?_) (F.args_zip_next_1 _))))
  obtain ⟨o, ho, hc⟩ := he
  refine wpAny_bind (wpAny_isInstance (T := "StopIteration") (b := true) ⟨o, ho, hc⟩ isSubtype_stop ?_)
  exact wpAny_pure (hQ _ hk)
end
/-! its making -/
abbrev zo (k : Kd) (l : Addr) : Obj := { cls := .type k.nm, data := .fields #[.ref l, .int 0 0] }
abbrev zg1 (j : Kd) (h : Heap) (l1 : Addr) : Heap := h.push (zo j l1)
abbrev zg2 (j k : Kd) (h : Heap) (l1 l2 : Addr) : Heap := (zg1 j h l1).push (zo k l2)
abbrev zg3 (j k : Kd) (h : Heap) (l1 l2 : Addr) : Heap := (zg2 j k h l1 l2).push { cls := .type "tuple", data := .seq #[.ref h.objs.size, .ref (zg1 j h l1).objs.size] }
abbrev zg4 (j k : Kd) (h : Heap) (l1 l2 : Addr) : Heap := (zg3 j k h l1 l2).push { cls := .type "tuple", data := .seq #[.none, .none] }
abbrev zg5 (j k : Kd) (h : Heap) (l1 l2 : Addr) : Heap := (zg4 j k h l1 l2).push { cls := .type "zip", data := .fields #[.none, .bool false, .bool false, .ref (zg2 j k h l1 l2).objs.size, .ref (zg3 j k h l1 l2).objs.size] }
theorem zx_meets (j k : Kd) (l1 l2 : Addr) (xs ys : Array Value) :
    Meets (Builtin.«zip.__new__» ⟨[.type "zip", .ref l1, .ref l2], []⟩) (fun _ R s => j.sq s.heap l1 xs ∧ k.sq s.heap l2 ys ∧
      R (.ok (.ret (.ref (zg4 j k s.heap l1 l2).objs.size))) { s with heap := zg5 j k s.heap l1 l2 }) :=
  .of_wp fun prog w A R s h => by
    obtain ⟨hp, g, d, tk, os⟩ := s; obtain ⟨hl1, hl2, h⟩ := h
    have hsub := sub_zip
    cases j <;> cases k
    · have hL1 : Heap.IsList (Shared.heap ⟨hp, g, d, tk, os⟩) l1 xs := hl1
      have hL2 : Heap.IsList (Shared.heap ⟨hp.push { cls := .type "list_iterator", data := .fields #[.ref l1, .int 0 0] }, g, d, tk, os⟩) l2 ys := Heap.IsList.push hl2 _
      wp_walk using wpAny_pyIter_list hL1, wpAny_pyIter_list hL2
      exact ⟨_, rfl, h⟩
    · have hL1 : Heap.IsList (Shared.heap ⟨hp, g, d, tk, os⟩) l1 xs := hl1
      have hL2 : Heap.IsTuple (Shared.heap ⟨hp.push { cls := .type "list_iterator", data := .fields #[.ref l1, .int 0 0] }, g, d, tk, os⟩) l2 ys := Heap.IsTuple.push hl2 _
      wp_walk using wpAny_pyIter_list hL1, wpAny_pyIter_tuple hL2
      exact ⟨_, rfl, h⟩
    · have hL1 : Heap.IsTuple (Shared.heap ⟨hp, g, d, tk, os⟩) l1 xs := hl1
      have hL2 : Heap.IsList (Shared.heap ⟨hp.push { cls := .type "tuple_iterator", data := .fields #[.ref l1, .int 0 0] }, g, d, tk, os⟩) l2 ys := Heap.IsList.push hl2 _
      wp_walk using wpAny_pyIter_tuple hL1, wpAny_pyIter_list hL2
      exact ⟨_, rfl, h⟩
    · have hL1 : Heap.IsTuple (Shared.heap ⟨hp, g, d, tk, os⟩) l1 xs := hl1
      have hL2 : Heap.IsTuple (Shared.heap ⟨hp.push { cls := .type "tuple_iterator", data := .fields #[.ref l1, .int 0 0] }, g, d, tk, os⟩) l2 ys := Heap.IsTuple.push hl2 _
      wp_walk using wpAny_pyIter_tuple hL1, wpAny_pyIter_tuple hL2
      exact ⟨_, rfl, h⟩
section
variable {prog : Program} {w : World} {A : Around} {E : Value → Shared → Prop} {s : Shared}
theorem zx_call {j k : Kd} {l1 l2 : Addr} {xs ys : Array Value} {Q : Value → Shared → Prop} (hl1 : j.sq s.heap l1 xs) (hl2 : k.sq s.heap l2 ys)
    (h : ∀ h', IsZip h' (s.heap.objs.size + 4) (s.heap.objs.size + 2) (s.heap.objs.size + 3) .none → IsPair h' (s.heap.objs.size + 2) (.ref s.heap.objs.size) (.ref (s.heap.objs.size + 1)) →
      IsPair h' (s.heap.objs.size + 3) .none .none → j.it h' s.heap.objs.size l1 0 → k.it h' (s.heap.objs.size + 1) l2 0 →
      (∀ c o, s.heap.get? c = some o → h'.get? c = some o) → Q (.ref (s.heap.objs.size + 4)) { s with heap := h' }) :
    wpAny (model prog w) A (call (.type "zip") [.ref l1, .ref l2]) Q E s := by
  refine callType_new F.called_zip (by decide) (F.typeCall_zip_2 _ _) (F.newCall_zip_2 _ _) (fun obj => F.args_object_init_3 obj _ _) F.entry_zip_new
    (zx_meets j k l1 l2 xs ys) ⟨hl1, hl2, ?_⟩
  have q1 : (zg1 j s.heap l1).objs.size = s.heap.objs.size + 1 := Heap.size_push ..
  have q2 : (zg2 j k s.heap l1 l2).objs.size = s.heap.objs.size + 2 := by rw [Heap.size_push, q1]
  have q3 : (zg3 j k s.heap l1 l2).objs.size = s.heap.objs.size + 3 := by rw [Heap.size_push, q2]
  have q4 : (zg4 j k s.heap l1 l2).objs.size = s.heap.objs.size + 4 := by rw [Heap.size_push, q3]
  have up : ∀ {h : Heap} {o : Obj} {c : Addr} {u : Obj}, h.get? c = some u → (h.push o).get? c = some u := fun e => Heap.get?_push_of_some _ e
  have e5 : (zg5 j k s.heap l1 l2).get? (zg4 j k s.heap l1 l2).objs.size = some _ := Heap.get?_push_size _ rfl
  have e4 : (zg5 j k s.heap l1 l2).get? (zg3 j k s.heap l1 l2).objs.size = some _ := up (Heap.get?_push_size _ rfl)
  have e3 : (zg5 j k s.heap l1 l2).get? (zg2 j k s.heap l1 l2).objs.size = some _ := up (up (Heap.get?_push_size _ rfl))
  have e2 : (zg5 j k s.heap l1 l2).get? (zg1 j s.heap l1).objs.size = some (zo k l2) := up (up (up (Heap.get?_push_size _ rfl)))
  have e1 : (zg5 j k s.heap l1 l2).get? s.heap.objs.size = some (zo j l1) := up (up (up (up (Heap.get?_push_size _ rfl))))
  show _ ∧ _
  rw [q2, q3, q4] at e5
  rw [q1, q2] at e3
  rw [q3] at e4
  rw [q1] at e2
  rw [q4]
  exact ⟨⟨_, e5, rfl⟩, h _ e5 e3 e4 (Kd.it_of ⟨_, e1, rfl, rfl⟩) (Kd.it_of ⟨_, e2, rfl, rfl⟩) fun c o x => up (up (up (up (up x))))⟩
end
end DL


set_option Elab.async false
set_option linter.all false
set_option maxRecDepth 100000
set_option maxHeartbeats 1000000
namespace DL
open PySem PySem.Spec PyProof.Rows L2
def SqD (k : Kd) (K : PySem.W.Frag) (H : Hp) (a : Addr) (xs : List V) : Prop := match k with
  | .l => SqL K H a xs
  | .t => SqT K H a xs
theorem SqD.at {k : Kd} {X : Cx} {pins : List (Addr × Obj)} {σ : L2.St} {H : Hp} {s : Shared} {a : Addr} {xs : List V} (I : Inv X pins σ H s) (h : SqD k X.K H a xs) : ∃ its : List Value, Vals xs its ∧ k.sq s.heap a its.toArray := by
  cases k with
  | l => obtain ⟨its, r, p, _⟩ := I.list h; exact ⟨its, r, p.isList⟩
  | t => obtain ⟨its, r, p, _⟩ := I.tuple h; exact ⟨its, r, p⟩
theorem SqD.inj {k : Kd} {X : Cx} {pins : List (Addr × Obj)} {σ : L2.St} {H : Hp} {s : Shared} {a : Addr} {xs ys : List V} (I : Inv X pins σ H s) (h : SqD k X.K H a xs) (h' : SqD k X.K H a ys) : xs = ys := by
  cases k with
  | l => exact I.list_inj h h'
  | t => exact I.tuple_inj h h'
def ItG (j k : Kd) (K : PySem.W.Frag) (a b : Addr) : It :=
  ⟨fun i H => ∃ (xs ys : List V) (x y : V), SqD j K H a xs ∧ SqD k K H b ys ∧ xs[i]? = some x ∧ ys[i]? = some y,
    fun i H v H' => ∃ T x y, v = .ref T ∧ H T = none ∧ H' = upd H T (.tup [x, y]) ∧ (∀ xs, SqD j K H a xs → xs[i]? = some x) ∧ ∀ ys, SqD k K H b ys → ys[i]? = some y,
    fun i H => ∃ xs ys : List V, SqD j K H a xs ∧ SqD k K H b ys ∧ (xs.length ≤ i ∨ ys.length ≤ i)⟩
theorem zx_turn {P : Program} {w : World} {K : PySem.W.Frag} {elts : List Expr} {kk : Nat} {tpos : Pos} {j k : Kd} {a b z TI TO i1 i2 : Addr} (D : ZipApart z TI TO i1 i2 a b) :
    Turn P w K (.Tuple elts kk tpos) (ItG j k K a b) [z, TI, TO, i1, i2] z (fun i h => IsZip h z TI TO .none ∧ IsPair h TI (.ref i1) (.ref i2) ∧ (∃ x y, IsPair h TO x y) ∧ j.it h i1 a i ∧ k.it h i2 b i) where
  mem := by simp
  obj := fun i h st c hc => by
    obtain ⟨hz, hTI, ⟨x, y, hTO⟩, t1, t2⟩ := st
    obtain ⟨o1, e1, _, d1⟩ := Kd.it_obj t1
    obtain ⟨o2, e2, _, d2⟩ := Kd.it_obj t2
    simp only [List.mem_cons, List.not_mem_nil, or_false] at hc
    rcases hc with rfl | rfl | rfl | rfl | rfl
    · exact ⟨_, hz, fun v q => nomatch q⟩
    · exact ⟨_, hTI, fun v q => nomatch q⟩
    · exact ⟨_, hTO, fun v q => nomatch q⟩
    · exact ⟨o1, e1, fun v q => by rw [d1] at q; cases q⟩
    · exact ⟨o2, e2, fun v q => by rw [d2] at q; cases q⟩
  keep := fun i h h' ⟨hz, hTI, ⟨x, y, hTO⟩, h1, h2⟩ f => ⟨f z (by simp) _ hz, f TI (by simp) _ hTI, ⟨x, y, f TO (by simp) _ hTO⟩, h1.keep fun o q => f i1 (by simp) o q, h2.keep fun o q => f i2 (by simp) o q⟩
  item := by
    intro X hP hw hK hc i pins s σ H E I hf st hg
    subst hP hw hK
    obtain ⟨hz, hTI, ⟨x0, y0, hTO⟩, h1, h2⟩ := st
    obtain ⟨xs, ys, x, y, hqx, hqy, hx, hy⟩ := hg
    obtain ⟨its, rv, p⟩ := hqx.at I
    obtain ⟨its2, rv2, p2⟩ := hqy.at I
    obtain ⟨u, hu, ru⟩ := rv.get hx
    obtain ⟨u2, hu2, ru2⟩ := rv2.get hy
    have hzl : z < s.heap.objs.size := Heap.lt_size hz
    have old : ∀ c ∈ [z, TI, TO, i1, i2], c < s.heap.objs.size := fun c hcm => by
      obtain ⟨_, e1, _⟩ := Kd.it_obj h1
      obtain ⟨_, e2, _⟩ := Kd.it_obj h2
      simp only [List.mem_cons, List.not_mem_nil, or_false] at hcm
      rcases hcm with rfl | rfl | rfl | rfl | rfl
      · exact hzl
      · exact Heap.lt_size hTI
      · exact Heap.lt_size hTO
      · exact Heap.lt_size e1
      · exact Heap.lt_size e2
    refine zx_next D hz hTI hTO h1 h2 p p2 (x := u) (y := u2) (by simpa using hu) (by simpa using hu2) fun h' z' TO' h1' h2' hT hsz hk => ?_
    refine ⟨_, rfl, wpAny_letOwnedTupleGo_zip (s := { s with heap := h' }) z' fun h'' z'' sb => ?_⟩
    have hT2 : h''.get? s.heap.objs.size = some { cls := .type "tuple", data := .seq #[u, u2] } := (sb.2 _ (Nat.ne_of_gt hzl)).trans hT
    have new : ObjOk X.prog X.w (upd H s.heap.objs.size (.tup [x, y])) h'' s.heap.objs.size (.tup [x, y]) :=
      ⟨by show 2 ≤ sizeLine; decide, [u, u2], .cons ru (.cons ru2 .nil), ⟨_, hT2, rfl, _, rfl⟩⟩
    have nin : ∀ {c}, c ∉ [z, TI, TO, i1, i2] → c ≠ z ∧ c ≠ TO ∧ c ≠ i1 ∧ c ≠ i2 := fun {c} h => by
      simp only [List.mem_cons, List.not_mem_nil, or_false, not_or] at h
      exact ⟨h.1, h.2.2.1, h.2.2.2.1, h.2.2.2.2⟩
    have I1 : Inv X pins σ (upd H s.heap.objs.size (.tup [x, y])) { s with heap := h'' } :=
      I.turnedNew (t' := s.toks) (ch := [z, TI, TO, i1, i2]) (fun c o hb q => (sb.2 c (nin hb).1).trans (hk c o (nin hb).1 (nin hb).2.1 (nin hb).2.2.1 (nin hb).2.2.2 q)) hf (Nat.le_refl _) new
    refine ⟨.ref s.heap.objs.size, _, I1, rfl, ⟨_, x, y, rfl, I.hok.fresh (Nat.le_refl _), rfl, fun l hl => by rw [hl.inj I hqx]; exact hx, fun l hl => by rw [hl.inj I hqy]; exact hy⟩, ⟨z'', ?_, ⟨u, u2, ?_⟩, ?_, ?_⟩, fun c hcm => ?_⟩
    · exact (sb.2 _ D.TIz).trans (hk _ _ D.TIz D.TITO D.TIi1 D.TIi2 hTI)
    · exact (sb.2 _ D.TOz).trans TO'
    · exact h1'.keep fun o q => (sb.2 _ D.i1z).trans q
    · exact h2'.keep fun o q => (sb.2 _ D.i2z).trans q
    · rw [upd_ne (Nat.ne_of_lt (old c hcm))]
      exact (hf c hcm).1
  done := by
    intro X hP hw hK hc i pins s σ H E I hf st hg
    subst hP hw hK
    obtain ⟨hz, hTI, ⟨x0, y0, hTO⟩, h1, h2⟩ := st
    obtain ⟨xs, ys, hqx, hqy, hend⟩ := hg
    obtain ⟨its, rv, p⟩ := hqx.at I
    obtain ⟨its2, rv2, p2⟩ := hqy.at I
    have l1 := rv.length
    have l2 := rv2.length
    have he : its.toArray[i]? = none ∨ its2.toArray[i]? = none := by
      rcases hend with q | q
      · exact .inl (by simp; omega)
      · exact .inr (by simp; omega)
    refine zx_stop (I.ok.hd hc) D hz hTI hTO h1 h2 p p2 he fun h' hk => ⟨rfl, I.turnedL (t' := s.toks) (ch := [z, TI, TO, i1, i2]) (fun c o hb q => ?_) hf⟩
    simp only [List.mem_cons, List.not_mem_nil, or_false, not_or] at hb
    exact hk c o hb.1 hb.2.2.1 hb.2.2.2.1 hb.2.2.2.2 q
  self := fun A i s Q E st h => wpAny_pyIter_zip st.1 h
end DL


set_option Elab.async false
set_option linter.all false
set_option maxRecDepth 100000
set_option maxHeartbeats 1000000
namespace DL
open PySem PySem.Spec PyProof.Rows L2
def iZipG (K : PySem.W.Frag) (ta : TA) : TI := fun σ H R => ta σ H fun vs H1 => ∃ a b xs ys j k, vs = [.ref a, .ref b] ∧ SqD j K H1 a xs ∧ SqD k K H1 b ys ∧ R (ItG j k K a b) H1
theorem pi_zipG {X : Cx} {e e2 : Expr} {ta : TA} {p pos tpos : Pos} {elts : List Expr} {kk : Nat} (hg : Gl X "zip") (hm : X.mg "zip" = none) (ha : PA X [e, e2] ta)
    (hs : starEach [e, e2] X.env = (false, eval e X.env) :: starEach [e2] X.env := by rfl) (hpl : (backTo pos (starEach [e2] X.env)).any (·.1) = false := by rfl) :
    PI X (.Tuple elts kk tpos) (.Call (.Name "zip" p) [e, e2] [] pos) (iZipG X.K ta) := by
  refine ⟨fun pins s σ H R I h => ?_⟩
  refine Call_ (ld_blt I hg hm PyProof.Rows.boot_zip (PyProof.Rows.callWith_type1 (thn (ha.run pos pins s σ H _ I h) fun us s1 ⟨vs, H1, I1, r1, a, b, xs, ys, j, k, ex, hqx, hqy, q⟩ => ?_) hs hpl))
  subst ex
  cases r1 with
  | cons r rr =>
    cases rr with
    | cons r' rr =>
      cases rr
      cases r
      cases r'
      obtain ⟨its, rv, p1⟩ := hqx.at I1
      obtain ⟨its2, rv2, p2⟩ := hqy.at I1
      refine zx_call p1 p2 fun h' hz hTI hTO h1 h2 hk => wpAny_pyIter_zip hz ?_
      have I2 : Inv X pins σ H1 { s1 with heap := h' } := I1.kept (t' := s1.toks) hk
      refine ⟨s1.heap.objs.size + 4, [s1.heap.objs.size + 4, s1.heap.objs.size + 2, s1.heap.objs.size + 3, s1.heap.objs.size, s1.heap.objs.size + 1], _, _, H1, rfl, I2, zx_turn (PySem.W.ktu_apart s1.heap.objs.size a b (Kd.sq_lt p1) (Kd.sq_lt p2)), ⟨hz, hTI, ⟨_, _, hTO⟩, h1, h2⟩, fun c hcm => ?_, q⟩
      have hle : s1.heap.objs.size ≤ c := by
        simp only [List.mem_cons, List.not_mem_nil, or_false] at hcm
        rcases hcm with z | z | z | z | z
        · rw [z]; exact Nat.le_add_right _ _
        · rw [z]; exact Nat.le_add_right _ _
        · rw [z]; exact Nat.le_add_right _ _
        · rw [z]; exact Nat.le_refl _
        · rw [z]; exact Nat.le_add_right _ _
      exact I1.fpOk hle (I1.hok.fresh hle)
/-! ### at the level of data -/
def zipD (xs ys : List D) : List D := (xs.zip ys).map fun p => .tup [p.1, p.2]
def enumD (i : Nat) : List D → List D
  | [] => []
  | x :: r => .tup [.int (i : Nat), x] :: enumD (i + 1) r
theorem enumD_len : ∀ (xs : List D) (i : Nat), (enumD i xs).length = xs.length
  | [], _ => rfl
  | _ :: r, i => by simp [enumD, enumD_len r]
theorem enumD_get : ∀ (xs : List D) (i j : Nat), (enumD j xs)[i]? = (xs[i]?).map fun x => .tup [.int ((j + i : Nat) : Int), x]
  | [], i, j => by simp [enumD]
  | x :: r, 0, j => by simp [enumD]
  | x :: r, i + 1, j => by
    simp only [enumD, List.getElem?_cons_succ, enumD_get r i (j + 1)]
    congr 1
    funext y
    rw [show j + 1 + i = j + (i + 1) by omega]
/-- what lies at an address, once for all -/
def Sta (K : PySem.W.Frag) (F : Hp) (v : V) (k : Kd) (ds : List D) : Prop := ∃ a xs, v = .ref a ∧ RpL K F xs ds ∧ ∀ H1, Le F H1 → SqD k K H1 a xs
theorem Sta.lst {K : PySem.W.Frag} {F : Hp} {a : Addr} {xs : List V} {ds : List D} (e : F a = some (.lst xs)) (r : RpL K F xs ds) : Sta K F (.ref a) .l ds := ⟨a, xs, rfl, r, fun H1 le => SqL.of (le.at e (fun z => z))⟩
theorem Sta.tup {K : PySem.W.Frag} {F : Hp} {a : Addr} {xs : List V} {ds : List D} (e : F a = some (.tup xs)) (r : RpL K F xs ds) : Sta K F (.ref a) .t ds := ⟨a, xs, rfl, r, fun H1 le => SqT.of (le.at e (fun z => z))⟩
theorem le_fle {F F1 H : Hp} (f : Fle F F1) (l : Le F1 H) : Le F H := fun a o e => l a o (f a o e)
theorem Sta.mono {K : PySem.W.Frag} {F F1 : Hp} {v : V} {k : Kd} {ds : List D} (s : Sta K F v k ds) (f : Fle F F1) : Sta K F1 v k ds := by
  obtain ⟨a, xs, e, r, h⟩ := s
  exact ⟨a, xs, e, r.mono f, fun H1 le => h H1 (le_fle f le)⟩
def seqD : D → Option (Kd × List D)
  | .lst xs => some (.l, xs)
  | .tup xs => some (.t, xs)
  | _ => none
theorem Sta.of {K : PySem.W.Frag} {F : Hp} {v : V} {d : D} {k : Kd} {ds : List D} (r : Rp K F v d) (h : seqD d = some (k, ds)) : Sta K F v k ds := by
  cases r with
  | lst e r => cases h; exact .lst e r
  | tup e r => cases h; exact .tup e r
  | _ => cases h
theorem jw_zip {K : PySem.W.Frag} {F H : Hp} {M : Mp} {a b : Addr} {xs ys : List V} {ds es : List D} {j k : Kd} (r : RpL K F xs ds) (r2 : RpL K F ys es) (h1 : ∀ H1, Le F H1 → SqD j K H1 a xs) (h2 : ∀ H1, Le F H1 → SqD k K H1 b ys) : JW K F M H (ItG j k K a b) (zipD ds es) := fun F1 M1 H1 s => by
  have q1 := h1 H1 (le_fle s.fle s.hm.le)
  have q2 := h2 H1 (le_fle s.fle s.hm.le)
  have hl : (zipD ds es).length = min ds.length es.length := by simp [zipD]
  refine ⟨fun i hi => ?_, xs, ys, q1, q2, by rw [r.length, r2.length]; omega⟩
  obtain ⟨x, hx, rx⟩ := r.at (List.getElem?_eq_getElem (show i < ds.length by omega))
  obtain ⟨y, hy, ry⟩ := r2.at (List.getElem?_eq_getElem (show i < es.length by omega))
  refine ⟨⟨xs, ys, x, y, q1, q2, hx, hy⟩, ?_⟩
  rintro v H2 ⟨T, x', y', rfl, hT, rfl, g1, g2⟩
  have e1 := g1 xs q1
  have e2 := g2 ys q2
  rw [hx] at e1; rw [hy] at e2
  cases e1; cases e2
  have s2 := Step.newF s.hm hT (.tup [x, y])
  refine ⟨_, s2, fun d hd => ?_⟩
  have hd' : d = .tup [ds[i], es[i]] := by
    have e : (zipD ds es)[i]? = some (.tup [ds[i], es[i]]) := by
      simp only [zipD, List.getElem?_map, List.getElem?_zip_eq_some, Option.map_eq_some_iff]
      exact ⟨(ds[i], es[i]), by simp [List.getElem?_zip_eq_some], rfl⟩
    rw [e] at hd; exact (Option.some.inj hd).symm
  subst hd'
  have ff := (s.fle : Fle F F1)
  exact .tup upd_same (.cons ((rx.mono ff).mono s2.fle) (.cons ((ry.mono ff).mono s2.fle) .nil))
theorem jw_enum {K : PySem.W.Frag} {F H : Hp} {M : Mp} {a : Addr} {xs : List V} {ds : List D} (r : RpL K F xs ds) (h1 : ∀ H1, Le F H1 → SqL K H1 a xs) : JW K F M H (Ite K a) (enumD 0 ds) := fun F1 M1 H1 s => by
  have q1 := h1 H1 (le_fle s.fle s.hm.le)
  refine ⟨fun i hi => ?_, xs, q1, by rw [enumD_len, r.length]; exact Nat.le_refl _⟩
  rw [enumD_len] at hi
  obtain ⟨x, hx, rx⟩ := r.at (List.getElem?_eq_getElem hi)
  refine ⟨⟨xs, x, q1, hx⟩, ?_⟩
  rintro v H2 ⟨T, x', rfl, hT, rfl, g1⟩
  have e1 := g1 xs q1
  rw [hx] at e1
  cases e1
  have s2 := Step.newF s.hm hT (.tup [.int (i : Nat), x])
  refine ⟨_, s2, fun d hd => ?_⟩
  rw [enumD_get, List.getElem?_eq_getElem hi] at hd
  have hd' : d = .tup [.int (i : Int), ds[i]] := by
    have := (Option.some.inj hd).symm
    simpa using this
  subst hd'
  exact .tup upd_same (.cons (.int _) (.cons ((rx.mono s.fle).mono s2.fle) .nil))
def dZip (ta tb : TDE) : TDA := fun ρ M Q => ta ρ M fun x M1 => tb ρ M1 fun y M2 => ∃ j k xs ys, seqD x = some (j, xs) ∧ seqD y = some (k, ys) ∧ Q (zipD xs ys) M2
def dEnum (ta : TDE) : TDA := fun ρ M Q => ta ρ M fun x M1 => ∃ xs, x = .lst xs ∧ Q (enumD 0 xs) M1
section
variable {X : Cx} {E0 : L2.St → XK} {Ee : DEnv → DXK} {a b : Expr} {ta tb : TDE} {elts : List Expr} {kk : Nat} {p pos tpos : Pos}
theorem di_zip (hg : Gl X "zip") (hm : X.mg "zip" = none) (ha : DE X E0 Ee a ta) (hb : DE X E0 Ee b tb) (hs0 : starEach [a, b] X.env = (false, eval a X.env) :: starEach [b] X.env := by rfl) (hs1 : starEach [b] X.env = (false, eval b X.env) :: starEach [] X.env := by rfl) (hpl : (backTo pos (starEach [b] X.env)).any (·.1) = false := by rfl) :
    DI X E0 Ee (.Tuple elts kk tpos) (.Call (.Name "zip" p) [a, b] [] pos) (dZip ta tb) :=
  PIimp (pi_zipG hg hm (pa_cons ha (pa_cons hb pa_nil hs1) hs0) hs0 hpl) fun σ H R ⟨F, M, ρ, Q, ss, q, k⟩ => ⟨F, M, ρ, _, ss, q, fun v H1 F1 d M1 s1 r q1 => ⟨F1, M1, ρ, _, ss.step s1, q1, fun v2 H2 F2 d2 M2 s2 r2 ⟨j, kd, xs, ys, e1, e2, q2⟩ => by
    obtain ⟨a, us, rfl, ra, h1⟩ := (Sta.of r e1).mono s2.fle
    obtain ⟨b, vs, rfl, rb, h2⟩ := Sta.of r2 e2
    exact ⟨a, b, us, vs, j, kd, rfl, h1 _ s2.hm.le, h2 _ s2.hm.le, k _ _ _ _ _ (s1.trans s2) (jw_zip ra rb h1 h2) q2⟩⟩⟩
theorem di_enum (hg : Gl X "enumerate") (hm : X.mg "enumerate" = none) (ha : DE X E0 Ee a ta) (hs1 : starEach [a] X.env = (false, eval a X.env) :: starEach [] X.env := by rfl) (hs : starEach [a] X.env = [(false, eval a X.env)] := by rfl) :
    DI X E0 Ee (.Tuple elts kk tpos) (.Call (.Name "enumerate" p) [a] [] pos) (dEnum ta) :=
  PIimp (pi_enum hg hm (pa_cons ha pa_nil hs1) hs) fun σ H R ⟨F, M, ρ, Q, ss, q, k⟩ => ⟨F, M, ρ, _, ss, q, fun v H1 F1 d M1 s1 r ⟨xs, e, q1⟩ => by
    subst e
    obtain ⟨a, us, rfl, ra, h1⟩ := Sta.of r (k := .l) rfl
    exact ⟨a, us, rfl, h1 _ s1.hm.le, k _ _ _ _ _ s1 (jw_enum ra h1) q1⟩⟩
end
end DL


set_option Elab.async false
set_option linter.all false
set_option maxRecDepth 100000
set_option maxHeartbeats 1000000
namespace DL
open PySem PySem.Spec PyProof.Rows L2
/-! ### dict comprehensions with keys of either kind -/
theorem tok_inv {X : Cx} {pins : List (Addr × Obj)} {σ : L2.St} {H : Hp} {s : Shared} {h' : Heap} {n : Nat} (I : Inv X pins σ H { s with heap := h' }) : Inv X pins σ H { s with heap := h', toks := n } := I.tok _
theorem put_dictSet {X : Cx} {pins : List (Addr × Obj)} {σ : L2.St} {H H' : Hp} {s : Shared} {A : Around} {E : Value → Shared → Prop} {a : Addr} {y v : V} {u r : Value} {Q : Unit → Shared → Prop} (hu : A.units + 1 < cLine) (I : Inv X pins σ H s) (g : DPut H a y v H') (ry : RelV y u) (rv : RelV v r) (h : ∀ s', Inv X pins σ H' s' → Q () s') :
    wpAny (model X.prog X.w) A (dictSet a u r) Q E s := by
  rcases g with ⟨kvs, k, e, ey, l, eH⟩ | ⟨kvs, k, b, e, ey, eb, l, eH⟩
  · subst ey eH
    obtain ⟨z, hd, vs, rel, dd⟩ := dk_of I.hok e
    have hz : vs.length ≤ sizeLine := by rw [← rel.length]; exact z
    have hl : (putK kvs k v).length ≤ sizeLine := by have := length_putK kvs k v; omega
    refine wpAny_dictSet_pairs (hsz := hz) (kV_is ry) dd fun h' dd' hs => h _ ?_
    have he : ∃ q, h'.get? a = some q := let ⟨q, _, _, hq, _⟩ := dd'; ⟨q, hq⟩
    exact d_write I (by rw [e]; exact True.intro) hs he (dk_new hl hd (rel.put k rv) dd')
  · subst ey eH
    cases (show u = Value.ref b from ry)
    obtain ⟨z, hd, xs, rel, dd⟩ := dt_of I.hok e
    have hz : xs.length ≤ sizeLine := by rw [← Paired.length rel]; exact z
    have hl : (putK kvs k v).length ≤ sizeLine := by have := length_putK kvs k v; omega
    refine wpAny_dictSet_heap (hsz := hz) (show (tupleKind (mixKind X.prog X.w)).room A from by first | exact hu | exact Nat.lt_of_succ_lt hu) (key_of I.hok eb) dd fun h' dd' hs => h _ ?_
    obtain ⟨q, es, ep, hq, h2, h3, h4, _, h5⟩ := dd'
    refine d_write I (by rw [e]; exact True.intro) hs ⟨q, hq⟩ ⟨hl, hd, _, (rel.put k eb rv).keeps fun c ys ec => ?_, q, es, ep, hq, h2, h3, h4, h5⟩
    rw [upd_ne (ne_of ec e (fun z => nomatch z))]
    exact ec
def dc0 : Bool → HO
  | true => .dT []
  | false => .dK []
def tDcP (kd : Bool) (wi : TI) (g : TG) (tt : TT) (tk tv : TE) (vs : List Nat) : TE := fun σ H Q => wi σ H fun J H1 => ∀ D, H1 D = none → ∃ W : Nat → Nat → Hp → Prop, (∃ m, W 0 m (upd H1 D (dc0 kd))) ∧ ∀ i m H, W i m H →
  (J.stop i H ∧ Q (.ref D) H) ∨ (J.go i H ∧ ∃ Nx : Hp → Prop, (∀ H', Nx H' → ∃ m', m' < m ∧ W (i + 1) m' H') ∧ ∀ x H', J.yld i H x H' → g x (wipe σ vs) H' fun σ2 H2 => wipe σ2 vs = wipe σ vs ∧ tt σ2 H2 fun b H3 =>
    if b = true then tk σ2 H3 fun y H4 => tv σ2 H4 fun z H5 => ∃ H6, DPut H5 D y z H6 ∧ Nx H6 else Nx H3)
section
variable {X : Cx}
/-- (the way of HandS.DictComp's rule for text keys, turned to keys of either kind) -/
theorem dcP_core {kd : Bool} {pins : List (Addr × Obj)} {s : Shared} {σ : L2.St} {H : Hp} {Q : VK} {kx vx tg iter : Expr} {ifs : List Expr} {scope : Scope} {own : List (Str × Nat)} {pos pos' : Pos} {wi : TI} {g : TG} {tt : TT} {tk tv : TE} {use : Option (Value → Sem Unit)} {Qf : Value → Shared → Prop}
    (hu : X.A.units + 1 < cLine) (hc : X.calm = true) (hN : X.N.Nodup) (I : Inv X pins σ H s) (hi : PI X tg iter wi) (ok : BlkOk X.N X.env.scope scope own)
    (hg : ∀ (s : Shared) (H : Hp) (C : Addr) (cl : List (Str × Addr)) (fp : List Addr), PG (X.blk s H scope (compEnvC scope cl C X.env) fp) tg g) (ht : ∀ (s : Shared) (H : Hp) (C : Addr) (cl : List (Str × Addr)) (fp : List Addr), PTs (X.blk s H scope (compEnvC scope cl C X.env) fp) ifs tt)
    (hk : ∀ (s : Shared) (H : Hp) (C : Addr) (cl : List (Str × Addr)) (fp : List Addr), PE (X.blk s H scope (compEnvC scope cl C X.env) fp) kx tk)
    (he : ∀ (s : Shared) (H : Hp) (C : Addr) (cl : List (Str × Addr)) (fp : List Addr), PE (X.blk s H scope (compEnvC scope cl C X.env) fp) vx tv) (hs : ∀ x, foldedSetIterable iter X.env x = pure x)
    (h : tDcP kd wi g tt tk tv (own.map (·.2)) σ H Q)
    (hRR : ∀ D C s' m H', Inv X pins σ H' s' → Q (.ref D) H' → s'.heap.Ns C m → FpOk X pins H' C → compPost (model X.prog X.w) X.A X.xe use Qf (.ref D) C (.ok .next) s') :
    wpAny (model X.prog X.w) X.A (comprehension (.DictComp kx vx [⟨tg, iter, ifs, 0⟩] scope pos) scope X.env pos' newDict false (eval iter X.env) use) Qf X.xe s := by
  have hfree : ∀ y ∈ scope.names, y.2 = .free → ∃ c, X.env.cells.lookup y.1 = some c := fun y hy e => by
    rcases ok.free y hy e with k | k
    · exact I.ok.has _ (.inl k)
    · exact I.ok.has _ (.inr k)
  refine wpAny_comprehension_free rfl hs (closure_ok hfree) ok.kind (fun y hy e => by rw [ok.uniq y hy, e])
    (thn (hi.run pins s σ H _ I h) fun xv s1 hx => thn hx fun itv s2 h2 => ?_)
  obtain ⟨it, fp, tn, J, H2, e, I2, T, st2, f2, q⟩ := h2
  subst e
  refine wpAny_newObj_type (newEnv_comp ?_)
  generalize hD : s2.heap.objs.size = D
  obtain ⟨W, ⟨m0, w0⟩, turn⟩ := q D (I2.hok.fresh (Nat.le_of_eq hD))
  generalize hs3 : ({ s2 with heap := s2.heap.push { cls := .type "dict", data := .dict #[] } } : Shared) = s3
  have h3 : s3.heap = s2.heap.push { cls := .type "dict", data := .dict #[] } := by rw [← hs3]
  have I3 : Inv X pins σ (upd H2 D (dc0 kd)) s3 := by
    rw [← hs3]
    refine I2.laid (t' := s2.toks) (fun b o e => Heap.get?_push_of_some _ e) (Nat.le_of_eq hD) ?_
    rw [← hD]
    cases kd with
    | true => exact dt_empty s2.heap I2.big
    | false => exact dk_empty s2.heap I2.big
  have sz : ∀ b ∈ fp, b < s2.heap.objs.size := fun b hb => by
    obtain ⟨o, e, _⟩ := T.obj _ _ st2 b hb
    exact Heap.lt_size e
  have f3 : ∀ b ∈ fp, FpOk X pins (upd H2 D (dc0 kd)) b ∧ b < s3.heap.objs.size := fun b hb => by
    have hlt := sz b hb
    refine ⟨⟨?_, (f2 b hb).2⟩, by rw [h3, Heap.size_push]; exact Nat.lt_succ_of_lt hlt⟩
    rw [upd_ne (by rw [← hD]; exact Nat.ne_of_lt hlt)]
    exact (f2 b hb).1
  have st3 : tn 0 s3.heap := T.keep _ _ _ st2 fun b _ o e => by rw [h3]; exact Heap.get?_push_of_some _ e
  have I4 := block_start I3 ok hN f3
  have pg := hg s3 (upd H2 D (dc0 kd)) s3.heap.objs.size (cellsFrom (s3.heap.objs.size + 1) scope.names (cloFrom X.env.cells scope.names [])) fp
  have pt := ht s3 (upd H2 D (dc0 kd)) s3.heap.objs.size (cellsFrom (s3.heap.objs.size + 1) scope.names (cloFrom X.env.cells scope.names [])) fp
  have pk := hk s3 (upd H2 D (dc0 kd)) s3.heap.objs.size (cellsFrom (s3.heap.objs.size + 1) scope.names (cloFrom X.env.cells scope.names [])) fp
  have pe := he s3 (upd H2 D (dc0 kd)) s3.heap.objs.size (cellsFrom (s3.heap.objs.size + 1) scope.names (cloFrom X.env.cells scope.names [])) fp
  show codeAny _ _ (.compStart (.DictComp kx vx [⟨tg, iter, ifs, 0⟩] scope pos) 0 (.ref it) (.ref D) (compEnvC scope (cellsFrom (s3.heap.objs.size + 1) scope.names (cloFrom X.env.cells scope.names [])) s3.heap.objs.size X.env)) (compPost (model X.prog X.w) X.A X.xe use Qf (.ref D) s3.heap.objs.size) { s3 with heap := pushCells (s3.heap.push { cls := .type "dict", data := .dict #[] }) scope.names }
  have nfp : ∀ b ∈ fp, (upd H2 D (dc0 kd)) b = none := fun b hb => (f3 b hb).1.1
  generalize hce : compEnvC scope (cellsFrom (s3.heap.objs.size + 1) scope.names (cloFrom X.env.cells scope.names [])) s3.heap.objs.size X.env = ce at I4 pg pt pk pe ⊢
  have cL : ce.locals = s3.heap.objs.size := by subst hce; rfl
  generalize hH3 : upd H2 D (dc0 kd) = H3 at I3 I4 pg pt pk pe w0 nfp f3
  generalize hs4 : ({ s3 with heap := pushCells (s3.heap.push { cls := .type "dict", data := .dict #[] }) scope.names } : Shared) = s4 at I4 ⊢
  have st4 : tn 0 s4.heap := T.keep _ _ _ st3 fun b _ o e => by rw [← hs4]; exact pushCells_keeps _ _ _ _ (Heap.get?_push_of_some _ e)
  have stat : ∀ {σ' : L2.St} {H' : Hp} {s' : Shared}, Inv (X.blk s3 H3 scope ce fp) [] σ' H' s' → (∀ b ∈ fp, H' b = none) → ∀ b ∈ fp, FpOk (X.blk s3 H3 scope ce fp) [] H' b := fun {σ' H' s'} I' hn b hb =>
    ⟨hn b hb, (I'.ok.exf b hb).1, I'.ok.exfs b hb, .inl hb, fun x c e => (I'.ok.exf b hb).2 x c e, fun p hp => absurd (show p ∈ ([] : List (Addr × Obj)) ++ [] from hp) (by simp)⟩
  have loop : codeAny (model X.prog X.w) X.A (.compLoop (.DictComp kx vx [⟨tg, iter, ifs, 0⟩] scope pos) 0 (.ref it) (.ref D) ce) (compPost (model X.prog X.w) X.A X.xe use Qf (.ref D) s3.heap.objs.size) s4 := by
    refine compLoop_anyD (fun n s' => ∃ i H', Inv (X.blk s3 H3 scope ce fp) [] (wipe σ (own.map (·.2))) H' s' ∧ tn i s'.heap ∧ (∀ b ∈ fp, H' b = none) ∧ W i n H') ?_ m0 ⟨0, H3, I4, st4, nfp, w0⟩
    rintro n s5 ⟨i, H5, I5, st5, n5, w5⟩
    rcases turn i n H5 w5 with ⟨stop, qq⟩ | ⟨go, Nx, hNx, step⟩
    · refine thnF (T.done (X.blk s3 H3 scope ce fp) rfl rfl rfl hc i [] s5 _ H5 (fun _ _ => False) I5 (stat I5 n5) st5 stop) fun r s6 ⟨hr, I6⟩ => ?_
      subst hr
      have I7 : Inv X pins σ H5 s6 := I3.call' (ch := fp) I6.os I6.base I6.hok I6.bare fun b hb => ⟨(f3 b hb).1.2.2.2.1, (f3 b hb).1.2.1, (f3 b hb).1.2.2.2.2.1, (f3 b hb).1.2.2.2.2.2⟩
      have nC : H5 s3.heap.objs.size = none := by
        have z : H5 ce.locals = none := I6.free
        rw [cL] at z
        exact z
      obtain ⟨m, hn, _⟩ := I6.loc
      have hn : s6.heap.Ns ce.locals m := hn
      rw [cL] at hn
      exact hRR D s3.heap.objs.size s6 m H5 I7 qq hn (I3.fpOk (Nat.le_refl _) nC)
    · refine thnF (T.item (X.blk s3 H3 scope ce fp) rfl rfl rfl hc i [] s5 _ H5 (fun _ _ => False) I5 (stat I5 n5) st5 go) fun r s6 ⟨u, hr, h6⟩ => ?_
      subst hr
      refine thnF h6 fun _ s7 ⟨x, H7, I7, r7, y7, st7, n7⟩ => ?_
      have I7' := I7.pinned (stat I7 n7) (T.obj _ _ st7)
      refine thnF (pg.run _ s7 _ H7 x u _ I7' r7 (step x H7 y7)) fun _ s8 ⟨σ8, H8, I8, hw8, q8⟩ => ?_
      refine thnF (pt.run _ s8 σ8 H8 _ I8 q8) fun b s9 ⟨H9, I9, q9⟩ => ?_
      have fin : ∀ {s' : Shared} {H' : Hp}, Inv (X.blk s3 H3 scope ce fp) ([] ++ pinsAt fp s7.heap) σ8 H' s' → Nx H' → ∃ m, m < n ∧ ∃ i H', Inv (X.blk s3 H3 scope ce fp) [] (wipe σ (own.map (·.2))) H' s' ∧ tn i s'.heap ∧ (∀ b ∈ fp, H' b = none) ∧ W i m H' := fun {s' H'} I' nx => by
        obtain ⟨m', hm, w'⟩ := hNx H' nx
        have pin' : ∀ b ∈ fp, ∀ o, s7.heap.get? b = some o → s'.heap.get? b = some o ∧ H' b = none := fun b hb o e =>
          let z := I'.pin (b, o) (List.mem_append_right _ (List.mem_append_right _ (mem_pinsAt hb e)))
          ⟨z.1, z.2.1⟩
        have hl : (wipe σ (own.map (·.2))).length = σ8.length := by rw [← hw8, wipe_length]
        refine ⟨m', hm, i + 1, H', (I'.unpinned (pins := [])).weak hl (fun j v e => ?_), T.keep _ _ _ st7 fun b hb o e => (pin' b hb o e).1, fun b hb => ?_, w'⟩
        · rw [← hw8] at e
          exact (wipe_some e).1
        · obtain ⟨o, e, _⟩ := T.obj _ _ st7 b hb
          exact (pin' b hb o e).2
      cases b with
      | false =>
        simp only [Bool.false_eq_true, if_false] at q9 ⊢
        exact fin I9 q9
      | true =>
        simp only [if_true] at q9 ⊢
        refine thnF (pk.run _ s9 σ8 H9 _ I9 q9) fun z s10 ⟨yk, H10, I10, r10, q10⟩ => ?_
        refine thnF (pe.run _ s10 σ8 H10 _ I10 q10) fun z2 s11 ⟨yv, H11, I11, r11, H12, pt12, nx⟩ => ?_
        exact put_dictSet (X := X.blk s3 H3 scope ce fp) hu I11 pt12 r10 r11 fun s12 I12 => fin I12 nx
  exact codeAny_compStart_dict loop (T.self X.A 0 _ _ _ st4 loop)
theorem pe_dcP {kd : Bool} {kx vx tg iter : Expr} {ifs : List Expr} {scope : Scope} {own : List (Str × Nat)} {pos : Pos} {wi : TI} {g : TG} {tt : TT} {tk tv : TE} (hu : X.A.units + 1 < cLine) (hc : X.calm = true) (hN : X.N.Nodup) (hi : PI X tg iter wi) (ok : BlkOk X.N X.env.scope scope own)
    (hg : ∀ (s : Shared) (H : Hp) (C : Addr) (cl : List (Str × Addr)) (fp : List Addr), PG (X.blk s H scope (compEnvC scope cl C X.env) fp) tg g) (ht : ∀ (s : Shared) (H : Hp) (C : Addr) (cl : List (Str × Addr)) (fp : List Addr), PTs (X.blk s H scope (compEnvC scope cl C X.env) fp) ifs tt)
    (hk : ∀ (s : Shared) (H : Hp) (C : Addr) (cl : List (Str × Addr)) (fp : List Addr), PE (X.blk s H scope (compEnvC scope cl C X.env) fp) kx tk)
    (he : ∀ (s : Shared) (H : Hp) (C : Addr) (cl : List (Str × Addr)) (fp : List Addr), PE (X.blk s H scope (compEnvC scope cl C X.env) fp) vx tv) (hs : ∀ x, foldedSetIterable iter X.env x = pure x := by intro _; rfl) :
    PE X (.DictComp kx vx [⟨tg, iter, ifs, 0⟩] scope pos) (tDcP kd wi g tt tk tv (own.map (·.2))) := by
  refine ⟨fun pins s σ H Q I h => ?_⟩
  rw [arm_eval_DictComp]
  refine dcP_core hu hc hN I hi ok hg ht hk he hs h fun D C s' m H' I' q hn f => ⟨m, hn, fun h'' sb => ?_⟩
  obtain ⟨f0, f1, f2, f3, f4, f5⟩ := f
  exact ⟨.ref D, H', I'.turned (t' := s'.toks) (fun b o hb e => (sb.2 b hb).trans e) f0 f1 f3 f4 f5, rfl, q⟩
/-- name = {..} on one line, the name a local -/
theorem ps_setDcP {kd : Bool} {i : Nat} {y : Str} {py spos : Pos} {kx vx tg iter : Expr} {ifs : List Expr} {scope : Scope} {own : List (Str × Nat)} {pos : Pos} {wi : TI} {g : TG} {tt : TT} {tk tv : TE} (hu : X.A.units + 1 < cLine) (hc : X.calm = true) (hN : X.N.Nodup) (hy : X.N[i]? = some y) (hyl : X.env.scope.names.lookup y = some .local)
    (hsw : swapsWith (.DictComp kx vx [⟨tg, iter, ifs, 0⟩] scope pos) (some (.Name y py)) spos.line X.env = pure true) (hi : PI X tg iter wi) (ok : BlkOk X.N X.env.scope scope own)
    (hg : ∀ (s : Shared) (H : Hp) (C : Addr) (cl : List (Str × Addr)) (fp : List Addr), PG (X.blk s H scope (compEnvC scope cl C X.env) fp) tg g) (ht : ∀ (s : Shared) (H : Hp) (C : Addr) (cl : List (Str × Addr)) (fp : List Addr), PTs (X.blk s H scope (compEnvC scope cl C X.env) fp) ifs tt)
    (hk : ∀ (s : Shared) (H : Hp) (C : Addr) (cl : List (Str × Addr)) (fp : List Addr), PE (X.blk s H scope (compEnvC scope cl C X.env) fp) kx tk)
    (he : ∀ (s : Shared) (H : Hp) (C : Addr) (cl : List (Str × Addr)) (fp : List Addr), PE (X.blk s H scope (compEnvC scope cl C X.env) fp) vx tv) (hs : ∀ x, foldedSetIterable iter X.env x = pure x := by intro _; rfl) :
    PS X (.Assign [.Name y py] (.DictComp kx vx [⟨tg, iter, ifs, 0⟩] scope pos) spos) (tAsg (tDcP kd wi g tt tk tv (own.map (·.2))) (gName i)) := by
  refine ⟨fun pins s σ H D I h => ?_⟩
  rw [exec_Assign_Name_used _ _ _ _ hsw]
  refine wpAny_bind (wpAny_standAt (wpAny_bind ?_))
  show wpAny _ X.A (do let _ ← comprehension (.DictComp kx vx [⟨tg, iter, ifs, 0⟩] scope pos) scope X.env (firstIterPos [⟨tg, iter, ifs, 0⟩] pos) newDict false (eval iter X.env) (some (assign (.Name y py) X.env))) _ _ s
  have h : tDcP kd wi g tt tk tv (own.map (·.2)) σ H (fun x H1 => gName i x σ H1 D.nx) := h
  refine wpAny_bind (thn (dcP_core (Qf := fun _ s' => SP X pins D .next s') hu hc hN I hi ok hg ht hk he hs h fun L C s' m H' I' q hn f => ?_) fun _ s' hq => wpAny_pure (wpAny_pure hq))
  show wpAny _ _ (assign (.Name y py) X.env (.ref L)) _ _ _
  refine wpAny_assign_Name (store_ok2 (v := V.ref L) I' hN hy (.inl hyl) rfl (fun s2 I2 ⟨a, sb, ha⟩ => ?_) (.inr hyl))
  obtain ⟨f0, f1, f2, f3, f4, f5⟩ := f
  have haC : C ≠ a := by
    rcases ha with z | z
    · rw [z]; exact f1
    · exact fun e => f4 y a z e.symm
  refine ⟨m, hn.sameBut sb haC, fun h3 sb3 => ?_⟩
  exact ⟨_, H', I2.turned (t' := s2.toks) (fun b o hb e => (sb3.2 b hb).trans e) f0 f1 f3 f4 f5, q⟩
theorem sw_trueD {kx vx : Expr} {gs : List Comprehension} {scope : Scope} {pos py : Pos} {y : Str} {l : Nat} {env : Env} (hk : env.scope.kind = .function) (hy : env.scope.names.lookup y = some .local) (hl : (py.line == pos.line) = true)
    (ha : (scope.names.any fun (n, k) => n == y && (k == .local || k == .cell)) = false) : swapsWith (.DictComp kx vx gs scope pos) (some (.Name y py)) l env = pure true := by
  have ky : env.kindOf y = some .local := hy
  have hb : env.blockKind = .function := by unfold Env.blockKind; rw [hk]; rfl
  unfold swapsWith
  simp only [hb, ky, ha, Expr.pos, hl]
  rfl
end
end DL


set_option Elab.async false
set_option linter.all false
set_option maxRecDepth 100000
set_option maxHeartbeats 1000000
namespace DL
open PySem PySem.Spec PyProof.Rows L2
/-! ### dict comprehensions at the level of data -/
def ntup : HO → Prop
  | .tup _ => False
  | _ => True
theorem Step.hidO {K : PySem.W.Frag} {F F1 : Hp} {M M1 : Mp} {H H1 : Hp} (h : Step K F M H F1 M1 H1) {p : Addr} {o : HO} (e : H p = some o) (no : ntup o) (nF : F p = none) (nM : M p = none) : H1 p = some o ∧ F1 p = none ∧ M1 p = none := by
  refine ⟨h.frm p _ e nM, ?_, ?_⟩
  · cases q : F1 p with
    | none => rfl
    | some u =>
      rcases h.fnew p u q with z | z | z | ⟨ys, z⟩
      · rw [nF] at z; cases z
      · rw [e] at z; cases z
      · exact absurd nM z
      · rw [e] at z; cases z; exact no.elim
  · cases q : M1 p with
    | none => rfl
    | some u =>
      rcases h.dom p u q with z | z
      · exact absurd nM z
      · rw [e] at z; cases z
/-- a kind of keys -/
structure KKd (K : PySem.W.Frag) (κ : Type) [DecidableEq κ] where
  kd : Bool
  tree : List (κ × D) → D
  key : D → Option κ
  rel : Hp → HO → List (κ × D) → Prop
  nt : ∀ {F o acc}, rel F o acc → ntup o
  zero : ∀ F, rel F (dc0 kd) []
  mono : ∀ {F F' o acc}, Fle F F' → rel F o acc → rel F' o acc
  put : ∀ {F H : Hp} {y z : V} {dy dz : D} {acc : List (κ × D)} {o : HO} {a : Addr} {k : κ}, Le F H → H a = some o → rel F o acc → Rp K F y dy → key dy = some k → Rp K F z dz → acc.length < sizeLine → ∃ o', DPut H a y z (upd H a o') ∧ rel F o' (dpu acc k dz)
  fin : ∀ {F F' o acc a}, F' a = some o → Fle F F' → rel F o acc → Rp K F' (.ref a) (tree acc)
def kkK (K : PySem.W.Frag) : KKd K DK where
  kd := false
  tree := .dic
  key := dkey
  rel := fun F o acc => ∃ xs, o = .dK xs ∧ RpK K F xs acc
  nt := fun ⟨_, e, _⟩ => by subst e; trivial
  zero := fun _ => ⟨[], rfl, .nil⟩
  mono := fun f ⟨xs, e, r⟩ => ⟨xs, e, r.mono f⟩
  put := fun {F H y z dy dz acc o a k} le e ⟨xs, eo, r⟩ ry hk rz hl => by
    subst eo
    have := dkey_rp ry hk
    subst this
    exact ⟨_, DPut.k e (by rw [r.len]; exact hl), _, rfl, r.put rz⟩
  fin := fun {F F' o acc a} e f ⟨xs, eo, r⟩ => by subst eo; exact .dic e (r.mono f)
def tkey : D → Option (List DK)
  | .tup ks => dkeys ks
  | _ => none
def kkT (K : PySem.W.Frag) : KKd K (List DK) where
  kd := true
  tree := .dit
  key := tkey
  rel := fun F o acc => ∃ xs, o = .dT xs ∧ RpT K F xs acc
  nt := fun ⟨_, e, _⟩ => by subst e; trivial
  zero := fun _ => ⟨[], rfl, .nil⟩
  mono := fun f ⟨xs, e, r⟩ => ⟨xs, e, r.mono f⟩
  put := fun {F H y z dy dz acc o a k} le e ⟨xs, eo, r⟩ ry hk rz hl => by
    subst eo
    cases ry with
    | tup eb rb =>
      have h := dkeys_rp rb hk
      have hb := le.at eb (fun z => z)
      rw [h] at hb
      exact ⟨_, DPut.t e hb (by rw [r.len]; exact hl), _, rfl, r.put rz⟩
    | _ => cases hk
  fin := fun {F F' o acc a} e f ⟨xs, eo, r⟩ => by subst eo; exact .dit e (r.mono f)
def dDc {κ : Type} [DecidableEq κ] (mk : List (κ × D) → D) (key : D → Option κ) (ti : TDA) (g : TDG) (tt : TDT) (tk tv : TDE) (own : List Nat) : TDE := fun ρ M Q => ti ρ M fun items M1 => ∃ Pv : Nat → List (κ × D) → Mp → Prop, Pv 0 [] M1 ∧
  (∀ i x acc M, items[i]? = some x → Pv i acc M → g x (dwipe ρ own) M fun ρ2 M2 => tt ρ2 M2 fun b M3 => if b = true then tk ρ2 M3 fun y M4 => tv ρ2 M4 fun z M5 => ∃ k, key y = some k ∧ acc.length < sizeLine ∧ Pv (i + 1) (dpu acc k z) M5 else Pv (i + 1) acc M3) ∧
  ∀ acc M, Pv items.length acc M → Q (mk acc) M
section
variable {X : Cx} {E0 : L2.St → XK} {Ee : DEnv → DXK} {kx vx tg iter : Expr} {ifs : List Expr} {scope : Scope} {own : List (Str × Nat)} {ti : TDA} {vs : List Nat} {g : TDG} {tt : TDT} {tk tv : TDE} {pos : Pos}
theorem dcG_low {κ : Type} [DecidableEq κ] (KK : KKd X.K κ) {own : List Nat} {fin : D → Mp → Prop} {σ : L2.St} {H F : Hp} {M : Mp} {ρ : DEnv} {Q0 : VK} (hv : ∀ i ∈ vs, i ∈ own) (ss : SS X.K E0 Ee σ H F M ρ) (q : dDc KK.tree KK.key ti g tt tk tv own ρ M fin) (k : KE X.K F M H fin Q0) :
    tDcP KK.kd (lowI X.K E0 Ee ti) (lowG X.K EN NX vs g) (lowT X.K EN NX tt) (lowE X.K EN NX tk) (lowE X.K EN NX tv) own σ H Q0 := by
  refine ⟨F, M, ρ, _, ss, q, fun J H1 F1 items M1 s1 jw q1 D hD => ?_⟩
  obtain ⟨Pv, h0, hs', hd⟩ := q1
  obtain ⟨nM1, nF1⟩ := s1.hm.none hD
  have s1' : Step X.K F1 M1 H1 F1 M1 (upd H1 D (dc0 KK.kd)) := (Step.refl s1.hm).hset hD nF1 nM1 _
  refine ⟨fun i m H' => m = items.length - i ∧ i ≤ items.length ∧ ∃ F' M' o acc, Step X.K F1 M1 H1 F' M' H' ∧ F' D = none ∧ M' D = none ∧ H' D = some o ∧ KK.rel F' o acc ∧ Pv i acc M', ⟨_, rfl, Nat.zero_le _, F1, M1, _, [], s1', nF1, nM1, upd_same, KK.zero _, h0⟩, ?_⟩
  rintro i m H' ⟨rfl, hi, F', M', o, acc, st, nF, nM, eD, ra, pv⟩
  obtain ⟨jw1, jw2⟩ := jw F' M' H' st
  by_cases hlt : i < items.length
  · obtain ⟨go, yl⟩ := jw1 i hlt
    refine .inr ⟨go, fun H2 => ∃ F2 M2 o acc, Step X.K F1 M1 H1 F2 M2 H2 ∧ F2 D = none ∧ M2 D = none ∧ H2 D = some o ∧ KK.rel F2 o acc ∧ Pv (i + 1) acc M2, fun H2 h2 => ⟨_, by omega, rfl, hlt, h2⟩, fun x H2 y => ?_⟩
    obtain ⟨F2, s2, rx⟩ := yl x H2 y
    have hx : items[i]? = some items[i] := List.getElem?_eq_getElem hlt
    have st2 := st.trans s2
    refine ⟨F2, M', dwipe ρ own, items[i], _, ⟨s2.hm, ((ss.env.mono s1.fle).mono st2.fle).wipe _, xc_no⟩, rx _ hx, hs' i _ acc M' hx pv, fun σ3 H3 F3 ρ3 M3 s3 e3 f3 q3 => ⟨?_, ?_⟩⟩
    · have z := f3 own hv
      rw [z]
      have ww : ∀ (ws : List Nat) (τ : L2.St), (∀ i ∈ ws, i ∈ own) → L2.wipe (L2.wipe τ ws) own = L2.wipe τ own := by
        intro ws
        induction ws with
        | nil => intro τ _; rfl
        | cons w ws ih =>
          intro τ h
          show L2.wipe ((L2.wipe τ ws).set w none) _ = _
          rw [wipe_set _ _ _ (h w (by simp)), ih τ fun i hi => h i (by simp [hi])]
      exact ww _ σ fun i h => h
    · refine ⟨F3, M3, ρ3, _, ⟨s3.hm, e3, xc_no⟩, q3, fun b H4 F4 d M4 s4 r4 q4 => ?_⟩
      have r' : b = d := r4
      subst r'
      have s24 := s2.trans (s3.trans s4)
      obtain ⟨h1, h2, h3⟩ := s24.hidO eD (KK.nt ra) nF nM
      cases b with
      | true =>
        rw [if_pos rfl] at q4
        refine iteT ⟨F4, M4, ρ3, _, ⟨s4.hm, e3.mono s4.fle, xc_no⟩, q4, fun v H5 F5 dv M5 s5 r5 q5 => ⟨F5, M5, ρ3, _, ⟨s5.hm, (e3.mono s4.fle).mono s5.fle, xc_no⟩, q5, fun z H6 F6 dz M6 s6 r6 ⟨k, ek, hl, p6⟩ => ?_⟩⟩
        have s56 := s5.trans s6
        obtain ⟨g1, g2, g3⟩ := s56.hidO h1 (KK.nt ra) h2 h3
        have ra6 := KK.mono (s24.trans s56).fle ra
        obtain ⟨o', pu, ra'⟩ := KK.put s6.hm.le g1 ra6 (r5.mono s6.fle) ek r6 hl
        exact ⟨_, pu, F6, M6, o', _, (st.trans (s24.trans s56)).hset hD g2 g3 _, g2, g3, upd_same, ra', p6⟩
      | false => exact iteF ⟨F4, M4, o, acc, st.trans s24, h2, h3, h1, KK.mono s24.fle ra, by simpa using q4⟩
  · have e : i = items.length := by omega
    subst e
    have s3 := st.hfrz hD nF nM eD
    exact .inl ⟨jw2, k _ _ _ _ _ (s1.trans s3) (KK.fin upd_same (fun a u e => by rw [upd_ne (ne_of_none e nF)]; exact e) ra) (hd acc M' pv)⟩
theorem de_dcG {κ : Type} [DecidableEq κ] (KK : KKd X.K κ) (hu : X.A.units + 1 < cLine) (hc : X.calm = true) (hN : X.N.Nodup) (hi : DI X E0 Ee tg iter ti) (ok : BlkOk X.N X.env.scope scope own)
    (hg : ∀ (s : Shared) (H : Hp) (C : Addr) (cl : List (Str × Addr)) (fp : List Addr), DG (X.blk s H scope (compEnvC scope cl C X.env) fp) EN NX vs tg g) (ht : ∀ (s : Shared) (H : Hp) (C : Addr) (cl : List (Str × Addr)) (fp : List Addr), DTs (X.blk s H scope (compEnvC scope cl C X.env) fp) EN NX ifs tt)
    (hk : ∀ (s : Shared) (H : Hp) (C : Addr) (cl : List (Str × Addr)) (fp : List Addr), DE (X.blk s H scope (compEnvC scope cl C X.env) fp) EN NX kx tk)
    (he : ∀ (s : Shared) (H : Hp) (C : Addr) (cl : List (Str × Addr)) (fp : List Addr), DE (X.blk s H scope (compEnvC scope cl C X.env) fp) EN NX vx tv) (hv : ∀ i ∈ vs, i ∈ own.map (·.2)) (hs : ∀ x, foldedSetIterable iter X.env x = pure x := by intro _; rfl) :
    DE X E0 Ee (.DictComp kx vx [⟨tg, iter, ifs, 0⟩] scope pos) (dDc KK.tree KK.key ti g tt tk tv (own.map (·.2))) :=
  PEimp (pe_dcP (kd := KK.kd) (g := lowG X.K EN NX vs g) (tt := lowT X.K EN NX tt) (tk := lowE X.K EN NX tk) (tv := lowE X.K EN NX tv) hu hc hN hi ok hg ht hk he hs) fun σ H Q0 ⟨F, M, ρ, Q, ss, q, k⟩ => dcG_low KK hv ss q k
theorem ds_setDcG {κ : Type} [DecidableEq κ] (KK : KKd X.K κ) {i : Nat} {y : Str} {py spos : Pos} (hu : X.A.units + 1 < cLine) (hc : X.calm = true) (hN : X.N.Nodup) (hy : X.N[i]? = some y) (hyl : X.env.scope.names.lookup y = some .local) (hsw : swapsWith (.DictComp kx vx [⟨tg, iter, ifs, 0⟩] scope pos) (some (.Name y py)) spos.line X.env = pure true) (hi : DI X E0 Ee tg iter ti) (ok : BlkOk X.N X.env.scope scope own)
    (hg : ∀ (s : Shared) (H : Hp) (C : Addr) (cl : List (Str × Addr)) (fp : List Addr), DG (X.blk s H scope (compEnvC scope cl C X.env) fp) EN NX vs tg g) (ht : ∀ (s : Shared) (H : Hp) (C : Addr) (cl : List (Str × Addr)) (fp : List Addr), DTs (X.blk s H scope (compEnvC scope cl C X.env) fp) EN NX ifs tt)
    (hk : ∀ (s : Shared) (H : Hp) (C : Addr) (cl : List (Str × Addr)) (fp : List Addr), DE (X.blk s H scope (compEnvC scope cl C X.env) fp) EN NX kx tk)
    (he : ∀ (s : Shared) (H : Hp) (C : Addr) (cl : List (Str × Addr)) (fp : List Addr), DE (X.blk s H scope (compEnvC scope cl C X.env) fp) EN NX vx tv) (hv : ∀ i ∈ vs, i ∈ own.map (·.2)) (hs : ∀ x, foldedSetIterable iter X.env x = pure x := by intro _; rfl) :
    DS X E0 Ee (.Assign [.Name y py] (.DictComp kx vx [⟨tg, iter, ifs, 0⟩] scope pos) spos) (dSet i (dDc KK.tree KK.key ti g tt tk tv (own.map (·.2)))) :=
  PSimp (ps_setDcP (kd := KK.kd) (g := lowG X.K EN NX vs g) (tt := lowT X.K EN NX tt) (tk := lowE X.K EN NX tk) (tv := lowE X.K EN NX tv) hu hc hN hy hyl hsw hi ok hg ht hk he hs) fun D0 σ H ⟨F, M, ρ, D, ss, q, k⟩ =>
    dcG_low (Q0 := fun x H1 => gName i x σ H1 D0.nx) KK hv ss q fun v H1 F1 d M1 s1 r q1 => k.nx _ _ _ _ _ s1 ((ss.env.mono s1.fle).set i r) q1
end
end DL


set_option Elab.async false
set_option linter.all false
set_option maxRecDepth 100000
set_option maxHeartbeats 1000000
namespace DL
open PySem PySem.Spec PyProof.Rows L2
/-! ### a < b < c -/
def dChain (f f' : TOp) (ta tb tc : TDE) : TDE := fun ρ M Q => ta ρ M fun x M1 => tb ρ M1 fun y M2 => f (vw M2 x) (vw M2 y) M2 fun z M3 => match z with
  | .bl b => if b = true then (tc ρ M3 fun u M4 => f' (vw M4 y) (vw M4 u) M4 Q) else Q (.bl false) M3
  | _ => False
section
variable {X : Cx} {E0 : L2.St → XK} {Ee : DEnv → DXK} {a b c : Expr} {ta tb tc : TDE} {r r' : R2} {f f' : TOp} {op op' : CmpOp} {pos : Pos}
theorem low_chain {K : PySem.W.Frag} (hd : OpD K r f) (hd' : OpD K r' f') {σ : L2.St} {H : Hp} {Q0 : VK} (h : lowE K E0 Ee (dChain f f' ta tb tc) σ H Q0) : tChain r r' (lowE K E0 Ee ta) (lowE K E0 Ee tb) (lowE K E0 Ee tc) σ H Q0 := by
  obtain ⟨F, M, ρ, Q, ss, q, k⟩ := h
  refine ⟨F, M, ρ, _, ss, q, fun x H1 F1 dx M1 s1 rx q1 => ⟨F1, M1, ρ, _, ss.step s1, q1, fun y H2 F2 dy M2 s2 ry q2 => ?_⟩⟩
  have s12 := s1.trans s2
  refine hd x y _ _ F2 M2 H2 _ _ s2.hm (Ct.vw s2.hm (rx.mono s2.fle)) (Ct.vw s2.hm ry) q2 fun z H3 F3 dz M3 s3 rz q3 => ?_
  have s13 := s12.trans s3
  cases rz with
  | bl v =>
    refine ⟨v, rfl, ?_⟩
    cases v with
    | true =>
      rw [if_pos rfl]
      have q3 := (show (if true = true then _ else _) from q3)
      rw [if_pos rfl] at q3
      refine ⟨F3, M3, ρ, _, ss.step s13, q3, fun u H4 F4 du M4 s4 ru q4 => ?_⟩
      exact hd' y u _ _ F4 M4 H4 _ _ s4.hm (Ct.vw s4.hm (ry.mono (s3.trans s4).fle)) (Ct.vw s4.hm ru) q4 (k.step (s13.trans s4))
    | false =>
      rw [if_neg (by simp)]
      have q3 := (show (if false = true then _ else _) from q3)
      rw [if_neg (by simp)] at q3
      exact k _ _ _ _ _ s13 (.bl false) q3
  | _ => exact False.elim q3
theorem de_chain (ho : OpR X (compareOp op) r) (hd : OpD X.K r f) (ho' : OpR X (compareOp op') r') (hd' : OpD X.K r' f') (ha : DE X E0 Ee a ta) (hb : DE X E0 Ee b tb) (hc : DE X E0 Ee c tc) (hm : lastMarks [op, op'] [b, c] = false := by with_unfolding_all rfl) :
    DE X E0 Ee (.Compare a [op, op'] [b, c] pos) (dChain f f' ta tb tc) := PEimp (pe_chain ho ho' ha hb hc hm) fun σ H Q0 h => low_chain hd hd' h
theorem dt_chain (ho : OpR X (compareOp op) r) (hd : OpD X.K r f) (ho' : OpR X (compareOp op') r') (hd' : OpD X.K r' f') (ha : DE X E0 Ee a ta) (hb : DE X E0 Ee b tb) (hc : DE X E0 Ee c tc) (hm : lastMarks [op, op'] [b, c] = false := by with_unfolding_all rfl) :
    DT X E0 Ee (.Compare a [op, op'] [b, c] pos) (dTest (dChain f f' ta tb tc)) := PTimp (pt_chain ho ho' ha hb hc hm) fun σ H Q0 h => low_test (t0 := tChain r r' (lowE X.K E0 Ee ta) (lowE X.K E0 Ee tb) (lowE X.K E0 Ee tc)) (fun σ H Q0 h => low_chain hd hd' h) h
/-- x, y = e1, e2 -/
def dPar (i j : Nat) (ta tb : TDE) : TDS := fun D ρ M => ta ρ M fun x M1 => tb ρ M1 fun y M2 => D.nx (rset (rset ρ i (some x)) j (some y)) M2
theorem ds_par {i j : Nat} {x y : Str} {px py pt spos : Pos} {kt k2 pt2} (hc : X.calm = true) (hN : X.N.Nodup) (hi : X.N[i]? = some x) (hj : X.N[j]? = some y) (hij : i ≠ j) (hx : X.env.scope.names.lookup x = some .local) (hy : X.env.scope.names.lookup y = some .local) (ha : DE X E0 Ee a ta) (hb : DE X E0 Ee b tb)
    (hw : swappedStores [.Tuple [.Name x px, .Name y py] kt pt] (.Tuple [a, b] k2 pt2) X.env = pure (some [x, y])) (hs : swapsWithSole [.Tuple [.Name x px, .Name y py] kt pt] (.Tuple [a, b] k2 pt2) spos.line X.env = pure false := by rfl)
    (hs0 : starEach [a, b] X.env = (false, eval a X.env) :: starEach [b] X.env := by rfl) (hs1 : starEach [b] X.env = (false, eval b X.env) :: starEach [] X.env := by rfl) :
    DS X E0 Ee (.Assign [.Tuple [.Name x px, .Name y py] kt pt] (.Tuple [a, b] k2 pt2) spos) (dPar i j ta tb) :=
  PSimp (ps_par hc hN hi hj hij hx hy (pa_cons ha (pa_cons hb pa_nil hs1) hs0) hw hs) fun D0 σ H ⟨F, M, ρ, De, ss, q, k⟩ => ⟨F, M, ρ, _, ss, q, fun v H1 F1 d M1 s1 r q1 => ⟨F1, M1, ρ, _, ss.step s1, q1, fun w H2 F2 d2 M2 s2 r2 q2 =>
    ⟨v, w, rfl, k.nx _ _ _ _ _ (s1.trans s2) (((ss.env.mono (s1.trans s2).fle).set i (r.mono s2.fle)).set j r2) q2⟩⟩⟩
end
end DL


set_option Elab.async false
set_option linter.all false
set_option maxRecDepth 100000
set_option maxHeartbeats 1000000
namespace DL
open PySem PySem.Spec PyProof.Rows L2
/-! ### [e for x in xs for y in ys] -/
/- the list that grows stands in M, at a new place p -/
def dLc2 (ti : TDA) (g : TDG) (tt : TDT) (ti1 : TDA) (g1 : TDG) (tt1 : TDT) (te : TDE) (own own1 : List Nat) : TDE := fun ρ M Q => ti ρ M fun items M1 => ∀ p, M1 p = none → ∃ Pv : Nat → Mp → Prop, Pv 0 (mset M1 p (.lst [])) ∧
  (∀ i x M, items[i]? = some x → Pv i M → g x (dwipe ρ own) M fun ρ2 M2 => tt ρ2 M2 fun b M3 => if b = true then ti1 ρ2 M3 fun items1 M4 => ∃ Pw : Nat → Mp → Prop, Pw 0 M4 ∧
    (∀ j y M, items1[j]? = some y → Pw j M → g1 y (dwipe ρ2 own1) M fun ρ3 M5 => tt1 ρ3 M5 fun b M6 => if b = true then te ρ3 M6 fun z M7 => ∃ acc, M7 p = some (.lst acc) ∧ acc.length < sizeLine ∧ Pw (j + 1) (mset M7 p (.lst (acc ++ [z]))) else Pw (j + 1) M6) ∧
    ∀ M, Pw items1.length M → Pv (i + 1) M else Pv (i + 1) M3) ∧
  ∀ M, Pv items.length M → ∃ acc, M p = some (.lst acc) ∧ Q (.lst acc) (mdel M p)
theorem wipe_wipe (own : List Nat) : ∀ (ws : List Nat) (τ : L2.St), (∀ i ∈ ws, i ∈ own) → L2.wipe (L2.wipe τ ws) own = L2.wipe τ own
  | [], τ, _ => rfl
  | w :: ws, τ, h => by
    show L2.wipe ((L2.wipe τ ws).set w none) own = _
    rw [wipe_set _ _ _ (h w (by simp)), wipe_wipe own ws τ fun i hi => h i (by simp [hi])]
section
variable {X : Cx} {E0 : L2.St → XK} {Ee : DEnv → DXK} {elt tg iter tg1 iter1 : Expr} {ifs ifs1 : List Expr} {scope : Scope} {own : List (Str × Nat)} {ti ti1 : TDA} {vs vs1 own1 : List Nat} {g g1 : TDG} {tt tt1 : TDT} {te : TDE} {pos : Pos}
theorem lc2_low {K : PySem.W.Frag} {own : List Nat} {fin : D → Mp → Prop} {σ : L2.St} {H F : Hp} {M : Mp} {ρ : DEnv} {Q0 : VK} (hv : ∀ i ∈ vs, i ∈ own) (hv1 : ∀ i ∈ vs1, i ∈ own1) (ss : SS K E0 Ee σ H F M ρ) (q : dLc2 ti g tt ti1 g1 tt1 te own own1 ρ M fin) (k : KE K F M H fin Q0) :
    tLc2 (lowI K E0 Ee ti) (lowG K EN NX vs g) (lowT K EN NX tt) (lowI K EN NX ti1) (lowG K EN NX vs1 g1) (lowT K EN NX tt1) (lowE K EN NX te) own own1 σ H Q0 := by
  refine ⟨F, M, ρ, _, ss, q, fun J H1 F1 items M1 s1 jw q1 D hD => ?_⟩
  obtain ⟨nM1, nF1⟩ := s1.hm.none hD
  obtain ⟨Pv, h0, hs', hd⟩ := q1 D nM1
  have s1' : Step K F1 M1 H1 F1 (mset M1 D (.lst [])) (upd H1 D (.lst [])) := Step.newM s1.hm hD ⟨[], upd_same, .nil⟩
  refine ⟨fun i m H' => m = items.length - i ∧ i ≤ items.length ∧ ∃ F' M', Step K F1 M1 H1 F' M' H' ∧ Pv i M', ⟨_, rfl, Nat.zero_le _, F1, _, s1', h0⟩, ?_⟩
  rintro i m H' ⟨rfl, hi, F', M', st, pv⟩
  obtain ⟨jw1, jw2⟩ := jw F' M' H' st
  by_cases hlt : i < items.length
  · obtain ⟨go, yl⟩ := jw1 i hlt
    refine .inr ⟨go, fun H2 => ∃ F2 M2, Step K F1 M1 H1 F2 M2 H2 ∧ Pv (i + 1) M2, fun H2 h2 => ⟨_, by omega, rfl, hlt, h2⟩, fun x H2 y => ?_⟩
    obtain ⟨F2, s2, rx⟩ := yl x H2 y
    have hx : items[i]? = some items[i] := List.getElem?_eq_getElem hlt
    have st2 := st.trans s2
    refine ⟨F2, M', dwipe ρ own, items[i], _, ⟨s2.hm, ((ss.env.mono s1.fle).mono st2.fle).wipe _, xc_no⟩, rx _ hx, hs' i _ M' hx pv, fun σ3 H3 F3 ρ3 M3 s3 e3 f3 q3 => ⟨?_, ?_⟩⟩
    · rw [f3 own hv]
      exact wipe_wipe _ _ σ fun i h => h
    · refine ⟨F3, M3, ρ3, _, ⟨s3.hm, e3, xc_no⟩, q3, fun b H4 F4 d M4 s4 r4 q4 => ?_⟩
      have r' : b = d := r4
      subst r'
      have s24 := s2.trans (s3.trans s4)
      cases b with
      | true =>
        rw [if_pos rfl] at q4
        refine iteT ⟨F4, M4, ρ3, _, ⟨s4.hm, e3.mono s4.fle, xc_no⟩, q4, fun J1 H5 F5 items1 M5 s5 jv q5 => ?_⟩
        obtain ⟨Pw, p0, ps, pd⟩ := q5
        have s15 := st.trans (s24.trans s5)
        have e5 := (e3.mono s4.fle).mono s5.fle
        refine ⟨fun j m H' => m = items1.length - j ∧ j ≤ items1.length ∧ ∃ F' M', Step K F5 M5 H5 F' M' H' ∧ Pw j M', ⟨_, rfl, Nat.zero_le _, F5, M5, .refl s5.hm, p0⟩, ?_⟩
        rintro j m H6 ⟨rfl, hj, F6, M6, t6, pw⟩
        obtain ⟨jv1, jv2⟩ := jv F6 M6 H6 t6
        by_cases hlj : j < items1.length
        · obtain ⟨go1, yl1⟩ := jv1 j hlj
          refine .inr ⟨go1, fun H2 => ∃ F2 M2, Step K F5 M5 H5 F2 M2 H2 ∧ Pw (j + 1) M2, fun H2 h2 => ⟨_, by omega, rfl, hlj, h2⟩, fun x1 H7 y1 => ?_⟩
          obtain ⟨F7, s7, rx1⟩ := yl1 x1 H7 y1
          have hx1 : items1[j]? = some items1[j] := List.getElem?_eq_getElem hlj
          have t7 := t6.trans s7
          refine ⟨F7, M6, dwipe ρ3 own1, items1[j], _, ⟨s7.hm, (e5.mono t7.fle).wipe _, xc_no⟩, rx1 _ hx1, ps j _ M6 hx1 pw, fun σ8 H8 F8 ρ8 M8 s8 e8 f8 q8 => ⟨?_, ?_⟩⟩
          · rw [f8 own1 hv1]
            exact wipe_wipe _ _ σ3 fun i h => h
          · refine ⟨F8, M8, ρ8, _, ⟨s8.hm, e8, xc_no⟩, q8, fun b H9 F9 d M9 s9 r9 q9 => ?_⟩
            have r' : b = d := r9
            subst r'
            cases b with
            | true =>
              rw [if_pos rfl] at q9
              refine iteT ⟨F9, M9, ρ8, _, ⟨s9.hm, e8.mono s9.fle, xc_no⟩, q9, fun v H10 F10 dv M10 s10 r10 ⟨acc, ea, hl, p10⟩ => ?_⟩
              obtain ⟨xs, eH, rl⟩ := (s10.hm.mo D _ ea).2
              have s11 := Step.wr (o := .lst (xs ++ [v])) (mo := .lst (acc ++ [dv])) s10.hm ea (by intro z; cases z) ⟨_, upd_same, rl.app (.cons r10 .nil)⟩
              exact ⟨xs, eH, by rw [rl.length]; exact hl, F10, _, t7.trans ((s8.trans s9).trans (s10.trans s11)), p10⟩
            | false =>
              rw [if_neg (by simp)] at q9
              exact iteF ⟨F9, M9, t7.trans (s8.trans s9), q9⟩
        · have e : j = items1.length := by omega
          subst e
          exact .inl ⟨jv2, F6, M6, s15.trans t6, pd M6 pw⟩
      | false =>
        rw [if_neg (by simp)] at q4
        exact iteF ⟨F4, M4, st.trans s24, q4⟩
  · have e : i = items.length := by omega
    subst e
    obtain ⟨acc, ea, q2⟩ := hd M' pv
    obtain ⟨xs, eH, rl⟩ := (st.hm.mo D _ ea).2
    have s3 := Step.frz st.hm ea (by intro z; cases z) eH
    exact .inl ⟨jw2, k _ _ _ _ _ ((s1.trans st).trans s3) (.lst upd_same (rl.mono s3.fle)) q2⟩
theorem de_lc2 (hc : X.calm = true) (hN : X.N.Nodup) (hi : DI X E0 Ee tg iter ti) (ok : BlkOk X.N X.env.scope scope own) (ho : ∀ i ∈ own1, i ∈ own.map (·.2))
    (hg : ∀ (s : Shared) (H : Hp) (C : Addr) (cl : List (Str × Addr)) (fp : List Addr), DG (X.blk s H scope (compEnvC scope cl C X.env) fp) EN NX vs tg g) (ht : ∀ (s : Shared) (H : Hp) (C : Addr) (cl : List (Str × Addr)) (fp : List Addr), DTs (X.blk s H scope (compEnvC scope cl C X.env) fp) EN NX ifs tt)
    (hi1 : ∀ (s : Shared) (H : Hp) (C : Addr) (cl : List (Str × Addr)) (fp : List Addr), DI (X.blk s H scope (compEnvC scope cl C X.env) fp) EN NX tg1 iter1 ti1)
    (hg1 : ∀ (s : Shared) (H : Hp) (C : Addr) (cl : List (Str × Addr)) (fp : List Addr), DG (X.blk s H scope (compEnvC scope cl C X.env) fp) EN NX vs1 tg1 g1) (ht1 : ∀ (s : Shared) (H : Hp) (C : Addr) (cl : List (Str × Addr)) (fp : List Addr), DTs (X.blk s H scope (compEnvC scope cl C X.env) fp) EN NX ifs1 tt1)
    (he : ∀ (s : Shared) (H : Hp) (C : Addr) (cl : List (Str × Addr)) (fp : List Addr), DE (X.blk s H scope (compEnvC scope cl C X.env) fp) EN NX elt te) (hv : ∀ i ∈ vs, i ∈ own.map (·.2)) (hv1 : ∀ i ∈ vs1, i ∈ own1)
    (hs : ∀ x, foldedSetIterable iter X.env x = pure x := by intro _; rfl) (hs1 : ∀ env x, foldedSetIterable iter1 env x = pure x := by intro _ _; rfl) :
    DE X E0 Ee (.ListComp elt [⟨tg, iter, ifs, 0⟩, ⟨tg1, iter1, ifs1, 0⟩] scope pos) (dLc2 ti g tt ti1 g1 tt1 te (own.map (·.2)) own1) :=
  PEimp (pe_lc2 (g := lowG X.K EN NX vs g) (tt := lowT X.K EN NX tt) (wi1 := lowI X.K EN NX ti1) (g1 := lowG X.K EN NX vs1 g1) (tt1 := lowT X.K EN NX tt1) (te := lowE X.K EN NX te) (vs1 := own1) hc hN hi ok ho hg ht hi1 hg1 ht1 he hs hs1) fun σ H Q0 ⟨F, M, ρ, Q, ss, q, k⟩ => lc2_low hv hv1 ss q k
theorem ds_setLc2 {i : Nat} {y : Str} {py spos : Pos} (hc : X.calm = true) (hN : X.N.Nodup) (hy : X.N[i]? = some y) (hyl : X.env.scope.names.lookup y = some .local) (hsw : swapsWith (.ListComp elt [⟨tg, iter, ifs, 0⟩, ⟨tg1, iter1, ifs1, 0⟩] scope pos) (some (.Name y py)) spos.line X.env = pure true) (hi : DI X E0 Ee tg iter ti) (ok : BlkOk X.N X.env.scope scope own) (ho : ∀ i ∈ own1, i ∈ own.map (·.2))
    (hg : ∀ (s : Shared) (H : Hp) (C : Addr) (cl : List (Str × Addr)) (fp : List Addr), DG (X.blk s H scope (compEnvC scope cl C X.env) fp) EN NX vs tg g) (ht : ∀ (s : Shared) (H : Hp) (C : Addr) (cl : List (Str × Addr)) (fp : List Addr), DTs (X.blk s H scope (compEnvC scope cl C X.env) fp) EN NX ifs tt)
    (hi1 : ∀ (s : Shared) (H : Hp) (C : Addr) (cl : List (Str × Addr)) (fp : List Addr), DI (X.blk s H scope (compEnvC scope cl C X.env) fp) EN NX tg1 iter1 ti1)
    (hg1 : ∀ (s : Shared) (H : Hp) (C : Addr) (cl : List (Str × Addr)) (fp : List Addr), DG (X.blk s H scope (compEnvC scope cl C X.env) fp) EN NX vs1 tg1 g1) (ht1 : ∀ (s : Shared) (H : Hp) (C : Addr) (cl : List (Str × Addr)) (fp : List Addr), DTs (X.blk s H scope (compEnvC scope cl C X.env) fp) EN NX ifs1 tt1)
    (he : ∀ (s : Shared) (H : Hp) (C : Addr) (cl : List (Str × Addr)) (fp : List Addr), DE (X.blk s H scope (compEnvC scope cl C X.env) fp) EN NX elt te) (hv : ∀ i ∈ vs, i ∈ own.map (·.2)) (hv1 : ∀ i ∈ vs1, i ∈ own1)
    (hs : ∀ x, foldedSetIterable iter X.env x = pure x := by intro _; rfl) (hs1 : ∀ env x, foldedSetIterable iter1 env x = pure x := by intro _ _; rfl) :
    DS X E0 Ee (.Assign [.Name y py] (.ListComp elt [⟨tg, iter, ifs, 0⟩, ⟨tg1, iter1, ifs1, 0⟩] scope pos) spos) (dSet i (dLc2 ti g tt ti1 g1 tt1 te (own.map (·.2)) own1)) :=
  PSimp (ps_setLc2 (g := lowG X.K EN NX vs g) (tt := lowT X.K EN NX tt) (wi1 := lowI X.K EN NX ti1) (g1 := lowG X.K EN NX vs1 g1) (tt1 := lowT X.K EN NX tt1) (te := lowE X.K EN NX te) (vs1 := own1) hc hN hy hyl hsw hi ok ho hg ht hi1 hg1 ht1 he hs hs1) fun D0 σ H ⟨F, M, ρ, D, ss, q, k⟩ =>
    lc2_low (Q0 := fun x H1 => gName i x σ H1 D0.nx) hv hv1 ss q fun v H1 F1 d M1 s1 r q1 => k.nx _ _ _ _ _ s1 ((ss.env.mono s1.fle).set i r) q1
end
end DL


set_option Elab.async false
set_option linter.all false
set_option maxRecDepth 100000
set_option maxHeartbeats 1000000
namespace DL
open PySem PySem.Spec PyProof.Rows L2
/-! ### isinstance(x, (T, U)) -/
def dIsi2 (T U : TN) (te : TDE) : TDE := fun ρ M Q => te ρ M fun x M1 => ∃ t, tyN (vw M1 x) = some t ∧ Q (.bl (isT t T || isT t U)) M1
section
variable {X : Cx} {E0 : L2.St → XK} {Ee : DEnv → DXK} {e : Expr} {te : TDE} {pos : Pos}
theorem de_isi2 {y z : Str} {p p2 p3 pt : Pos} {kt} (T U : TN) (hT : T ≠ .non) (hU : U ≠ .non) (hg : Gl X "isinstance") (hm : X.mg "isinstance" = none) (hy : Gl X y) (hmy : X.mg y = none) (hb : bootBuiltins y = some (.type T.s)) (hz : Gl X z) (hmz : X.mg z = none) (hbz : bootBuiltins z = some (.type U.s)) (he : DE X E0 Ee e te)
    (hn : y ≠ "__name__" := by decide) (hdb : (y == ("__debug__" : Str)) = false := by decide) (hnz : z ≠ "__name__" := by decide) (hdbz : (z == ("__debug__" : Str)) = false := by decide)
    (h1 : starEach [e, .Tuple [.Name y p2, .Name z p3] kt pt] X.env = (false, eval e X.env) :: starEach [.Tuple [.Name y p2, .Name z p3] kt pt] X.env := by rfl)
    (h2 : starEach [.Tuple [.Name y p2, .Name z p3] kt pt] X.env = (false, eval (.Tuple [.Name y p2, .Name z p3] kt pt) X.env) :: starEach [] X.env := by rfl)
    (h3 : starEach [Expr.Name y p2, .Name z p3] X.env = (false, eval (Expr.Name y p2) X.env) :: starEach [Expr.Name z p3] X.env := by rfl)
    (h4 : starEach [Expr.Name z p3] X.env = (false, eval (Expr.Name z p3) X.env) :: starEach [] X.env := by rfl)
    (hpl : (backTo pos (starEach [.Tuple [.Name y p2, .Name z p3] kt pt] X.env)).any (·.1) = false := by rfl) :
    DE X E0 Ee (.Call (.Name "isinstance" p) [e, .Tuple [.Name y p2, .Name z p3] kt pt] [] pos) (dIsi2 T U te) := by
  have ty : PE X (.Name y p2) (tC (.ty T.s)) := pe_bltn hy hmy hb rfl hn hdb
  have tz : PE X (.Name z p3) (tC (.ty U.s)) := pe_bltn hz hmz hbz rfl hnz hdbz
  refine PEimp (pe_callB call_isiT hg hm boot_isinstance (pa_cons he (pa_cons (pe_tup (pa_cons ty (pa_cons tz pa_nil h4) h3)) pa_nil h2) h1) (by decide) (by decide) h1 hpl) fun σ H Q0 ⟨F, M, ρ, Q, ss, q, k⟩ => ?_
  refine ⟨F, M, ρ, _, ss, q, fun x H1 F1 d M1 s1 r ⟨t, et, q1⟩ => ?_⟩
  refine ⟨by show 2 ≤ sizeLine; decide, fun tp htp => ?_⟩
  have c := Ct.vw s1.hm r
  obtain ⟨nM, nF⟩ := s1.hm.none htp
  have s2 := (Step.refl s1.hm).hset htp nF nM (.tup [V.ty T.s, V.ty U.s])
  have kk : PySem.W.kitAny X.K (.type t.s) [.type T.s, .type U.s] = some (isT t T || isT t U) := by
    unfold PySem.W.kitAny
    rw [kit_ty (kit_ok t T hT)]
    cases isT t T with
    | true => rfl
    | false =>
      dsimp only
      unfold PySem.W.kitAny
      rw [kit_ty (kit_ok t U hU)]
      cases isT t U <;> rfl
  refine ⟨x, tp, _, .type t.s, [.type T.s, .type U.s], _, rfl, upd_same, ?_, tyN_ok (Ct.vw s2.hm r) et, kk, k _ _ _ _ _ (s1.trans s2) (.bl _) q1⟩
  exact .cons (.ty _) (.cons (.ty _) .nil)
theorem dt_isi2 {y z : Str} {p p2 p3 pt : Pos} {kt} (T U : TN) (hT : T ≠ .non) (hU : U ≠ .non) (hg : Gl X "isinstance") (hm : X.mg "isinstance" = none) (hy : Gl X y) (hmy : X.mg y = none) (hb : bootBuiltins y = some (.type T.s)) (hz : Gl X z) (hmz : X.mg z = none) (hbz : bootBuiltins z = some (.type U.s)) (he : DE X E0 Ee e te)
    (hn : y ≠ "__name__" := by decide) (hdb : (y == ("__debug__" : Str)) = false := by decide) (hnz : z ≠ "__name__" := by decide) (hdbz : (z == ("__debug__" : Str)) = false := by decide)
    (h1 : starEach [e, .Tuple [.Name y p2, .Name z p3] kt pt] X.env = (false, eval e X.env) :: starEach [.Tuple [.Name y p2, .Name z p3] kt pt] X.env := by rfl)
    (h2 : starEach [.Tuple [.Name y p2, .Name z p3] kt pt] X.env = (false, eval (.Tuple [.Name y p2, .Name z p3] kt pt) X.env) :: starEach [] X.env := by rfl)
    (h3 : starEach [Expr.Name y p2, .Name z p3] X.env = (false, eval (Expr.Name y p2) X.env) :: starEach [Expr.Name z p3] X.env := by rfl)
    (h4 : starEach [Expr.Name z p3] X.env = (false, eval (Expr.Name z p3) X.env) :: starEach [] X.env := by rfl)
    (hpl : (backTo pos (starEach [.Tuple [.Name y p2, .Name z p3] kt pt] X.env)).any (·.1) = false := by rfl)
    (ht : ∀ whole, isTrue (.Call (.Name "isinstance" p) [e, .Tuple [.Name y p2, .Name z p3] kt pt] [] pos) X.env whole = (do let v ← whole; standAt pos; holding [v] (truthy v)) := by intro _; rfl) :
    DT X E0 Ee (.Call (.Name "isinstance" p) [e, .Tuple [.Name y p2, .Name z p3] kt pt] [] pos) (dTest (dIsi2 T U te)) := dt_val (de_isi2 T U hT hU hg hm hy hmy hb hz hmz hbz he hn hdb hnz hdbz h1 h2 h3 h4 hpl) ht
end
end DL


set_option Elab.async false
set_option linter.all false
set_option maxRecDepth 100000
set_option maxHeartbeats 1000000
namespace DL
open PySem PySem.Spec PyProof.Rows L2
/-! ### x in o, len(o) by own methods that raise nothing -/
abbrev XN : XK := fun _ _ _ => False
abbrev DN : DXK := fun _ _ _ => False
theorem pass_no {P : Program} {w : World} {X : Cx} (σ : L2.St) : PassesAt (L2.CX P w) X σ XN := fun _ _ _ _ _ _ c => by
  obtain ⟨_, _, _, _, _, _, _, _, _, _, _, _, z⟩ := c
  exact z.elim
def rInOwn (K : PySem.W.Frag) (okV : Addr → Prop) (sp : Sp) (neg : Bool) : R2 := fun x y H Q => ∃ a C dx fs, y = .ref a ∧ H a = some (.ins C dx fs) ∧ okV C ∧ sp [y, x] H (fun z H' => ∃ b, z = .bl b ∧ Q (.bl (neg != b)) H') XN
section
variable {X : Cx} {k : Nat} {g : Addr} {fd : FuncData} {ps : List Str} {spv : Sp} {sp : DSp} {ok : Addr → Prop} {P : Program} {w : World}
theorem own_call {E : Value → Shared → Prop} {pins : List (Addr × Obj)} {σ : L2.St} {H : Hp} {s : Shared} {Q : VK} {us : List Value} {vs : List V} (F : FnOk X.prog X.w X.K X.mg X.base (L2.CX P w) k g fd ps spv) (hr : Room k X.A) (hb : Binds X.K fd ps []) (I : Inv X pins σ H s) (r : Vals vs us) (h : spv vs H Q XN) :
    wpAny (model X.prog X.w) X.A (call (.ref g) us) (EP X pins σ Q) X.xe s := run_fnSD (dvs := []) (ds := []) (E := fun _ => XN) F hr hb .nil (pass_no σ) I r (by rw [List.append_nil]; exact h)
theorem op_inOwn (hC : ∀ C, ok C → PySem.W.findIn X.K (.ref C) "__contains__" = some (some (.ref g)) ∧ PySem.W.isFn X.K (.ref g) = true) (F : FnOk X.prog X.w X.K X.mg X.base (L2.CX P w) k g fd ps spv) (hr : Room k X.A) (hb : Binds X.K fd ps []) :
    OpR X (compareOp .In) (rInOwn X.K ok spv false) ∧ OpR X (compareOp .NotIn) (rInOwn X.K ok spv true) := by
  constructor
  · intro pins s σ H x y v u Q I rx ry ⟨a, C, dx, fs, ey, ea, hok, q⟩
    subst ey
    cases (show u = Value.ref a from ry)
    obtain ⟨mA, O, _⟩ := ins_get I.hok ea
    obtain ⟨od, J, _⟩ := O.look
    obtain ⟨m, hF⟩ := I.fr
    refine PySem.W.in_K hF I.ok.mod.kin J (hC C hok).1 (hC C hok).2 (wpAny_mono (own_call (E := X.xe) (vs := [.ref a, x]) (us := [.ref a, v]) F hr hb I (.cons rfl (.cons rx .nil)) q) (fun r s' ⟨z, H', I', rz, b, ez, qz⟩ => ?_) fun _ _ e => e)
    subst ez
    cases (show r = Value.bool b from rz)
    exact wpAny_truthy_bool ⟨.bl b, H', I', rfl, by cases b <;> exact qz⟩
  · intro pins s σ H x y v u Q I rx ry ⟨a, C, dx, fs, ey, ea, hok, q⟩
    subst ey
    cases (show u = Value.ref a from ry)
    obtain ⟨mA, O, _⟩ := ins_get I.hok ea
    obtain ⟨od, J, _⟩ := O.look
    obtain ⟨m, hF⟩ := I.fr
    refine PySem.W.notIn_K hF I.ok.mod.kin J (hC C hok).1 (hC C hok).2 (wpAny_mono (own_call (E := X.xe) (vs := [.ref a, x]) (us := [.ref a, v]) F hr hb I (.cons rfl (.cons rx .nil)) q) (fun r s' ⟨z, H', I', rz, b, ez, qz⟩ => ?_) fun _ _ e => e)
    subst ez
    cases (show r = Value.bool b from rz)
    exact wpAny_truthy_bool ⟨.bl (!b), H', I', rfl, by cases b <;> exact qz⟩
def dInOwn (ok : Addr → Prop) (sp : DSp) (neg : Bool) (ta tb : TDE) : TDE := fun ρ M Q => ta ρ M fun x M1 => tb ρ M1 fun y M2 => ∃ C fs, vw M2 y = .obj C fs ∧ ok C ∧ sp [y, x] M2 (fun d M3 => ∃ b, d = .bl b ∧ Q (.bl (neg != b)) M3) DN
variable {E0 : L2.St → XK} {Ee : DEnv → DXK} {a b : Expr} {ta tb : TDE} {pos : Pos}
theorem low_inOwn {K : PySem.W.Frag} {neg : Bool} {σ : L2.St} {H : Hp} {Q0 : VK} (h : lowE K E0 Ee (dInOwn ok sp neg ta tb) σ H Q0) : tOp (rInOwn K ok (lift K sp) neg) (lowE K E0 Ee ta) (lowE K E0 Ee tb) σ H Q0 := by
  obtain ⟨F, M, ρ, Q, ss, q, k⟩ := h
  refine ⟨F, M, ρ, _, ss, q, fun x H1 F1 dx M1 s1 rx q1 => ⟨F1, M1, ρ, _, ss.step s1, q1, fun y H2 F2 dy M2 s2 ry ⟨C, fs, hv, hok, q2⟩ => ?_⟩⟩
  have c := Ct.vw s2.hm ry
  rw [hv] at c
  obtain ⟨p, dd, xs, rfl, e, rf⟩ := c
  refine ⟨p, C, dd, xs, rfl, e, hok, F2, M2, _, _, DN, s2.hm, .cons ry (.cons (rx.mono s2.fle) .nil), q2, fun v H' F' d M' s' rd ⟨bb, ed, q3⟩ => ?_, fun _ _ _ _ _ _ _ _ _ _ z => z⟩
  subst ed
  cases rd
  exact ⟨bb, rfl, k _ _ _ _ _ ((s1.trans s2).trans s') (.bl _) q3⟩
theorem de_inOwn (hC : ∀ C, ok C → PySem.W.findIn X.K (.ref C) "__contains__" = some (some (.ref g)) ∧ PySem.W.isFn X.K (.ref g) = true) (F : FnOk X.prog X.w X.K X.mg X.base (L2.CX P w) k g fd ps (lift X.K sp)) (hr : Room k X.A) (hb' : Binds X.K fd ps []) (ha : DE X E0 Ee a ta) (hb : DE X E0 Ee b tb) (hm : behindInMarks .In b = false := by rfl) :
    DE X E0 Ee (.Compare a [.In] [b] pos) (dInOwn ok sp false ta tb) := PEimp (pe_cmpR (op_inOwn hC F hr hb').1 ha hb hm) fun σ H Q0 h => low_inOwn h
theorem de_notInOwn (hC : ∀ C, ok C → PySem.W.findIn X.K (.ref C) "__contains__" = some (some (.ref g)) ∧ PySem.W.isFn X.K (.ref g) = true) (F : FnOk X.prog X.w X.K X.mg X.base (L2.CX P w) k g fd ps (lift X.K sp)) (hr : Room k X.A) (hb' : Binds X.K fd ps []) (ha : DE X E0 Ee a ta) (hb : DE X E0 Ee b tb) (hm : behindInMarks .NotIn b = false := by rfl) :
    DE X E0 Ee (.Compare a [.NotIn] [b] pos) (dInOwn ok sp true ta tb) := PEimp (pe_cmpR (op_inOwn hC F hr hb').2 ha hb hm) fun σ H Q0 h => low_inOwn h
end
end DL


set_option Elab.async false
set_option linter.all false
set_option maxRecDepth 100000
set_option maxHeartbeats 1000000
namespace DL
open PySem PySem.Spec PyProof.Rows L2
/-! ### len(o), o == x by own methods that raise nothing -/
section
variable {X : Cx} {k : Nat} {g : Addr} {fd : FuncData} {ps : List Str} {spv : Sp} {sp : DSp} {ok : Addr → Prop} {P : Program} {w : World}
theorem own_callA {A : Around} {pins : List (Addr × Obj)} {σ : L2.St} {H : Hp} {s : Shared} {Q : VK} {us : List Value} {vs : List V} (F : FnOk X.prog X.w X.K X.mg X.base (L2.CX P w) k g fd ps spv) (hr : Room k A) (e0 : Env0 X.prog X.w X.K X.mg X.base A X.stack s H) (hb : Binds X.K fd ps []) (I : Inv X pins σ H s) (r : Vals vs us) (h : spv vs H Q XN) :
    wpAny (model X.prog X.w) A (call (.ref g) us) (EP X pins σ Q) X.xe s := by
  have hl : (us ++ ([] : List Value)).length = ps.length := by rw [List.append_nil, ← r.length]; exact F.len _ _ _ _ h
  have hb2 := hb s us I.kIn hl
  rw [List.append_nil] at hb2
  refine wpAny_call (codeAny_mono (F.run A X.stack s H ⟨us, []⟩ us vs Q XN hr e0 hb2 r h) fun r s' hq => ?_)
  cases r with
  | error e => exact pass_no σ pins H s e s' I hq
  | ok fl =>
    cases fl with
    | ret u => exact I.after hq
    | next => exact False.elim hq
    | brk => exact False.elim hq
    | cont => exact False.elim hq
def rLenOwn (okV : Addr → Prop) (sp : Sp) : List V → Hp → VK → Prop := fun xs H Q => ∃ a C dx fs, xs = [.ref a] ∧ H a = some (.ins C dx fs) ∧ okV C ∧ sp [.ref a] H (fun z H' => ∃ n : Nat, z = .int n ∧ n ≤ sizeLine ∧ Q (.int n) H') XN
theorem call_lenOwn (hC : ∀ C, ok C → PySem.W.findIn X.K (.ref C) "__len__" = some (some (.ref g)) ∧ PySem.W.isFn X.K (.ref g) = true) (F : FnOk X.prog X.w X.K X.mg X.base (L2.CX P w) k g fd ps spv) (hr : Room (k + 1) X.A) (hb : Binds X.K fd ps []) : CallR X (.builtin "len") (rLenOwn ok spv) := by
  intro pins s σ H xs us Q I r ⟨a, C, dx, fs, ex, ea, hok, q⟩
  subst ex
  obtain ⟨u, rfl, ru⟩ := r.one
  cases (show u = Value.ref a from ru)
  obtain ⟨mA, O, _⟩ := ins_get I.hok ea
  obtain ⟨od, J, _⟩ := O.look
  obtain ⟨m, hF⟩ := I.fr
  refine PySem.W.len_K hF I.ok.mod.kin J (hC C hok).1 (hC C hok).2 (wpAny_mono (own_callA (vs := [.ref a]) (us := [.ref a]) F hr.in1 I.env0.in1 hb I (.cons rfl .nil) q) (fun r s' ⟨z, H', I', rz, n, ez, hn, qz⟩ => ?_) fun _ _ e => e)
  subst ez
  obtain ⟨t, et⟩ := (show ∃ t, r = Value.int (n : Int) t from rz)
  subst et
  have hs := sizeLine_eq
  exact ⟨⟨by omega, by omega⟩, .int n, H', I'.tok _, ⟨_, rfl⟩, qz⟩
def dLenOwn (ok : Addr → Prop) (sp : DSp) (ta : TDE) : TDE := fun ρ M Q => ta ρ M fun y M2 => ∃ C fs, vw M2 y = .obj C fs ∧ ok C ∧ sp [y] M2 (fun d M3 => ∃ n : Nat, d = .int n ∧ n ≤ sizeLine ∧ Q (.int n) M3) DN
variable {E0 : L2.St → XK} {Ee : DEnv → DXK} {a : Expr} {ta : TDE} {pos p : Pos}
theorem de_lenOwn (hC : ∀ C, ok C → PySem.W.findIn X.K (.ref C) "__len__" = some (some (.ref g)) ∧ PySem.W.isFn X.K (.ref g) = true) (F : FnOk X.prog X.w X.K X.mg X.base (L2.CX P w) k g fd ps (lift X.K sp)) (hr : Room (k + 1) X.A) (hb : Binds X.K fd ps []) (hg : Gl X "len") (hm : X.mg "len" = none) (ha : DE X E0 Ee a ta)
    (h1 : starEach [a] X.env = (false, eval a X.env) :: starEach [] X.env := by rfl) (hpl : (backTo pos (starEach [] X.env)).any (·.1) = false := by rfl) : DE X E0 Ee (.Call (.Name "len" p) [a] [] pos) (dLenOwn ok sp ta) :=
  PEimp (pe_callB (call_lenOwn hC F hr hb) hg hm PySem.boot_len (pa_cons ha pa_nil h1) (by decide) (by decide) h1 hpl) fun σ H Q0 ⟨F, M, ρ, Q, ss, q, k⟩ => by
    refine ⟨F, M, ρ, _, ss, q, fun y H2 F2 dy M2 s2 ry ⟨C, fs, hv, hok, q2⟩ => ?_⟩
    have c := Ct.vw s2.hm ry
    rw [hv] at c
    obtain ⟨p, dd, xs, rfl, e, rf⟩ := c
    refine ⟨p, C, dd, xs, rfl, e, hok, F2, M2, _, _, DN, s2.hm, .cons ry .nil, q2, fun v H' F' d M' s' rd ⟨n, ed, hn, q3⟩ => ?_, fun _ _ _ _ _ _ _ _ _ _ z => z⟩
    subst ed
    cases rd
    exact ⟨n, rfl, hn, k _ _ _ _ _ (s2.trans s') (.int _) q3⟩
end
end DL


set_option Elab.async false
set_option linter.all false
set_option maxRecDepth 100000
set_option maxHeartbeats 1000000
namespace DL
open PySem PySem.Spec PyProof.Rows L2
/-! ### o == x by an own method that raises nothing -/
def rEqOwn (K : PySem.W.Frag) (okV : Addr → Prop) (sp : Sp) : R2 := fun x y H Q => ∃ a C dx fs b C' dy gs, x = .ref a ∧ y = .ref b ∧ H a = some (.ins C dx fs) ∧ H b = some (.ins C' dy gs) ∧ okV C ∧ PySem.W.notFirst K C (.ref C') = true ∧ sp [x, y] H Q XN
section
variable {X : Cx} {k : Nat} {g : Addr} {fd : FuncData} {ps : List Str} {spv : Sp} {sp : DSp} {ok : Addr → Prop} {P : Program} {w : World}
theorem op_eqOwn (hC : ∀ C, ok C → PySem.W.findIn X.K (.ref C) "__eq__" = some (some (.ref g)) ∧ PySem.W.isFn X.K (.ref g) = true) (F : FnOk X.prog X.w X.K X.mg X.base (L2.CX P w) k g fd ps spv) (hr : Room k X.A) (hb : Binds X.K fd ps []) :
    OpR X (compareOp .Eq) (rEqOwn X.K ok spv) := by
  intro pins s σ H x y v u Q I rx ry ⟨a, C, dx, fs, b, C', dy, gs, ex, ey, ea, eb, hok, hn, q⟩
  subst ex ey
  cases (show v = Value.ref a from rx)
  cases (show u = Value.ref b from ry)
  obtain ⟨mA, O, _⟩ := ins_get I.hok ea
  obtain ⟨od, J, _⟩ := O.look
  obtain ⟨mB, O', _⟩ := ins_get I.hok eb
  obtain ⟨od', J', _⟩ := O'.look
  obtain ⟨m, hF⟩ := I.fr
  rw [show ∀ a b, compareOp .Eq a b = richCompare .Eq a b from fun _ _ => rfl]
  refine PySem.W.cmp_K (op := .Eq) (tb := .ref C') hr.units0 hF I.ok.mod.kin J J'.type hn (hC C hok).1 (hC C hok).2 ?_
  refine wpAny_mono (own_call (E := X.xe) (us := [.ref a, .ref b]) (vs := [.ref a, .ref b]) F hr hb I (.cons rfl (.cons rfl .nil)) q) (fun w s' ⟨z', H', I', rz, qz⟩ => ?_) fun _ _ x => x
  exact SlX.cmpback rz ⟨z', H', I', rz, qz⟩
/-- both of classes in ok, of which none comes ahead of another -/
def dEqOwn (ok : Addr → Prop) (sp : DSp) (ta tb : TDE) : TDE := fun ρ M Q => ta ρ M fun x M1 => tb ρ M1 fun y M2 => ∃ C fs C' gs, vw M2 x = .obj C fs ∧ vw M2 y = .obj C' gs ∧ ok C ∧ ok C' ∧ sp [x, y] M2 Q DN
variable {E0 : L2.St → XK} {Ee : DEnv → DXK} {a b : Expr} {ta tb : TDE} {pos : Pos}
theorem de_eqOwn (hC : ∀ C, ok C → PySem.W.findIn X.K (.ref C) "__eq__" = some (some (.ref g)) ∧ PySem.W.isFn X.K (.ref g) = true) (hn : ∀ C C', ok C → ok C' → PySem.W.notFirst X.K C (.ref C') = true) (F : FnOk X.prog X.w X.K X.mg X.base (L2.CX P w) k g fd ps (lift X.K sp)) (hr : Room k X.A) (hb' : Binds X.K fd ps []) (ha : DE X E0 Ee a ta) (hb : DE X E0 Ee b tb) :
    DE X E0 Ee (.Compare a [.Eq] [b] pos) (dEqOwn ok sp ta tb) := PEimp (pe_cmpR (op_eqOwn hC F hr hb') ha hb (nomark _)) fun σ H Q0 ⟨F, M, ρ, Q, ss, q, k⟩ => by
  refine ⟨F, M, ρ, _, ss, q, fun x H1 F1 dx M1 s1 rx q1 => ⟨F1, M1, ρ, _, ss.step s1, q1, fun y H2 F2 dy M2 s2 ry ⟨C, fs, C', gs, hv, hv', hok, hok', q2⟩ => ?_⟩⟩
  have rx2 := rx.mono s2.fle
  have c := Ct.vw s2.hm rx2
  have c' := Ct.vw s2.hm ry
  rw [hv] at c
  rw [hv'] at c'
  obtain ⟨p, dd, xs, rfl, e, rf⟩ := c
  obtain ⟨p', dd', xs', rfl, e', rf'⟩ := c'
  exact ⟨p, C, dd, xs, p', C', dd', xs', rfl, rfl, e, e', hok, hn C C' hok hok', F2, M2, _, _, DN, s2.hm, .cons rx2 (.cons ry .nil), q2, k.step (s1.trans s2), fun _ _ _ _ _ _ _ _ _ _ z => z⟩
end
end DL


set_option Elab.async false
set_option linter.all false
set_option maxRecDepth 100000
set_option maxHeartbeats 1000000
namespace DL
open PySem PySem.Spec PyProof.Rows L2
/-! ### xs.count(y), flat items -/
def rCntF (K : PySem.W.Frag) : V → List V → Hp → VK → Prop := fun x xs H Q => ∃ (p : Addr) (ys : List V) (y : V), x = .ref p ∧ xs = [y] ∧ SqL K H p ys ∧ flatV y = true ∧ ys.all flatV = true ∧ Q (.int (ys.countP (fun z => eqV z y) : Nat)) H
section
variable {X : Cx}
theorem eqU_count {y : V} : ∀ {xs : List V} {us : List Value}, Vals xs us → xs.all flatV = true → us.countP (eqU y) = xs.countP (fun z => eqV z y)
  | _, _, .nil, _ => rfl
  | _, _, .cons r t, h => by
    simp only [List.all_cons, Bool.and_eq_true] at h
    rw [List.countP_cons, List.countP_cons, eqU_count t h.2, eqU_of r h.1]
theorem mt_countF : MtR X "list.count" (rCntF X.K) := by
  intro pins s σ H x xs v us Q I rx rxs h
  obtain ⟨p, ys, y, rfl, rfl, hs, fy, fys, q⟩ := h
  cases rx
  obtain ⟨u, rfl, ru⟩ := rxs.one
  obtain ⟨its, rv, ⟨⟨cls, dd, data, sl⟩, n, ho, hc, hdn, hd⟩, hlen⟩ := I.list hs
  simp only at hc hd
  subst hc hd
  refine call_meets PySem.F.slot_list_count ⟨_, ho, rfl⟩ PySem.F.entry_list_count (PySem.F.args_list_count_2 _ _)
    (SeqAt.list_countAt p its.toArray n dd sl u (eqU y)) ⟨ho, fun u' hu' => mem_eqAt ru fy rv fys u' (by simpa using hu'), ?_⟩
  have ec : its.toArray.toList.countP (eqU y) = ys.countP (fun z => eqV z y) := eqU_count rv fys
  refine ⟨.int (ys.countP (fun z => eqV z y) : Nat), H, I.tok _, ⟨s.toks, ?_⟩, q⟩
  show Value.int ((its.toArray.toList.countP (eqU y) : Nat) : Int) s.toks = _
  rw [ec]
/-- a list of texts -/
def dCnt (to te : TDE) : TDE := fun ρ M Q => to ρ M fun x M1 => (∃ ds, vw M1 x = .lst ds) ∧ te ρ M1 fun y M2 => ∃ (ss : List Cd) (s : Cd), vw M2 x = .lst (ss.map .str) ∧ y = .str s ∧ Q (.int (ss.count s : Nat)) M2
variable {E0 : L2.St → XK} {Ee : DEnv → DXK} {o e : Expr} {to te : TDE} {apos cpos : Pos}
theorem cnt_str (K : PySem.W.Frag) (s : Cd) : ∀ ss : List Cd, (ss.map fun z => V.str (mkS z)).countP (fun z => eqV z (.str (mkS s))) = ss.count s
  | [] => rfl
  | z :: ss => by
    rw [List.map_cons, List.countP_cons, cnt_str K s ss, List.count_cons]
    have e : eqV (.str (mkS z)) (.str (mkS s)) = (z == s) := by
      have h := (eqV_flat (K := K) (F := fun _ => none) (H := fun _ => none) (x := .str (mkS z)) (y := .str (mkS s)) (dx := .str z) (dy := .str s) rfl rfl rfl rfl).2.2
      rw [h, e_deq_ss]
    rw [e]
theorem de_cnt (ho : DE X E0 Ee o to) (he : DE X E0 Ee e te) (hbase : attributeBase o "count" X.env (eval o X.env) = eval o X.env := by rfl)
    (hfew : ((backTo cpos (starEach [e] X.env)).all (fun x => !x.1) && (backToKw cpos (keywordEach [] X.env)).all (fun x => x.1.isSome) && decide ([e].length + ([] : List Keyword).length + (if ([] : List Keyword).isEmpty then 0 else 1) < 30)) = true := by rfl)
    (hline : (apos.endLine == cpos.line) = true := by rfl) (hs : starEach [e] X.env = (false, eval e X.env) :: starEach [] X.env := by rfl) (hplain : (backTo cpos (starEach [] X.env)).any (·.1) = false := by rfl) :
    DE X E0 Ee (.Call (.Attribute o "count" apos) [e] [] cpos) (dCnt to te) := by
  refine PEimp (pe_bm PySem.F.plainAttrs_list PySem.F.slot_list_count PySem.F.type_list_count mt_countF ho (pa_cons he pa_nil hs) hbase hfew hline hs hplain) fun σ H Q0 ⟨F, M, ρ, Q, ss, q, k⟩ => ?_
  refine ⟨F, M, ρ, _, ss, q, fun x H1 F1 dx M1 s1 rx ⟨⟨ds, hd⟩, q1⟩ => ⟨?_, F1, M1, ρ, _, ss.step s1, q1, fun y H2 F2 dy M2 s2 ry ⟨zs, t, hv, ey, q2⟩ => ?_⟩⟩
  · have c := Ct.vw s1.hm rx
    rw [hd] at c
    obtain ⟨p, xs, rfl, e, _⟩ := c
    exact .inl ⟨rfl, xs, SqL.of e⟩
  · subst ey
    cases ry
    have c := Ct.vw s2.hm (rx.mono s2.fle)
    rw [hv] at c
    obtain ⟨p, xs, rfl, e, rl⟩ := c
    rw [RpL.of_strs rl] at e
    have fl : ((zs.map mkS).map V.str).all flatV = true := by rw [List.all_eq_true]; intro v hv; simp only [List.mem_map] at hv; obtain ⟨_, _, rfl⟩ := hv; rfl
    refine ⟨p, (zs.map mkS).map V.str, _, rfl, rfl, SqL.of e, rfl, fl, ?_⟩
    have ec := cnt_str X.K t zs
    rw [List.map_map]
    rw [show (V.str ∘ mkS) = fun z => V.str (mkS z) from rfl, ec]
    exact k _ _ _ _ _ (s1.trans s2) (.int _) q2
end
end DL


set_option Elab.async false
set_option linter.all false
set_option maxRecDepth 100000
set_option maxHeartbeats 1000000
namespace DL
open PySem PySem.Spec PyProof.Rows L2
theorem szl {n : Nat} (h : n ≤ 1000000) : n ≤ sizeLine := by rw [sizeLine_eq]; omega
theorem szl' {n : Nat} (h : n < 1000000) : n < sizeLine := by rw [sizeLine_eq]; omega
/-! ### specs by the number of arguments -/
def S1 (f : D → Mp → (D → Mp → Prop) → DXK → Prop) : DSp := fun ds M Q E => match ds with
  | [a] => f a M Q E
  | _ => False
def S2 (f : D → D → Mp → (D → Mp → Prop) → DXK → Prop) : DSp := fun ds M Q E => match ds with
  | [a, b] => f a b M Q E
  | _ => False
def S3 (f : D → D → D → Mp → (D → Mp → Prop) → DXK → Prop) : DSp := fun ds M Q E => match ds with
  | [a, b, c] => f a b c M Q E
  | _ => False
def S4 (f : D → D → D → D → Mp → (D → Mp → Prop) → DXK → Prop) : DSp := fun ds M Q E => match ds with
  | [a, b, c, d] => f a b c d M Q E
  | _ => False
def S5 (f : D → D → D → D → D → Mp → (D → Mp → Prop) → DXK → Prop) : DSp := fun ds M Q E => match ds with
  | [a, b, c, d, e] => f a b c d e M Q E
  | _ => False
section
variable {ds : List D} {M : Mp} {Q : D → Mp → Prop} {E : DXK}
theorem S1.of {f} (h : S1 f ds M Q E) : ∃ a, ds = [a] ∧ f a M Q E := by
  unfold S1 at h; split at h
  · exact ⟨_, rfl, h⟩
  · exact h.elim
theorem S2.of {f} (h : S2 f ds M Q E) : ∃ a b, ds = [a, b] ∧ f a b M Q E := by
  unfold S2 at h; split at h
  · exact ⟨_, _, rfl, h⟩
  · exact h.elim
theorem S3.of {f} (h : S3 f ds M Q E) : ∃ a b c, ds = [a, b, c] ∧ f a b c M Q E := by
  unfold S3 at h; split at h
  · exact ⟨_, _, _, rfl, h⟩
  · exact h.elim
theorem S4.of {f} (h : S4 f ds M Q E) : ∃ a b c d, ds = [a, b, c, d] ∧ f a b c d M Q E := by
  unfold S4 at h; split at h
  · exact ⟨_, _, _, _, rfl, h⟩
  · exact h.elim
theorem S5.of {f} (h : S5 f ds M Q E) : ∃ a b c d e, ds = [a, b, c, d, e] ∧ f a b c d e M Q E := by
  unfold S5 at h; split at h
  · exact ⟨_, _, _, _, _, rfl, h⟩
  · exact h.elim
end
/-! ### comprehensions over known items -/
section
variable {ti ti1 : TDA} {g g1 : TDG} {tt tt1 : TDT} {te tk tv : TDE} {own own1 : List Nat} {ρ : DEnv} {M : Mp} {Q : D → Mp → Prop} {α β : Type}
/-- [te for g in ti], items known -/
theorem dLcG_map {fin : List D → Mp → Prop} (xs : List α) (mk : α → D) (f : α → D) (hti : ∀ R, R (xs.map mk) M → ti ρ M R) (hl : xs.length ≤ 1000000)
    (hb : ∀ (i : Nat) (x : α), xs[i]? = some x → ∀ R : D → Mp → Prop, R (f x) M → g (mk x) (dwipe ρ own) M fun ρ2 M2 => te ρ2 M2 R) (hq : fin (xs.map f) M) : dLcG ti g dYes te own fin ρ M := by
  unfold dLcG
  refine hti _ ⟨fun i acc M' => M' = M ∧ i ≤ xs.length ∧ acc = (xs.take i).map f, ⟨rfl, Nat.zero_le _, rfl⟩, ?_, ?_⟩
  · rintro i d acc M' hi ⟨rfl, hle, rfl⟩
    rw [List.getElem?_map] at hi
    cases e : xs[i]? with
    | none => rw [e] at hi; cases hi
    | some x =>
      rw [e] at hi; cases hi
      have hlt := (List.getElem?_eq_some_iff.mp e).1
      have := hb i x e (fun y M4 => ((xs.take i).map f).length < sizeLine ∧ M4 = M' ∧ i + 1 ≤ xs.length ∧ (xs.take i).map f ++ [y] = (xs.take (i + 1)).map f)
        ⟨by rw [List.length_map, List.length_take]; exact szl' (by omega), rfl, hlt, by rw [List.take_add_one, e, List.map_append]; rfl⟩
      simpa only [dYes, if_true] using this
  · rintro acc M' ⟨rfl, _, rfl⟩
    rw [List.length_map, List.take_length]; exact hq
theorem dLc_map (xs : List α) (mk : α → D) (f : α → D) (hti : ∀ R, R (xs.map mk) M → ti ρ M R) (hl : xs.length ≤ 1000000)
    (hb : ∀ (i : Nat) (x : α), xs[i]? = some x → ∀ R : D → Mp → Prop, R (f x) M → g (mk x) (dwipe ρ own) M fun ρ2 M2 => te ρ2 M2 R) (hq : Q (.lst (xs.map f)) M) : dLc ti g dYes te own ρ M Q := dLcG_map (fin := fun acc M' => Q (.lst acc) M') xs mk f hti hl hb hq
theorem dLcM_map (xs : List α) (mk : α → D) (f : α → D) (hti : ∀ R, R (xs.map mk) M → ti ρ M R) (hl : xs.length ≤ 1000000)
    (hb : ∀ (i : Nat) (x : α), xs[i]? = some x → ∀ R : D → Mp → Prop, R (f x) M → g (mk x) (dwipe ρ own) M fun ρ2 M2 => te ρ2 M2 R) (hq : ∀ p, M p = none → Q (.ref p) (mset M p (.lst (xs.map f)))) : dLcM ti g dYes te own ρ M Q := dLcG_map (fin := fun acc M' => ∀ p, M' p = none → Q (.ref p) (mset M' p (.lst acc))) xs mk f hti hl hb hq
/-- [te for g in ti if tt] -/
theorem dLcG_filter {fin : List D → Mp → Prop} (xs : List α) (mk : α → D) (p : α → Bool) (f : α → D) (hti : ∀ R, R (xs.map mk) M → ti ρ M R) (hl : xs.length ≤ 1000000)
    (hb : ∀ (i : Nat) (x : α), xs[i]? = some x → ∀ R : D → Mp → Prop, ∀ R' : Mp → Prop, (p x = true → R (f x) M) → (p x = false → R' M) → g (mk x) (dwipe ρ own) M fun ρ2 M2 => tt ρ2 M2 fun b M3 => if b = true then te ρ2 M3 R else R' M3)
    (hq : fin ((xs.filter p).map f) M) : dLcG ti g tt te own fin ρ M := by
  unfold dLcG
  refine hti _ ⟨fun i acc M' => M' = M ∧ i ≤ xs.length ∧ acc = ((xs.take i).filter p).map f, ⟨rfl, Nat.zero_le _, rfl⟩, ?_, ?_⟩
  · rintro i d acc M' hi ⟨rfl, hle, rfl⟩
    rw [List.getElem?_map] at hi
    cases e : xs[i]? with
    | none => rw [e] at hi; cases hi
    | some x =>
      rw [e] at hi; cases hi
      have hlt := (List.getElem?_eq_some_iff.mp e).1
      refine hb i x e _ _ (fun h => ⟨?_, rfl, hlt, ?_⟩) (fun h => ⟨rfl, hlt, ?_⟩)
      · rw [List.length_map]
        have := List.length_filter_le p (xs.take i)
        rw [List.length_take] at this
        exact szl' (by omega)
      · rw [List.take_add_one, e, Option.toList_some, List.filter_append, List.map_append, List.filter_cons_of_pos h]; rfl
      · rw [List.take_add_one, e, Option.toList_some, List.filter_append, List.filter_cons_of_neg (by simp [h])]; simp
  · rintro acc M' ⟨rfl, _, rfl⟩
    rw [List.length_map, List.take_length]; exact hq
theorem dLc_filter (xs : List α) (mk : α → D) (p : α → Bool) (f : α → D) (hti : ∀ R, R (xs.map mk) M → ti ρ M R) (hl : xs.length ≤ 1000000)
    (hb : ∀ (i : Nat) (x : α), xs[i]? = some x → ∀ R : D → Mp → Prop, ∀ R' : Mp → Prop, (p x = true → R (f x) M) → (p x = false → R' M) → g (mk x) (dwipe ρ own) M fun ρ2 M2 => tt ρ2 M2 fun b M3 => if b = true then te ρ2 M3 R else R' M3)
    (hq : Q (.lst ((xs.filter p).map f)) M) : dLc ti g tt te own ρ M Q := dLcG_filter (fin := fun acc M' => Q (.lst acc) M') xs mk p f hti hl hb hq
theorem dLcM_filter (xs : List α) (mk : α → D) (p : α → Bool) (f : α → D) (hti : ∀ R, R (xs.map mk) M → ti ρ M R) (hl : xs.length ≤ 1000000)
    (hb : ∀ (i : Nat) (x : α), xs[i]? = some x → ∀ R : D → Mp → Prop, ∀ R' : Mp → Prop, (p x = true → R (f x) M) → (p x = false → R' M) → g (mk x) (dwipe ρ own) M fun ρ2 M2 => tt ρ2 M2 fun b M3 => if b = true then te ρ2 M3 R else R' M3)
    (hq : ∀ q, M q = none → Q (.ref q) (mset M q (.lst ((xs.filter p).map f)))) : dLcM ti g tt te own ρ M Q := dLcG_filter (fin := fun acc M' => ∀ q, M' q = none → Q (.ref q) (mset M' q (.lst acc))) xs mk p f hti hl hb hq
/-- [te for g in ti for g1 in ti1] -/
theorem dLc2_map (xs : List α) (mk : α → D) (ys : α → List β) (mk1 : α → β → D) (f : α → β → D) (hti : ∀ R, R (xs.map mk) M → ti ρ M R) (hl : (xs.flatMap ys).length ≤ 1000000)
    (hb : ∀ (i : Nat) (x : α), xs[i]? = some x → ∀ M' : Mp, (∀ a, M a ≠ none → M' a = M a) → ∀ R : DEnv → Mp → Prop, (∀ ρ2, (∀ R1 : List D → Mp → Prop, R1 ((ys x).map (mk1 x)) M' → ti1 ρ2 M' R1) →
        (∀ (j : Nat) (y : β), (ys x)[j]? = some y → ∀ M'' : Mp, (∀ a, M a ≠ none → M'' a = M a) → ∀ R2 : D → Mp → Prop, R2 (f x y) M'' → g1 (mk1 x y) (dwipe ρ2 own1) M'' fun ρ3 M5 => te ρ3 M5 R2) → R ρ2 M') → g (mk x) (dwipe ρ own) M' R)
    (hq : Q (.lst (xs.flatMap fun x => (ys x).map (f x))) M) : dLc2 ti g dYes ti1 g1 dYes te own own1 ρ M Q := by
  unfold dLc2
  have sbl : ∀ (n : Nat) (x : α), xs[n]? = some x → ∀ j, j ≤ (ys x).length → ((xs.take n).flatMap fun x => (ys x).map (f x)).length + j ≤ (xs.flatMap ys).length := by
    intro n x e j hj
    have e1 : xs = xs.take n ++ x :: xs.drop (n + 1) := by
      have h := (List.getElem?_eq_some_iff.mp e)
      obtain ⟨hlt, h2⟩ := h
      rw [← h2, ← List.drop_eq_getElem_cons hlt, List.take_append_drop]
    have l1 : ∀ zs : List α, (zs.flatMap fun x => (ys x).map (f x)).length = (zs.flatMap ys).length := by
      intro zs
      induction zs with
      | nil => rfl
      | cons z zs ih => simp only [List.flatMap_cons, List.length_append, List.length_map, ih]
    rw [l1]
    conv => rhs; rw [e1]
    rw [List.flatMap_append, List.flatMap_cons, List.length_append, List.length_append]
    omega
  refine hti _ fun p hp => ?_
  have ne : ∀ {a o}, M a ≠ none → mset M p o a = M a := fun {a o} h => mset_ne fun z => h (by rw [z]; exact hp)
  refine ⟨fun i M' => i ≤ xs.length ∧ M' = mset M p (.lst ((xs.take i).flatMap fun x => (ys x).map (f x))), ⟨Nat.zero_le _, rfl⟩, ?_, ?_⟩
  · rintro i d M' hi ⟨hle, rfl⟩
    rw [List.getElem?_map] at hi
    cases e : xs[i]? with
    | none => rw [e] at hi; cases hi
    | some x =>
      rw [e] at hi; cases hi
      have hlt := (List.getElem?_eq_some_iff.mp e).1
      refine hb i x e _ (fun a h => ne h) _ fun ρ2 h1 h2 => ?_
      simp only [dYes, if_true]
      refine h1 _ ⟨fun j M' => j ≤ (ys x).length ∧ M' = mset M p (.lst (((xs.take i).flatMap fun x => (ys x).map (f x)) ++ ((ys x).take j).map (f x))), ⟨Nat.zero_le _, by simp⟩, ?_, ?_⟩
      · rintro j d M' hj ⟨hle', rfl⟩
        rw [List.getElem?_map] at hj
        cases e' : (ys x)[j]? with
        | none => rw [e'] at hj; cases hj
        | some y =>
          rw [e'] at hj; cases hj
          have hlt' := (List.getElem?_eq_some_iff.mp e').1
          have := sbl i x e (j + 1) hlt'
          refine h2 j y e' _ (fun a h => ne h) _ ⟨_, mset_same, ?_, hlt', ?_⟩
          · rw [List.length_append, List.length_map, List.length_take]; exact szl' (by omega)
          · rw [mset_mset, List.append_assoc, List.take_add_one, e', List.map_append]; rfl
      · rintro M' ⟨_, rfl⟩
        refine ⟨hlt, ?_⟩
        rw [List.length_map, List.take_length, List.take_add_one, e, Option.toList_some, List.flatMap_append]
        simp
  · rintro M' ⟨_, rfl⟩
    refine ⟨_, mset_same, ?_⟩
    rw [mdel_mset hp, List.length_map, List.take_length]; exact hq
/-- {tk: tv for g in ti}, unlike keys -/
theorem dDc_nodup {κ : Type} [DecidableEq κ] {mkd : List (κ × D) → D} {key : D → Option κ} (xs : List α) (mk : α → D) (fkD : α → D) (fk : α → κ) (fv : α → D) (hti : ∀ R, R (xs.map mk) M → ti ρ M R) (hl : xs.length ≤ 1000000) (hn : (xs.map fk).Nodup)
    (hkd : ∀ x, key (fkD x) = some (fk x)) (hb : ∀ (i : Nat) (x : α), xs[i]? = some x → ∀ R2 : D → D → Mp → Prop, R2 (fkD x) (fv x) M → g (mk x) (dwipe ρ own) M fun ρ2 M2 => tk ρ2 M2 fun y M4 => tv ρ2 M4 fun z M5 => R2 y z M5)
    (hq : Q (mkd (xs.map fun x => (fk x, fv x))) M) : dDc mkd key ti g dYes tk tv own ρ M Q := by
  unfold dDc
  refine hti _ ⟨fun i acc M' => M' = M ∧ i ≤ xs.length ∧ acc = (xs.take i).map fun x => (fk x, fv x), ⟨rfl, Nat.zero_le _, rfl⟩, ?_, ?_⟩
  · rintro i d acc M' hi ⟨rfl, hle, rfl⟩
    rw [List.getElem?_map] at hi
    cases e : xs[i]? with
    | none => rw [e] at hi; cases hi
    | some x =>
      rw [e] at hi; cases hi
      have hlt := (List.getElem?_eq_some_iff.mp e).1
      have := hb i x e (fun y z M5 => ∃ k, key y = some k ∧ ((xs.take i).map fun x => (fk x, fv x)).length < sizeLine ∧ M5 = M' ∧ i + 1 ≤ xs.length ∧ dpu ((xs.take i).map fun x => (fk x, fv x)) k z = (xs.take (i + 1)).map fun x => (fk x, fv x)) ?_
      · simpa only [dYes, if_true] using this
      · refine ⟨_, hkd x, by rw [List.length_map, List.length_take]; exact szl' (by omega), rfl, hlt, ?_⟩
        rw [List.take_add_one, e, Option.toList_some, List.map_append]
        unfold dpu
        rw [if_neg]
        · rfl
        · rw [List.any_eq_true]
          rintro ⟨⟨k, v⟩, hm, hkv⟩
          have hkv := of_decide_eq_true hkv
          obtain ⟨x', hx', ex⟩ := List.mem_map.mp hm
          cases ex
          obtain ⟨j, hj⟩ := List.mem_iff_getElem?.mp hx'
          have hj2 : j < i := by
            have := (List.getElem?_eq_some_iff.mp hj).1
            rw [List.length_take] at this; omega
          rw [List.getElem?_take_of_lt hj2] at hj
          have n1 : (xs.map fk)[j]? = some (fk x') := by rw [List.getElem?_map, hj]; rfl
          have n2 : (xs.map fk)[i]? = some (fk x) := by rw [List.getElem?_map, e]; rfl
          have := (List.getElem?_inj (by rw [List.length_map]; omega) hn).mp (n1.trans ((congrArg some hkv).trans n2.symm))
          omega
  · rintro acc M' ⟨rfl, _, rfl⟩
    rw [List.length_map, List.take_length]; exact hq
/-- for, its state told -/
theorem dFor_inv {tb : TDS} {De : DEnds} (xs : List α) (mk : α → D) (I : Nat → DEnv → Mp → Prop) (hti : ∀ R, R (xs.map mk) M → ti ρ M R) (h0 : I 0 ρ M)
    (hs : ∀ (i : Nat) (x : α) (ρ : DEnv) (M : Mp), xs[i]? = some x → I i ρ M → g (mk x) ρ M fun ρ' M' => tb { De with nx := I (i + 1), ct := I (i + 1), bk := De.nx } ρ' M') (hd : ∀ ρ M, I xs.length ρ M → De.nx ρ M) : dFor ti g tb De ρ M := by
  unfold dFor
  refine hti _ ⟨I, h0, fun i d ρ M hi pv => ?_, fun ρ M h => hd ρ M (by rw [List.length_map] at h; exact h)⟩
  rw [List.getElem?_map] at hi
  cases e : xs[i]? with
  | none => rw [e] at hi; cases hi
  | some x => rw [e] at hi; cases hi; exact hs i x ρ M e pv
end
end DL


set_option Elab.async false
set_option linter.all false
set_option maxRecDepth 100000
set_option maxHeartbeats 1000000
/-! several except clauses, with names or without -/
namespace L2
open PySem PySem.Spec PyProof.Rows
abbrev HdM := Value × Option Nat × (Addr → Value → Option Addr → TS)
def wMix (K : PySem.W.Frag) (Wout : WX) (D : Ends) : List HdM → WX
  | [] => Wout
  | (c, none, ts) :: r => fun cls d σ H => ∃ b, PySem.W.exmOne K cls c = some b ∧ (b = true → ∀ a, H a = none → ts a cls d D σ H) ∧ (b = false → wMix K Wout D r cls d σ H)
  | (c, some i, ts) :: r => wAs K c i ts (wMix K Wout D r) D
inductive HdsM (X : Cx) : List ExceptHandler → List HdM → Prop
  | nil : HdsM X [] []
  | cons {x : Str} {c : Value} {ts : Addr → Value → Option Addr → TS} {b₀ : Stmt} {suite : List Stmt} {np pos' : Pos} {hds : List ExceptHandler} {l : List HdM} (hc : Names X x c)
      (hsu : ∀ (a : Addr) (oe : Obj) (cls : Value) (d : Option Addr) (pn : List (Addr × Obj)), Zc cls d oe → (∃ vs, oe.data = .fields vs) → PSs (X.suite a ((a, oe) :: pn)) (b₀ :: suite) (ts a cls d)) (r : HdsM X hds l) :
      HdsM X (.ExceptHandler (some (.Name x np)) none (b₀ :: suite) pos' :: hds) ((c, none, ts) :: l)
  | consAs {x n : Str} {i : Nat} {c : Value} {ts : Addr → Value → Option Addr → TS} {b₀ : Stmt} {suite : List Stmt} {np pos' : Pos} {hds : List ExceptHandler} {l : List HdM} (hN : X.N.Nodup) (hi : X.N[i]? = some n) (hln : X.env.kindOf n = some .local) (hc : Names X x c)
      (hsu : ∀ (a : Addr) (oe : Obj) (cls : Value) (d : Option Addr) (pn : List (Addr × Obj)), Zc cls d oe → (∃ vs, oe.data = .fields vs) → PSs (X.suite a ((a, oe) :: pn)) (b₀ :: suite) (ts a cls d)) (r : HdsM X hds l) :
      HdsM X (.ExceptHandler (some (.Name x np)) (some n) (b₀ :: suite) pos' :: hds) ((c, some i, ts) :: l)
section
variable {X : Cx} {body : List Stmt} {h₀ : ExceptHandler} {hds : List ExceptHandler} {l : List HdM} {pos : Pos} {tb : WX → TS} {Wout : WX}
theorem ps_try_mix (hs : X.stack = X.env :: X.outer) (hf : X.env.frame = some X.env.locals) (tk : Takes X Wout)
    (hb : ∀ (W : WX) (pn : List (Addr × Obj)) (xe : Value → Shared → Prop), Takes (X.tr pn xe) W → PassesOwn (model X.prog X.w) X.A X.env xe → PSs (X.tr pn xe) body (tb W))
    (hh : HdsM X (h₀ :: hds) l) : PS X (.Try body (h₀ :: hds) [] [] pos) (fun D σ H => tb (wMix X.K Wout D l) D σ H) := by
  refine ⟨fun pins s σ H D I h => ?_⟩
  have ok := I.ok
  have hfr : X.A.frames = some (X.env :: X.outer) := by rw [ok.frames, hs]
  refine wpAny_Try_except ?_
  refine wpAny_mono ((hb (wMix X.K Wout D l) (X.pn ++ pins) (fun e s₁ => wpAny (model X.prog X.w) X.A (noteFrame e X.env) (fun _ s₂ => wpAny (model X.prog X.w) X.A (setFlight e none) (fun _ s₃ =>
    wpAny (model X.prog X.w) X.A (handleBy e X.env (h₀ :: hds)) (SP X pins D) X.xe s₃) X.xe s₂) X.xe s₁) (fun u s' xx => ?_) PassesOwn.looking).run [] s σ H D (I.toTry _) h) (fun f s1 hsp => ?_) (fun e s1 he => he)
  · obtain ⟨a, B, sI, pins', σ', H', cls, d, rfl, J', nb, up, sky, na, os, ag, w⟩ := xx
    have J : Inv X pins σ' H' sI := J'.ofTry ok
    have sky' : Sky B (X.env :: X.outer) a (Zc cls d) X.env.locals s'.heap := by rw [← hs]; exact sky
    show wpAny (model X.prog X.w) X.A (noteFrame (.ref a) X.env) _ _ _
    refine Sky.land Zc.steady hfr hf sky' fun h3 fl3 up3 => ?_
    have J3 : Inv X pins σ' H' { s' with heap := h3 } := J.landed nb fl3.1 (up.trans up3) os ag
    obtain ⟨oe3, vs3, he3, hz3, hd3⟩ := fl3.there
    have notFr : ∀ {h : Heap} {o : Obj} {vs : Array Value}, h.FunFrames B (X.env :: X.outer) → h.get? a = some o → o.data = .fields vs → a ∉ frs (X.env :: X.outer) := fun {h o vs} ff e dd hm => by
      obtain ⟨_, o', e', hnf⟩ := ff.mem hm
      rw [e] at e'; cases e'
      exact hnf _ dd
    have nfr := notFr fl3.2.2.1 he3 hd3
    have nL : a ≠ X.env.locals := fun z => nfr (List.mem_filterMap.mpr ⟨X.env, List.mem_cons_self, by rw [hf, z]⟩)
    have nF : a ∉ X.fs := fun hm => by
      obtain ⟨e, he, q⟩ := List.mem_filterMap.mp hm
      exact nfr (List.mem_filterMap.mpr ⟨e, List.mem_cons_of_mem _ he, q⟩)
    have S3 := J3.suite he3 hd3 na nL nF
    have LT : PySem.W.Looks (model X.prog X.w) h3 (typeOf (.ref a)) cls := fun A Q E s k q => wpAny_typeOf_ref (k _ _ he3) (by rw [hz3.1]; exact q)
    have test : ∀ {x : Str} {c : Value} {np : Pos} {Q : Value → Shared → Prop} {E : Value → Shared → Prop}, Names X x c → Q c { s' with heap := h3 } → wpAny (model X.prog X.w) (X.A.mark (some (.ref a))) (eval (.Name x np) X.env) Q E { s' with heap := h3 } := fun {x c np Q E} hc q => by
      obtain ⟨hg, hdbg, hm | ⟨hm, hv, hnn⟩⟩ := hc
      · exact ld_glob (X := X.suite a ((a, oe3) :: (X.pn ++ pins))) S3 hg hm q hdbg
      · exact ld_blt (X := X.suite a ((a, oe3) :: (X.pn ++ pins))) S3 hg hm hv q hnn hdbg
    have go : ∀ {hds' : List ExceptHandler} {l' : List HdM}, HdsM X hds' l' → wMix X.K Wout D l' cls d σ' H' →
        wpAny (model X.prog X.w) X.A (handleBy (.ref a) X.env hds') (SP X pins D) X.xe { s' with heap := h3 } := by
      intro hds' l' hk
      induction hk with
      | nil =>
        intro w
        refine wpAny_handleBy_nil ?_
        obtain ⟨k1, k2, k3, oe, vs, T, oT, ts', he, hz, hd, h1, hr⟩ := id fl3
        unfold PySem.passOn
        refine wpAny_bind (wpAny_field he hd h1 ?_)
        rw [if_neg (show ¬ ((Value.ref T == Value.none) = true) from by simp)]
        have fin : wpAny (model X.prog X.w) X.A (setFlight (.ref a) X.env.frame) (fun _ s4 => wpAny (model X.prog X.w) X.A (throw (.ref a) : Sem Flow) (SP X pins D) X.xe s4) X.xe { s' with heap := h3 } := by
          rw [hf]
          refine HandSPX.setFlight_upZ fl3 fun h4 hh4 up4 => wpAny_throw (tk _ _ ?_)
          exact ⟨a, B, sI, pins, σ', H', cls, d, rfl, J, nb, (up.trans up3).trans up4, .inr (.inr (by rw [hs]; exact hh4)), na, os, ag, w⟩
        first
          | exact wpAny_bind (wpAny_pure (wpAny_bind fin))
          | exact wpAny_bind fin
      | @cons x c ts b₀ suite np pos' hds2 l2 hc hsu r ih =>
        intro w
        obtain ⟨b, hb1, hyes, hno⟩ := w
        refine wpAny_handleBy_cons (codeAny_handlers_test ?_) (by intro q; cases q)
        have LM := PySem.W.exm_one (M := model X.prog X.w) (J3.kIn) LT hb1
        refine test hc (LM.here ?_)
        cases b with
        | true =>
          refine codeAny_handlers_suite ?_
          refine HandSPX.lands_againZ fl3 fun h4 fl4 up4 => ?_
          have J4 : Inv X pins σ' H' { s' with heap := h4 } := J.landed nb fl4.1 ((up.trans up3).trans up4) os ag
          obtain ⟨oe4, vs4, he4, hz4, hd4⟩ := fl4.there
          have S4 := J4.suite he4 hd4 na nL nF
          refine wpAny_mono ((hsu a oe4 cls d (X.pn ++ pins) hz4 ⟨_, hd4⟩).run [] _ _ H' _ S4 (hyes rfl a na)) (fun f s6 hsp => ?_) (fun _ _ z => False.elim z)
          cases f with
          | next =>
            obtain ⟨σ6, H6, S6, q6⟩ := hsp
            exact ⟨_, _, S6.unsuite ok, q6⟩
          | brk =>
            obtain ⟨σ6, H6, S6, q6⟩ := hsp
            exact ⟨_, _, S6.unsuite ok, q6⟩
          | cont =>
            obtain ⟨σ6, H6, S6, q6⟩ := hsp
            exact ⟨_, _, S6.unsuite ok, q6⟩
          | ret u =>
            obtain ⟨v6, σ6, H6, S6, r6, q6⟩ := hsp
            exact ⟨_, _, _, S6.unsuite ok, r6, q6⟩
        | false =>
          show wpAny _ X.A (handleBy (.ref a) X.env hds2) _ _ _
          exact ih (hno rfl)
      | @consAs x n i c ts b₀ suite np pos' hds2 l2 hN hi hln hc hsu r ih =>
        intro w
        obtain ⟨b, hb1, hyes, hno⟩ := w
        have hloc : Loc X.env.scope n := .inl hln
        refine wpAny_handleBy_cons (codeAny_handlers_test ?_) (by intro q; cases q)
        have LM := PySem.W.exm_one (M := model X.prog X.w) (J3.kIn) LT hb1
        refine test hc (LM.here ?_)
        cases b with
        | true =>
          refine codeAny_handlers_suite_as ?_
          refine HandSPX.lands_againZ fl3 fun h4 fl4 up4 => ?_
          have J4 : Inv X pins σ' H' { s' with heap := h4 } := J.landed nb fl4.1 ((up.trans up3).trans up4) os ag
          obtain ⟨oe4, vs4, he4, hz4, hd4⟩ := fl4.there
          have S4 := J4.suite he4 hd4 na nL nF
          refine store_ok (X := X.suite a ((a, oe4) :: (X.pn ++ pins))) (v := .ref a) S4 hN hi hloc rfl (fun s5 S5 => ?_) (.inr hln)
          refine wpAny_mono ((hsu a oe4 cls d (X.pn ++ pins) hz4 ⟨_, hd4⟩).run [] s5 _ H' _ S5 (hyes rfl a na)) (fun f s6 hsp => ?_) (fun _ _ z => False.elim z)
          have end_ : ∀ {σ6 : St} {H6 : Hp} {Q : Shared → Prop}, Inv (X.suite a ((a, oe4) :: (X.pn ++ pins))) [] σ6 H6 s6 → (∀ s7, Inv X pins (σ6.set i none) H6 s7 → Q s7) →
              wpAny (model X.prog X.w) X.A (do bindName X.env n .none; unbindBehindTheSuite X.env n pos') (fun _ s7 => Q s7) X.xe s6 := fun {σ6 H6 Q} S6 hq => gone_ok (S6.unsuite ok) hN hi hln hq
          cases f with
          | next =>
            obtain ⟨σ6, H6, S6, q6⟩ := hsp
            exact end_ S6 fun s7 J7 => ⟨_, _, J7, q6⟩
          | brk =>
            obtain ⟨σ6, H6, S6, q6⟩ := hsp
            exact end_ S6 fun s7 J7 => ⟨_, _, J7, q6⟩
          | cont =>
            obtain ⟨σ6, H6, S6, q6⟩ := hsp
            exact end_ S6 fun s7 J7 => ⟨_, _, J7, q6⟩
          | ret u =>
            obtain ⟨v6, σ6, H6, S6, r6, q6⟩ := hsp
            exact end_ S6 fun s7 J7 => ⟨_, _, _, J7, r6, q6⟩
        | false =>
          show wpAny _ X.A (handleBy (.ref a) X.env hds2) _ _ _
          exact ih (hno rfl)
    exact go hh w
  · cases f with
    | next =>
      obtain ⟨σ', H', J', q⟩ := hsp
      exact wpAny_execs_nil ⟨σ', H', J'.ofTry ok, q⟩
    | brk =>
      obtain ⟨σ', H', J', q⟩ := hsp
      exact ⟨σ', H', J'.ofTry ok, q⟩
    | cont =>
      obtain ⟨σ', H', J', q⟩ := hsp
      exact ⟨σ', H', J'.ofTry ok, q⟩
    | ret u =>
      obtain ⟨v, σ', H', J', r, q⟩ := hsp
      exact ⟨v, σ', H', J'.ofTry ok, r, q⟩
end
end L2


set_option Elab.async false
set_option linter.all false
set_option maxRecDepth 100000
set_option maxHeartbeats 1000000
namespace DL
open PySem PySem.Spec PyProof.Rows L2
/-! ### trees of tuples: they may be taken up at any time -/
mutual
def ttD : D → Bool
  | .non | .bl _ | .int _ | .str _ => true
  | .tup xs => ttL xs
  | _ => false
def ttL : List D → Bool
  | [] => true
  | x :: xs => ttD x && ttL xs
end
section
variable {K : PySem.W.Frag} {F F0 : Hp} {M : Mp} {H : Hp}
theorem Step.tupF (h : HM K F M H) {p : Addr} {xs : List V} (e : H p = some (.tup xs)) (nF : F p = none) : Step K F M H (upd F p (.tup xs)) M H := by
  have hf : Fle F (upd F p (.tup xs)) := fun a u z => by rw [upd_ne (ne_of_none z nF)]; exact z
  refine ⟨hf, ⟨fun a u q => ?_, fun q u eq => ?_⟩, fun a u q _ => q, fun a u q => .inl (by rw [q]; exact fun z => nomatch z), fun a u q => ?_⟩
  · by_cases ha : a = p
    · subst ha; rw [upd_same] at q; cases q; exact .inl e
    · rw [upd_ne ha] at q; exact h.le a u q
  · obtain ⟨a1, a2⟩ := h.mo q u eq
    have qp : q ≠ p := fun z => by
      subst z
      cases u with
      | lst _ => obtain ⟨_, y, _⟩ := a2; rw [e] at y; cases y
      | dic _ => obtain ⟨_, y, _⟩ := a2; rw [e] at y; cases y
      | dit _ => obtain ⟨_, y, _⟩ := a2; rw [e] at y; cases y
      | ins _ _ => obtain ⟨_, _, y, _⟩ := a2; rw [e] at y; cases y
      | src _ => obtain ⟨_, _, _, _, _, y, _⟩ := a2; rw [e] at y; cases y
      | hid => obtain ⟨_, y⟩ := a2; rw [e] at y; cases y
    exact ⟨by rw [upd_ne qp]; exact a1, a2.mono hf (fun _ z => z) fun c _ => ⟨rfl, fun _ z => z⟩⟩
  · by_cases ha : a = p
    · exact .inr (.inr (.inr ⟨xs, by rw [ha]; exact e⟩))
    · rw [upd_ne ha] at q; exact .inl q
theorem Step.tupE (h : HM K F M H) {p : Addr} {xs : List V} (e : H p = some (.tup xs)) : ∃ F2, Step K F M H F2 M H ∧ F2 p = some (.tup xs) := by
  cases q : F p with
  | none => exact ⟨_, Step.tupF h e q, upd_same⟩
  | some o =>
    refine ⟨F, .refl h, ?_⟩
    rcases h.le p o q with z | ⟨_, _, z⟩
    · rw [e] at z; cases z; exact q
    · rw [e] at z; cases z
mutual
theorem tt_rp : ∀ {v : V} {d : D} {F : Hp}, Rp K F0 v d → ttD d = true → HM K F M H → Le F0 H → ∃ F2, Step K F M H F2 M H ∧ Rp K F2 v d
  | _, _, F, .non, _, h, _ => ⟨F, .refl h, .non⟩
  | _, _, F, .bl b, _, h, _ => ⟨F, .refl h, .bl b⟩
  | _, _, F, .int b, _, h, _ => ⟨F, .refl h, .int b⟩
  | _, _, F, .str b, _, h, _ => ⟨F, .refl h, .str b⟩
  | _, _, F, .tup e r, t, h, l => by
    simp only [ttD] at t
    obtain ⟨F1, s1, r1⟩ := tt_rpL r t h l
    obtain ⟨F2, s2, e2⟩ := Step.tupE s1.hm (l.at e (fun z => z))
    exact ⟨F2, s1.trans s2, .tup e2 (r1.mono s2.fle)⟩
  | _, _, _, .ty _, t, _, _ => by simp [ttD] at t
  | _, _, _, .ref _, t, _, _ => by simp [ttD] at t
  | _, _, _, .scr _, t, _, _ => by simp [ttD] at t
  | _, _, _, .lst _ _, t, _, _ => by simp [ttD] at t
  | _, _, _, .dic _ _, t, _, _ => by simp [ttD] at t
  | _, _, _, .dit _ _, t, _, _ => by simp [ttD] at t
  | _, _, _, .obj _ _, t, _, _ => by simp [ttD] at t
theorem tt_rpL : ∀ {v : List V} {d : List D} {F : Hp}, RpL K F0 v d → ttL d = true → HM K F M H → Le F0 H → ∃ F2, Step K F M H F2 M H ∧ RpL K F2 v d
  | _, _, F, .nil, _, h, _ => ⟨F, .refl h, .nil⟩
  | _, _, F, .cons a b, t, h, l => by
    simp only [ttL, Bool.and_eq_true] at t
    obtain ⟨F1, s1, r1⟩ := tt_rp a t.1 h l
    obtain ⟨F2, s2, r2⟩ := tt_rpL b t.2 s1.hm l
    exact ⟨F2, s1.trans s2, .cons (r1.mono s2.fle) r2⟩
end
end
def TtF (fs : List (Str × D)) : Prop := ∀ q ∈ fs, ttD q.2 = true
/-! ### try, several clauses -/
abbrev ET2 (F0 : Hp) (d : Option Addr) (xs : List (Str × V)) : L2.St → XK := fun _ _ _ H' => XAt H' d xs ∧ Le F0 H'
abbrev DHd := Value × Option Nat × (Addr → Addr → List (Str × D) → TDS)
def dMix (K : PySem.W.Frag) (Eo : DEnv → DXK) (D : DEnds) : List DHd → DEnv → DXK
  | [] => Eo
  | (c, none, u) :: r => fun ρ' C fs M' => match PySem.W.exmOne K (.ref C) c with
    | some true => u 0 C fs D ρ' M'
    | some false => dMix K Eo D r ρ' C fs M'
    | none => False
  | (c, some i, u) :: r => fun ρ' C fs M' => match PySem.W.exmOne K (.ref C) c with
    | some true => TtF fs ∧ ∀ a, M' a = none → u a C fs { nx := fun ρ2 M2 => D.nx (rset ρ2 i none) M2, rt := D.rt, bk := fun ρ2 M2 => D.bk (rset ρ2 i none) M2, ct := fun ρ2 M2 => D.ct (rset ρ2 i none) M2 } (rset ρ' i (some (.ref a))) M'
    | some false => dMix K Eo D r ρ' C fs M'
    | none => False
def dTryM (K : PySem.W.Frag) (t : (DEnv → DXK) → TDS) (hds : List DHd) (Eo : DEnv → DXK) : TDS := fun D ρ M => t (dMix K Eo D hds) D ρ M
inductive DHs (X : Cx) : List ExceptHandler → List DHd → Prop
  | nil : DHs X [] []
  | cons {x : Str} {c : Value} {u : TDS} {b₀ : Stmt} {suite : List Stmt} {np pos' : Pos} {hds : List ExceptHandler} {l : List DHd} (hc : Names X x c)
      (hsu : ∀ (a : Addr) (oe : Obj) (cls : Value) (d : Option Addr) (pn : List (Addr × Obj)), Zc cls d oe → (∃ vs, oe.data = .fields vs) → DSs (X.suite a ((a, oe) :: pn)) EN NX (b₀ :: suite) u) (r : DHs X hds l) :
      DHs X (.ExceptHandler (some (.Name x np)) none (b₀ :: suite) pos' :: hds) ((c, none, fun _ _ _ => u) :: l)
  | consAs {x n : Str} {i : Nat} {c : Value} {u : Addr → Addr → List (Str × D) → TDS} {b₀ : Stmt} {suite : List Stmt} {np pos' : Pos} {hds : List ExceptHandler} {l : List DHd} (hN : X.N.Nodup) (hi : X.N[i]? = some n) (hln : X.env.kindOf n = some .local) (hc : Names X x c)
      (hsu : ∀ (a C : Addr) (oe : Obj) (d : Option Addr) (xs : List (Str × V)) (ds : List (Str × D)) (F0 : Hp) (pn : List (Addr × Obj)), Zc (.ref C) d oe → (∃ vs, oe.data = .fields vs) → RpF X.K F0 xs ds → TtF ds → DSs (X.suite a ((a, oe) :: pn)) (ET2 F0 d xs) ET (b₀ :: suite) (u a C ds)) (r : DHs X hds l) :
      DHs X (.ExceptHandler (some (.Name x np)) (some n) (b₀ :: suite) pos' :: hds) ((c, some i, u) :: l)
section
variable {X : Cx} {E0 : L2.St → XK} {Ee : DEnv → DXK} {body : List Stmt} {h₀ : ExceptHandler} {hds : List ExceptHandler} {l : List DHd} {pos : Pos} {t : (DEnv → DXK) → TDS}
def loHd (X : Cx) : DHd → HdM
  | (c, none, u) => (c, none, fun _ _ _ => fun D0 σ H => lowS X.K EN NX (u 0 0 []) D0 σ H)
  | (c, some i, u) => (c, some i, fun a cls d => fun D0 σ H => ∃ C xs ds F0, cls = .ref C ∧ RpF X.K F0 xs ds ∧ TtF ds ∧ lowS X.K (ET2 F0 d xs) ET (u a C ds) D0 σ H)
theorem DHs.lo : ∀ {hds : List ExceptHandler} {l : List DHd}, DHs X hds l → HdsM X hds (l.map (loHd X))
  | _, _, .nil => .nil
  | _, _, .cons hc hsu r => .cons hc hsu r.lo
  | _, _, .consAs hN hi hln hc hsu r => .consAs hN hi hln hc (fun a oe cls d pn hz hd => ⟨fun pins s σ H D I ⟨C, xs, ds, F0, ec, rf, im, q⟩ => by subst ec; exact (hsu a C oe d xs ds F0 pn hz hd rf im).run pins s σ H D I q⟩) r.lo
theorem xd_stay {K : PySem.W.Frag} {F' F2 : Hp} {M' M2 : Mp} {H' H2 : Hp} {d : Option Addr} {xs : List (Str × V)} (s : HM K F' M' H') (xa : XAt H' d xs) (s2 : Step K F' M' H' F2 M2 H2) : XAt H2 d xs := by
  cases d with
  | none => exact xa
  | some dd =>
    have xa' : H' dd = some (.xd xs) := xa
    refine s2.frm dd _ xa' ?_
    cases q2 : M' dd with
    | none => rfl
    | some o =>
      have := (s.mo dd o q2).2
      cases o with
      | lst _ => obtain ⟨_, e, _⟩ := this; rw [xa'] at e; cases e
      | dic _ => obtain ⟨_, e, _⟩ := this; rw [xa'] at e; cases e
      | dit _ => obtain ⟨_, e, _⟩ := this; rw [xa'] at e; cases e
      | ins _ _ => obtain ⟨_, _, e, _⟩ := this; rw [xa'] at e; cases e
      | src _ => obtain ⟨_, _, _, _, _, e, _⟩ := this; rw [xa'] at e; cases e
      | hid => obtain ⟨_, e⟩ := this; rw [xa'] at e; cases e
theorem mix_low {σ' : L2.St} {F' : Hp} {M' : Mp} {H' : Hp} {ρ' : DEnv} {C : Addr} {d : Option Addr} {xs : List (Str × V)} {ds : List (Str × D)} {D : DEnds} {D0 : Ends} (s : HM X.K F' M' H') (en : RpE X.K F' σ' ρ') (xa : XAt H' d xs) (rf : RpF X.K F' xs ds) (k : Cn X.K F' M' H' D D0) (h0 : Ee ρ' C ds M' → E0 σ' (.ref C) d H') :
    ∀ {hds : List ExceptHandler} {l : List DHd}, DHs X hds l → dMix X.K Ee D l ρ' C ds M' → wMix X.K (fun cls d σ H => E0 σ cls d H) D0 (l.map (loHd X)) (.ref C) d σ' H'
  | _, _, .nil, q => h0 q
  | _, _, .cons (c := c) (u := u) hc hsu r, q => by
    simp only [dMix] at q
    cases e : PySem.W.exmOne X.K (.ref C) c with
    | none => rw [e] at q; exact q.elim
    | some b =>
      rw [e] at q
      cases b with
      | true => exact ⟨true, e, fun _ a _ => ⟨F', M', ρ', D, ⟨s, en, xc_no⟩, q, k⟩, fun z => nomatch z⟩
      | false => exact ⟨false, e, (fun z => nomatch z), fun _ => mix_low s en xa rf k h0 r q⟩
  | _, _, .consAs (c := c) (i := i) (u := u) hN hi hln hc hsu r, q => by
    simp only [dMix] at q
    cases e : PySem.W.exmOne X.K (.ref C) c with
    | none => rw [e] at q; exact q.elim
    | some b =>
      rw [e] at q
      cases b with
      | true =>
        obtain ⟨im, q1⟩ := q
        refine ⟨true, e, fun _ a ha => ?_, fun z => nomatch z⟩
        refine ⟨C, xs, ds, F', rfl, rf, im, F', M', _, _, ⟨s, en.set i (.ref a), fun F2 M2 H2 σ2 ρ2 C2 d2 xs2 ds2 s2 _ _ _ _ => ⟨xd_stay s xa s2, le_fle s2.fle s2.hm.le⟩⟩, q1 a (s.none ha).1, ?_⟩
        exact ⟨fun σ4 H4 F4 ρ4 M4 s4 e4 q4 => k.nx _ _ _ _ _ s4 (e4.unset i) q4, k.rt, fun σ4 H4 F4 ρ4 M4 s4 e4 q4 => k.bk _ _ _ _ _ s4 (e4.unset i) q4, fun σ4 H4 F4 ρ4 M4 s4 e4 q4 => k.ct _ _ _ _ _ s4 (e4.unset i) q4⟩
      | false => exact ⟨false, e, (fun z => nomatch z), fun _ => mix_low s en xa rf k h0 r q⟩
theorem ds_tryM (hs : X.stack = X.env :: X.outer) (hf : X.env.frame = some X.env.locals) (tk : Takes X fun cls d σ H => E0 σ cls d H)
    (hb : ∀ (W : WX) (Ee' : DEnv → DXK) (pn : List (Addr × Obj)) (xe : Value → Shared → Prop), Takes (X.tr pn xe) W → PassesOwn (model X.prog X.w) X.A X.env xe → DSs (X.tr pn xe) (WE W) Ee' body (t Ee'))
    (hh : DHs X (h₀ :: hds) l) : DS X E0 Ee (.Try body (h₀ :: hds) [] [] pos) (dTryM X.K t l Ee) := by
  refine PSimp (ps_try_mix (tb := fun W => fun D0 σ H => ∃ Ee', lowS X.K (WE W) Ee' (t Ee') D0 σ H) hs hf tk
    (fun W pn xe tk' po => ⟨fun pins s σ H D I ⟨Ee', q⟩ => (hb W Ee' pn xe tk' po).run pins s σ H D I q⟩) hh.lo) fun D0 σ H ⟨F, M, ρ, D, ss, q, k⟩ => ?_
  refine ⟨_, F, M, ρ, D, ⟨ss.hm, ss.env, ?_⟩, q, k⟩
  intro F' M' H' σ' ρ' C d xs ds s en xa rf hm
  exact mix_low s.hm en xa rf (k.step s) (fun z => ss.xc F' M' H' σ' ρ' C d xs ds s en xa rf z) hh hm
/-- e.f in such a suite -/
theorem de_xm {a C : Addr} {oe : Obj} {d : Option Addr} {xs : List (Str × V)} {ds : List (Str × D)} {F0 : Hp} {pn : List (Addr × Obj)} {e : Expr} {te : TDE} {f : Str} (hz : Zc (.ref C) d oe) (hd : ∃ vs, oe.data = .fields vs) (rf : RpF X.K F0 xs ds) (im : TtF ds)
    (he : DE (X.suite a ((a, oe) :: pn)) (ET2 F0 d xs) ET e te) (hb : attributeBase e f X.env (eval e X.env) = eval e X.env := by rfl) : DE (X.suite a ((a, oe) :: pn)) (ET2 F0 d xs) ET (.Attribute e f pos) (dXf X.K a C ds f te) := by
  refine ⟨fun pins s σ H Q I ⟨F1, M, ρ, Q1, ss, q, k⟩ => ?_⟩
  by_cases hh : XfC X.K C ∧ PySem.W.findIn X.K (.ref C) f = some none
  · refine (pe_xf (X := X) hh.1 hh.2 hz hd he hb).run pins s σ H Q I ⟨F1, M, ρ, _, ss, q, fun x H1 F2 dd M1 s1 r q1 => ?_⟩
    obtain ⟨rfl, _, v, hv, q2⟩ := q1
    cases r
    obtain ⟨u, hu, ru⟩ := rpF_look rf hv
    obtain ⟨p, hp, ep⟩ := lookup_memF hv
    have iv : ttD v = true := by rw [← ep]; exact im p hp
    obtain ⟨xa, le0⟩ : XAt H1 d xs ∧ Le F0 H1 := ss.xc F2 M1 H1 σ ρ C none [] [] s1 (ss.env.mono s1.fle) rfl .nil trivial
    obtain ⟨F3, s3, r3⟩ := tt_rp ru iv s1.hm le0
    cases d with
    | none =>
      have : xs = [] := xa
      subst this
      cases hu
    | some d0 => exact ⟨rfl, rfl, d0, xs, u, rfl, xa, hu, k _ _ _ _ _ (s1.trans s3) r3 q2⟩
  · exact attr_of hb (thn (he.run pins s σ H (fun _ _ => False) I ⟨F1, M, ρ, _, ss, q, fun x H1 F2 dd M1 s1 r q1 => hh q1.2.1⟩) fun u s1 h => by obtain ⟨_, _, _, _, z⟩ := h; exact z.elim)
end
end DL


set_option Elab.async false
set_option linter.all false
set_option maxRecDepth 100000
set_option maxHeartbeats 1000000
namespace DL
open PySem PySem.Spec PyProof.Rows L2
/-! ### the rule for a def, thought steps at its end -/
section
variable {P : Program} {w : World} {K : PySem.W.Frag} {mg : Str → Option Value} {base : Heap} {x qual : Str} {params : Arguments} {body : List Stmt} {scope : Scope} {dvs : List V} {kws : List (Str × V)} {f : Addr} {fd : FuncData}
theorem dfnG {N ps : List Str} {k : Nat} {sp : DSp} (F : FunD K x qual params body scope dvs kws f fd) (S : FnScope N ps scope) (len : ∀ ds M Q E, sp ds M Q E → ds.length = ps.length)
    (hbody : ∀ (cdv : Value) (A : Around) (outer : List Env) (s : Shared) (H : Hp) (E : XK) (Ed : DXK), Room k (A.deeper (envOfC qual scope s.heap.objs.size f cdv)) →
      ∃ t, DSs (cxOf (L2.CX P w) P w K mg base N qual scope f cdv A outer s H E) (fun _ => E) (fun _ C fs M' => ∃ M'', Sub M'' M' ∧ Ed C fs M'') body t ∧
        ∀ ds M Q, Sub M M → sp ds M Q Ed → t { nx := fun _ M' => ∃ M'', Gh K M' M'' ∧ Q .non M'', rt := fun d M' => ∃ M'', Gh K M' M'' ∧ Q d M'' } (dstart N.length ds) M) :
    FnOk P w K mg base (L2.CX P w) (k + 1) f fd ps (lift K sp) := by
  refine F.ok S (fun vs H Q E h => ?_) fun cdv A outer s H vs Q0 E hr h => ?_
  · obtain ⟨F, M, ds, Q, Ed, hm, r, q, _⟩ := h
    rw [r.length]; exact len _ _ _ _ q
  · obtain ⟨F, M, ds, Q, Ed, hm, r, q, kk, xk⟩ := h
    obtain ⟨t, ht, hq⟩ := hbody cdv A outer s H E Ed hr
    refine ⟨_, ht, F, M, _, _, ⟨hm, dstart_ok r, fun F' M' H' σ ρ C d xs dd s _ xa rf ⟨M'', sb, ed⟩ => xk F' M'' H' C d xs dd (s.drop sb) xa rf ed⟩, hq ds M Q hm.closed q, ?_⟩
    refine ⟨fun σ' H' F' ρ' M' s' _ ⟨M'', g, q'⟩ => ?_, fun v H' F' d M' s' r' ⟨M'', g, q'⟩ => ?_, fun _ _ _ _ _ _ _ z => z, fun _ _ _ _ _ _ _ z => z⟩
    · obtain ⟨F2, s2⟩ := g F' H' s'.hm
      exact kk _ _ _ _ _ (s'.trans s2) .non q'
    · obtain ⟨F2, s2⟩ := g F' H' s'.hm
      exact kk _ _ _ _ _ (s'.trans s2) (r'.mono s2.fle) q'
end
/-! ### frozen within a field -/
section
variable {K : PySem.W.Frag} {F : Hp} {M : Mp} {H : Hp}
/-- another word for what stands there -/
theorem Step.re (h : HM K F M H) {p : Addr} {old mo : MO} (e : M p = some old) (n : old ≠ .hid) (hk : MOk K F H (mset M p mo) p mo) : Step K F M H F (mset M p mo) H := by
  refine ⟨fun _ _ e => e, ⟨h.le, fun q u eq => ?_⟩, fun a u q _ => q, fun a u q => ?_, fun _ _ e => .inl e⟩
  · by_cases hq : q = p
    · subst hq; rw [mset_same] at eq; cases eq; exact ⟨(h.mo q old e).1, hk⟩
    · rw [mset_ne hq] at eq
      obtain ⟨a1, a2⟩ := h.mo q u eq
      refine ⟨a1, a2.mono (fun _ _ e => e) (fun _ z => z) fun c ec => ⟨?_, fun _ z => z⟩⟩
      subst ec
      refine mset_ne fun z => ?_
      have := a2.1
      rw [z, e] at this
      exact n (Option.some.inj this)
  · by_cases ha : a = p
    · exact .inl (by rw [ha, e]; exact fun z => nomatch z)
    · rw [mset_ne ha] at q; exact .inl (by rw [q]; exact fun z => nomatch z)
theorem RpF.sub {t : Addr} {d : D} (hr : ∀ v, Rp K F v (.ref t) → Rp K F v d) (f : Str) : ∀ {xs : List (Str × V)} {fs : List (Str × D)}, RpF K F xs fs → fs.lookup f = some (.ref t) → RpF K F xs (dputF f d fs)
  | _, _, .nil, h => nomatch (show (none : Option D) = _ from h)
  | _, _, .cons (k := g) (v := v) (d := d') (vs := vs) (ds := ds) a r, h => by
    unfold dputF
    have h' : (match f == g with | true => some d' | false => ds.lookup f) = some (.ref t) := h
    split
    · rename_i e
      subst e
      rw [show (g == g) = true from beq_self_eq_true g] at h'
      cases h'
      exact .cons (hr _ a) r
    · rename_i e
      rw [show (f == g) = false from beq_false_of_ne (Ne.symm e)] at h'
      exact .cons a (RpF.sub hr f r h')
def frzD : MO → Option D
  | .lst ds => some (.lst ds)
  | .dic ds => some (.dic ds)
  | .dit ds => some (.dit ds)
  | .ins C ds => some (.obj C ds)
  | _ => none
theorem Step.frzE (h : HM K F M H) {t : Addr} {mo : MO} {d : D} (et : M t = some mo) (ef : frzD mo = some d) : ∃ F', Step K F M H F' (mdel M t) H ∧ Rp K F' (.ref t) d := by
  have n : mo ≠ .hid := by intro z; subst z; cases ef
  cases mo with
  | lst ds => obtain ⟨xs, e, r⟩ := (h.mo t _ et).2; cases ef; have s := Step.frz h et n e; exact ⟨_, s, .lst upd_same (r.mono s.fle)⟩
  | dic ds => obtain ⟨xs, e, r⟩ := (h.mo t _ et).2; cases ef; have s := Step.frz h et n e; exact ⟨_, s, .dic upd_same (r.mono s.fle)⟩
  | dit ds => obtain ⟨xs, e, r⟩ := (h.mo t _ et).2; cases ef; have s := Step.frz h et n e; exact ⟨_, s, .dit upd_same (r.mono s.fle)⟩
  | ins C ds => obtain ⟨dx, xs, e, r⟩ := (h.mo t _ et).2; cases ef; have s := Step.frz h et n e; exact ⟨_, s, .obj upd_same (r.mono s.fle)⟩
  | src c => cases ef
  | hid => cases ef
/-- what an object's field leads to is never changed again -/
theorem Gh.fld {a t C : Addr} {fs : List (Str × D)} {f : Str} {mo : MO} {d : D} (ea : M a = some (.ins C fs)) (hf : fs.lookup f = some (.ref t)) (et : M t = some mo) (ef : frzD mo = some d) (ne : a ≠ t) : Gh K M (mset (mdel M t) a (.ins C (dputF f d fs))) := fun F H h => by
  obtain ⟨F', s, r⟩ := Step.frzE h et ef
  have ea' : mdel M t a = some (.ins C fs) := by rw [mdel_ne ne]; exact ea
  obtain ⟨dx, xs, e, rf⟩ := (s.hm.mo a _ ea').2
  have s2 := Step.re (mo := .ins C (dputF f d fs)) s.hm ea' (by intro z; cases z) ⟨dx, xs, e, RpF.sub (fun v hv => by cases hv; exact r) f rf hf⟩
  exact ⟨F', s.trans s2⟩
/-- a dict's entry likewise -/
theorem RpK.subE {t : Addr} {d : D} (hr : ∀ v, Rp K F v (.ref t) → Rp K F v d) : ∀ {xs : List (Key × V)} {l1 l2 : List (DK × D)} {k : DK}, RpK K F xs (l1 ++ (k, .ref t) :: l2) → RpK K F xs (l1 ++ (k, d) :: l2)
  | _, [], _, _, .cons a r => .cons (hr _ a) r
  | _, _ :: l1, _, _, .cons a r => .cons a (RpK.subE hr (l1 := l1) r)
theorem Gh.dic {a t : Addr} {l1 l2 : List (DK × D)} {k : DK} {mo : MO} {d : D} (ea : M a = some (.dic (l1 ++ (k, .ref t) :: l2))) (et : M t = some mo) (ef : frzD mo = some d) (ne : a ≠ t) : Gh K M (mset (mdel M t) a (.dic (l1 ++ (k, d) :: l2))) := fun F H h => by
  obtain ⟨F', s, r⟩ := Step.frzE h et ef
  have ea' : mdel M t a = some (.dic (l1 ++ (k, .ref t) :: l2)) := by rw [mdel_ne ne]; exact ea
  obtain ⟨xs, e, rf⟩ := (s.hm.mo a _ ea').2
  have s2 := Step.re (mo := .dic (l1 ++ (k, d) :: l2)) s.hm ea' (by intro z; cases z) ⟨xs, e, rf.subE (fun v hv => by cases hv; exact r)⟩
  exact ⟨F', s.trans s2⟩
theorem Gh.refl (M : Mp) : Gh K M M := fun F H h => ⟨F, .refl h⟩
end
/-! ### methods, classes -/
def Mt (P : Program) (w : World) (K : PySem.W.Frag) (mg : Str → Option Value) (base : Heap) (k : Nat) (ok : Addr → Prop) (m : Str) (ps : List Str) (sp : DSp) : Prop :=
  ∃ g fd, FnOk P w K mg base (L2.CX P w) k g fd ps (lift K sp) ∧ Binds K fd ps [] ∧ ∀ C, ok C → L2.Cls K C ∧ L2.Meth K C m g
def Nw (P : Program) (w : World) (K : PySem.W.Frag) (mg : Str → Option Value) (base : Heap) (k : Nat) (x : Str) (C : Addr) (ps : List Str) (sp : DSp) : Prop :=
  ∃ g fd, L2.Mk K C g ∧ FnOk P w K mg base (L2.CX P w) k g fd ps (lift K sp) ∧ Binds K fd ps [] ∧ mg x = some (.ref C)
section
variable {X : Cx} {E0 : L2.St → XK} {Ee : DEnv → DXK} {ok : Addr → Prop} {f m x : Str} {C : Addr} {k j : Nat} {ps : List Str} {sp : DSp} {e o a b : Expr} {es : List Expr} {te to ta tb : TDE} {tr : TDA} {p pos apos : Pos}
theorem cM {pl : Sem Bool} (F : Mt X.prog X.w X.K X.mg X.base j ok m ps sp) (hr : Room k X.A) (hj : j ≤ k) (hx : ∀ σ, PassesAt (L2.CX X.prog X.w) X σ (E0 σ)) (ho : DE X E0 Ee o to) (ha : DA X E0 Ee (e :: es) tr)
    (hst : starEach (e :: es) X.env = (false, eval e X.env) :: starEach es X.env := by rfl) (hpl : (backTo pos (starEach es X.env)).any (·.1) = false := by rfl)
    (ht : eval (.Call (.Attribute o m apos) (e :: es) [] pos) X.env = (do
      let ov ← eval o X.env
      standAt apos.atName
      let (f, first) ← holding [ov] (getMethod ov m pl)
      callWith pos f first (backTo pos (starEach (e :: es) X.env)) (backToKw pos (keywordEach [] X.env))) := by rfl) : DE X E0 Ee (.Call (.Attribute o m apos) (e :: es) [] pos) (dMeth ok m sp Ee to tr) := by
  obtain ⟨g, fd, F, hb, hC⟩ := F
  exact de_meth (pl := pl) hC F (hr.mono hj) hb hx ho ha hst hpl ht
theorem cM0 {pl : Sem Bool} (F : Mt X.prog X.w X.K X.mg X.base j ok m ps sp) (hr : Room k X.A) (hj : j ≤ k) (hx : ∀ σ, PassesAt (L2.CX X.prog X.w) X σ (E0 σ)) (ho : DE X E0 Ee o to)
    (ht : eval (.Call (.Attribute o m apos) [] [] pos) X.env = (do
      let ov ← eval o X.env
      standAt apos.atName
      let (f, first) ← holding [ov] (getMethod ov m pl)
      callWith pos f first (backTo pos (starEach [] X.env)) (backToKw pos (keywordEach [] X.env))) := by rfl) : DE X E0 Ee (.Call (.Attribute o m apos) [] [] pos) (dMeth ok m sp Ee to dNil) := by
  obtain ⟨g, fd, F, hb, hC⟩ := F
  exact de_meth0 (pl := pl) hC F (hr.mono hj) hb hx ho ht
theorem cN (F : Nw X.prog X.w X.K X.mg X.base j x C ps sp) (hr : Room k X.A) (hj : j + 1 ≤ k) (hg : Gl X x) (hx : ∀ σ, PassesAt (L2.CX X.prog X.w) X σ (E0 σ))
    (ha : DA X E0 Ee (e :: es) tr) (hdb : (x == ("__debug__" : Str)) = false := by decide) (he : starEach (e :: es) X.env = (false, eval e X.env) :: starEach es X.env := by rfl) (hpl : (backTo pos (starEach es X.env)).any (·.1) = false := by rfl) :
    DE X E0 Ee (.Call (.Name x p) (e :: es) [] pos) (dMake C (fun ds M Q E => sp ds M (fun d M' => d = .non ∧ Q d M') E) Ee tr) := by
  obtain ⟨g, fd, Mk, F, hb, hm⟩ := F
  exact de_make Mk F (hr.mono hj) hg hm hb hx ha hdb he hpl
theorem cIn (F : Mt X.prog X.w X.K X.mg X.base j ok "__contains__" ps sp) (hr : Room k X.A) (hj : j ≤ k) (ha : DE X E0 Ee a ta) (hb : DE X E0 Ee b tb) (hm : behindInMarks .In b = false := by rfl) :
    DE X E0 Ee (.Compare a [.In] [b] pos) (dInOwn ok sp false ta tb) := by
  obtain ⟨g, fd, F, hbd, hC⟩ := F
  exact de_inOwn (fun C h => ⟨(hC C h).2.at_, (hC C h).2.fn⟩) F (hr.mono hj) hbd ha hb hm
theorem cNIn (F : Mt X.prog X.w X.K X.mg X.base j ok "__contains__" ps sp) (hr : Room k X.A) (hj : j ≤ k) (ha : DE X E0 Ee a ta) (hb : DE X E0 Ee b tb) (hm : behindInMarks .NotIn b = false := by rfl) :
    DE X E0 Ee (.Compare a [.NotIn] [b] pos) (dInOwn ok sp true ta tb) := by
  obtain ⟨g, fd, F, hbd, hC⟩ := F
  exact de_notInOwn (fun C h => ⟨(hC C h).2.at_, (hC C h).2.fn⟩) F (hr.mono hj) hbd ha hb hm
theorem cLen (F : Mt X.prog X.w X.K X.mg X.base j ok "__len__" ps sp) (hr : Room k X.A) (hj : j + 1 ≤ k) (hg : Gl X "len") (hm : X.mg "len" = none) (ha : DE X E0 Ee a ta)
    (h1 : starEach [a] X.env = (false, eval a X.env) :: starEach [] X.env := by rfl) (hpl : (backTo pos (starEach [] X.env)).any (·.1) = false := by rfl) : DE X E0 Ee (.Call (.Name "len" p) [a] [] pos) (dLenOwn ok sp ta) := by
  obtain ⟨g, fd, F, hbd, hC⟩ := F
  exact de_lenOwn (fun C h => ⟨(hC C h).2.at_, (hC C h).2.fn⟩) F (hr.mono hj) hbd hg hm ha h1 hpl
theorem cEq (F : Mt X.prog X.w X.K X.mg X.base j ok "__eq__" ps sp) (hn : ∀ C C', ok C → ok C' → PySem.W.notFirst X.K C (.ref C') = true) (hr : Room k X.A) (hj : j ≤ k) (ha : DE X E0 Ee a ta) (hb : DE X E0 Ee b tb) : DE X E0 Ee (.Compare a [.Eq] [b] pos) (dEqOwn ok sp ta tb) := by
  obtain ⟨g, fd, F, hbd, hC⟩ := F
  exact de_eqOwn (fun C h => ⟨(hC C h).2.at_, (hC C h).2.fn⟩) hn F (hr.mono hj) hbd ha hb
/-! tests: an own method's answer that is a bool -/
theorem dt_of (h : DE X E0 Ee e te) (he : ∀ whole, isTrue e X.env whole = (do let v ← whole; standAt e.pos; holding [v] (truthy v)) := by intro _; rfl) : DT X E0 Ee e (dTest te) := dt_val h he
end
/-! ### isinstance(x, C), C a class of the program -/
/-- what the library asks of an instance's type -/
structure TyIns (K : PySem.W.Frag) (C : Addr) : Prop where
  cls : L2.Cls K C
  ha : PySem.W.findIn K (.ref C) "__class__" = some (some (.builtin "object.__class__"))
  hn : PySem.W.specialIn K (.builtin "object.__class__") "__get__" = some (some (.builtin "getset_descriptor.__get__"))
  htk : PySem.W.takesIn K (.builtin "object.__class__") = some true
  hm : PySem.W.mroIn K C (.type "object") = some true
def tyInsB (K : PySem.W.Frag) (C : Addr) : Bool := insB K C && (He.eqO (PySem.W.findIn K (.ref C) "__class__") (some (some (.builtin "object.__class__"))) && (He.eqO (PySem.W.specialIn K (.builtin "object.__class__") "__get__") (some (some (.builtin "getset_descriptor.__get__"))) &&
  (decide (PySem.W.takesIn K (.builtin "object.__class__") = some true) && decide (PySem.W.mroIn K C (.type "object") = some true))))
theorem tyInsB_ok {K : PySem.W.Frag} {C : Addr} (h : tyInsB K C = true) : TyIns K C := by
  obtain ⟨h1, h⟩ := He.ba h
  obtain ⟨h2, h⟩ := He.ba h
  obtain ⟨h3, h⟩ := He.ba h
  obtain ⟨h4, h5⟩ := He.ba h
  exact ⟨insB_ok h1, He.eqO_ok h2, He.eqO_ok h3, of_decide_eq_true h4, of_decide_eq_true h5⟩
def dIsiO (K : PySem.W.Frag) (C : Addr) (te : TDE) : TDE := fun ρ M Q => te ρ M fun x M1 =>
  (∃ C' fs b, vw M1 x = .obj C' fs ∧ TyIns K C' ∧ PySem.W.kitOne K (.ref C') (.ref C) = some b ∧ Q (.bl b) M1) ∨ ∃ t b, tyN (vw M1 x) = some t ∧ PySem.W.kitOne K (.type t.s) (.ref C) = some b ∧ Q (.bl b) M1
section
variable {X : Cx} {E0 : L2.St → XK} {Ee : DEnv → DXK} {e : Expr} {te : TDE} {p p2 pos : Pos} {y : Str} {C : Addr}
theorem de_isiO (hg : Gl X "isinstance") (hm : X.mg "isinstance" = none) (hy : Gl X y) (hmy : X.mg y = some (.ref C)) (he : DE X E0 Ee e te) (hdb : (y == ("__debug__" : Str)) = false := by decide)
    (h1 : starEach [e, .Name y p2] X.env = (false, eval e X.env) :: starEach [.Name y p2] X.env := by rfl) (h2 : starEach [Expr.Name y p2] X.env = (false, eval (Expr.Name y p2) X.env) :: starEach [] X.env := by rfl) (hpl : (backTo pos (starEach [Expr.Name y p2] X.env)).any (·.1) = false := by rfl) :
    DE X E0 Ee (.Call (.Name "isinstance" p) [e, .Name y p2] [] pos) (dIsiO X.K C te) := by
  have ty : PE X (.Name y p2) (tC (.ref C)) := pe_glob hy hmy rfl hdb
  refine PEimp (pe_callB call_isi hg hm boot_isinstance (pa_cons he (pa_cons ty pa_nil h2) h1) (by decide) (by decide) h1 hpl) fun σ H Q0 ⟨F, M, ρ, Q, ss, q, k⟩ => ?_
  refine ⟨F, M, ρ, _, ss, q, fun x H1 F1 d M1 s1 r q1 => ?_⟩
  have c := Ct.vw s1.hm r
  rcases q1 with ⟨C', fs, b, hv, T, ek, q1⟩ | ⟨t, b, et, ek, q1⟩
  · rw [hv] at c
    obtain ⟨a, dx, xs, rfl, ea, rf⟩ := c
    exact ⟨_, _, _, _, b, rfl, .own C, .base (.ins ea T.cls T.ha T.hn T.htk T.hm), ek, k _ _ _ _ _ s1 (.bl _) q1⟩
  · exact ⟨_, _, _, _, b, rfl, .own C, tyN_ok c et, ek, k _ _ _ _ _ s1 (.bl _) q1⟩
end
end DL


set_option Elab.async false
set_option linter.all false
set_option maxRecDepth 100000
set_option maxHeartbeats 1000000
namespace DL
open PySem PySem.Spec PyProof.Rows L2
/-! ### own exceptions of any fields -/
/-- what a field takes: anything, or (true) a tuple -/
def okX (b : Bool) (y : V) (H : Hp) : Prop := b = true → ∃ p ys, y = .ref p ∧ H p = some (.tup ys)
def FX (X : Cx) (st : Stmt) (j : Nat) (fl : Str) (b : Bool) : Prop := ∃ te, PS X st (tXst X.K fl (tVar 0) te) ∧ ∀ (σ : L2.St) (y : V) (H : Hp) (G : VK), σ[j]? = some (some y) → okX b y H → G y H → te σ H G
inductive FXs (X : Cx) : List Stmt → Nat → List (Str × Bool) → Prop
  | nil (j : Nat) : FXs X [] j []
  | cons {st : Stmt} {sts : List Stmt} {j : Nat} {fl : Str} {b : Bool} {fls : List (Str × Bool)} (h : FX X st j fl b) (r : FXs X sts (j + 1) fls) : FXs X (st :: sts) j ((fl, b) :: fls)
section
variable {X : Cx} {fl self x : Str} {j : Nat} {pa pb pc pd pe pt : Pos}
theorem fx_var (hs : X.N[0]? = some self) (hsv : Vis X.env.scope self) (hx : X.N[j]? = some x) (hxv : Vis X.env.scope x) (ds1 : (self == ("__debug__" : Str)) = false) (ds2 : (self == ("__classdict__" : Str)) = false) (dx1 : (x == ("__debug__" : Str)) = false) (dx2 : (x == ("__classdict__" : Str)) = false)
    (hsw : swapsWith (.Name x pc) (some (.Attribute (.Name self pa) fl pb)) pd.line X.env = pure false) : FX X (.Assign [.Attribute (.Name self pa) fl pb] (.Name x pc) pd) j fl false :=
  ⟨tVar j, ps_xst (pe_var hs hsv ds1 ds2) (pe_var hx hxv dx1 dx2) hsw, fun σ y H G e _ g => ⟨y, e, g⟩⟩
theorem fx_tup (hs : X.N[0]? = some self) (hsv : Vis X.env.scope self) (hx : X.N[j]? = some x) (hxv : Vis X.env.scope x) (ds1 : (self == ("__debug__" : Str)) = false) (ds2 : (self == ("__classdict__" : Str)) = false) (dx1 : (x == ("__debug__" : Str)) = false) (dx2 : (x == ("__classdict__" : Str)) = false)
    (hg : Gl X "tuple") (hm : X.mg "tuple" = none) (hsw : swapsWith (.Call (.Name "tuple" pe) [.Name x pc] [] pt) (some (.Attribute (.Name self pa) fl pb)) pd.line X.env = pure false)
    (h1 : starEach [Expr.Name x pc] X.env = (false, eval (Expr.Name x pc) X.env) :: starEach [] X.env) (hpl : (backTo pt (starEach [] X.env)).any (·.1) = false) :
    FX X (.Assign [.Attribute (.Name self pa) fl pb] (.Call (.Name "tuple" pe) [.Name x pc] [] pt) pd) j fl true := by
  refine ⟨_, ps_xst (pe_var hs hsv ds1 ds2) (pe_callTy call_tuple_of hg hm (by decide +kernel) (pa_cons (pe_var hx hxv dx1 dx2) pa_nil h1) (by decide) (by decide) h1 hpl) hsw, fun σ y H G e ok g => ?_⟩
  obtain ⟨p, ys, rfl, hp⟩ := ok rfl
  exact ⟨_, e, p, ys, rfl, .inr ⟨SqT.of hp, g⟩⟩
end
def exF (fls : List (Str × Bool)) (xs : List V) : List (Str × V) := ((fls.map (·.1)).zip xs).reverse
def spN (C : Addr) (fls : List (Str × Bool)) (okv : V → Prop) : Sp := fun vs H Q _ => ∃ a x xs, vs = .ref a :: x :: xs ∧ (x :: xs).length = fls.length ∧ H a = some (exo a C none) ∧ okv x ∧ (∀ (j : Nat) f b y, fls[j]? = some (f, b) → (x :: xs)[j]? = some y → okX b y H) ∧
  ∀ dx, H dx = none → dx ≠ a → Q .non (upd (upd H dx (exd dx (exF fls (x :: xs)))) a (exo a C (some dx)))
section
variable {CX : CXT} {P : Program} {w : World} {K : PySem.W.Frag} {mg : Str → Option Value} {base : Heap} {N ps : List Str} {qual name : Str} {scope : Scope} {f cda cc C : Addr} {B newId initId : String} {bmB : List Value} {params : Arguments} {fd : FuncData} {p0 p1 p2 p3 p4 : Pos}
theorem upd_swap {H : Hp} {a d : Addr} {o1 o2 o3 : HO} (ne : d ≠ a) : upd (upd (upd H d o1) a o2) d o3 = upd (upd H d o3) a o2 := by
  funext b
  by_cases h1 : b = d
  · subst h1; rw [upd_same, upd_ne ne, upd_same]
  · rw [upd_ne h1]
    by_cases h2 : b = a
    · subst h2; rw [upd_same, upd_same]
    · rw [upd_ne h2, upd_ne h1, upd_ne h2, upd_ne h1]
theorem okX.stay {b : Bool} {y : V} {H : Hp} {a d C : Addr} {u : Option Addr} {o : HO} (h : okX b y H) (ha : ∃ u, H a = some (exo a C u)) (hd : H d = none) : okX b y (upd (upd H d o) a (exo a C u)) := fun e => by
  obtain ⟨p, ys, rfl, hp⟩ := h e
  obtain ⟨u', ha⟩ := ha
  exact ⟨p, ys, rfl, by rw [upd_ne (fun z => by subst z; rw [ha] at hp; cases hp), upd_ne (fun z => by subst z; rw [hd] at hp; cases hp)]; exact hp⟩
theorem fx_run {X : Cx} (T : XCls X.K C B newId initId bmB) :
    ∀ {sts : List Stmt} {j : Nat} {fls : List (Str × Bool)}, FXs X sts j fls → (∀ p ∈ fls, PySem.W.findIn X.K (.ref C) p.1 = some none) →
      ∃ t, PSs X sts t ∧ ∀ (D : Ends) (σ : L2.St) (a dx : Addr) (H : Hp) (vs : List V) (fs : List (Str × V)), H a = some (exo a C none) → H dx = none → dx ≠ a → σ[0]? = some (some (.ref a)) →
        fs.length + fls.length ≤ 900 → vs.length = fls.length → (∀ i y, vs[i]? = some y → σ[j + i]? = some (some y)) → (∀ (i : Nat) f b y, fls[i]? = some (f, b) → vs[i]? = some y → okX b y H) →
        D.nx σ (upd (upd H dx (exd dx (exF fls vs ++ fs))) a (exo a C (some dx))) → t D σ (upd (upd H dx (exd dx fs)) a (exo a C (some dx)))
  | _, j, _, .nil _, _ => ⟨_, pss_nil, fun D σ a dx H vs fs _ _ _ _ _ hl _ _ q => by
      have : vs = [] := List.length_eq_zero_iff.mp hl
      subst this
      exact q⟩
  | _, j, _, .cons (fl := fl) (b := b) (fls := fls) h r, hno => by
    obtain ⟨te, h1, h2⟩ := h
    obtain ⟨t, ht, hq⟩ := fx_run T r fun p hp => hno p (List.mem_cons_of_mem _ hp)
    refine ⟨_, pss_cons h1 ht, fun D σ a dx H vs fs ha hdx ne h0 hz hl hv hok q => ?_⟩
    cases vs with
    | nil => cases hl
    | cons y vs =>
      refine h2 σ y _ _ (hv 0 y rfl) ((hok 0 fl b y rfl rfl).stay ⟨_, ha⟩ hdx) ⟨.ref a, h0, a, C, rfl, ⟨_, _, _, _, T⟩, hno _ List.mem_cons_self, .inr ⟨dx, fs, upd_same, by rw [upd_ne ne, upd_same], by simp only [List.length_cons] at hz; omega, ?_⟩⟩
      show t D σ _
      rw [upd_swap ne]
      refine hq D σ a dx H vs ((fl, y) :: fs) ha hdx ne h0 (by simp only [List.length_cons] at hz ⊢; omega) (by simpa using hl) (fun i y' e => by rw [show j + 1 + i = j + (i + 1) by omega]; exact hv (i + 1) y' e) (fun i f b y' e e' => hok (i + 1) f b y' e e') ?_
      have e : exF fls vs ++ (fl, y) :: fs = exF ((fl, b) :: fls) (y :: vs) ++ fs := by simp [exF]
      rw [e]; exact q
theorem fn_SN {ar : Arg} {pl : Sem Bool} {fl : Str} {b : Bool} {fls : List (Str × Bool)} {okv : V → Prop} {e : Expr} {sts : List Stmt} (T : XCls K C B newId initId bmB) (Y : XIni P K C f initId name qual params (.Expr (.Call (.Attribute (.Call (.Name "super" p0) [] [] p1) "__init__" p2) [e] [] p3) p4 :: sts) scope cda cc fd) (S : FnScopeX N ps scope)
    (har : (params.posonlyargs ++ params.args).head? = some ar) (hN : N[0]? = some ar.arg) (hka : scope.names.lookup ar.arg = some .local) (hsm : mg "super" = none) (hp : ps.length = ((fl, b) :: fls).length + 1) (hno : ∀ p ∈ (fl, b) :: fls, PySem.W.findIn K (.ref C) p.1 = some none) (hNl : N.length = ps.length) (hz : fls.length ≤ 800)
    (hf : ∀ (A : Around) (outer : List Env) (s : Shared) (H : Hp) (E : XK), FXs (cxX CX P w K mg base N qual scope f cda cc A outer s H E) sts 1 ((fl, b) :: fls))
    (he : ∀ (A : Around) (outer : List Env) (s : Shared) (H : Hp) (E : XK), ∃ te, PE (cxX CX P w K mg base N qual scope f cda cc A outer s H E) e te ∧ ∀ (σ : L2.St) (y : V) (H : Hp) (G : Hp → Prop), σ[1]? = some (some y) → okv y → G H → te σ H fun _ H2 => G H2)
    (hev : ∀ L, eval (.Call (.Attribute (.Call (.Name "super" p0) [] [] p1) "__init__" p2) [e] [] p3) (PySem.W.ksEnv qual scope L f (.ref cda) cc) = (do
      let ov ← attributeBase (.Call (.Name "super" p0) [] [] p1) "__init__" (PySem.W.ksEnv qual scope L f (.ref cda) cc) (eval (.Call (.Name "super" p0) [] [] p1) (PySem.W.ksEnv qual scope L f (.ref cda) cc))
      standAt p2.atName
      let (fx, first) ← holding [ov] (getMethod ov "__init__" pl)
      callWith p3 fx first (backTo p3 (starEach [e] (PySem.W.ksEnv qual scope L f (.ref cda) cc))) []))
    (hst : ∀ L, starEach [e] (PySem.W.ksEnv qual scope L f (.ref cda) cc) = (false, eval e (PySem.W.ksEnv qual scope L f (.ref cda) cc)) :: starEach [] (PySem.W.ksEnv qual scope L f (.ref cda) cc) := by intro _; rfl)
    (hs : ∀ L, swapsWith (.Call (.Attribute (.Call (.Name "super" p0) [] [] p1) "__init__" p2) [e] [] p3) none p4.line (PySem.W.ksEnv qual scope L f (.ref cda) cc) = pure false := by intro _; rfl)
    (hi : ∀ L, interactive (PySem.W.ksEnv qual scope L f (.ref cda) cc) = false := by intro _; rfl) : FnOk P w K mg base CX 1 f fd ps (spN C ((fl, b) :: fls) okv) := by
  refine fn_ofX T Y S har hN hka hsm (fun vs H Q E h => by obtain ⟨a, x, xs, rfl, hl, _⟩ := h; rw [hp, List.length_cons, hl]) hev (fun A outer s H vs Q E hr h => ?_) (hs := hs) (hst := hst) (hi := hi)
  obtain ⟨a, y, xs, rfl, hl, ha, hy, hok, q⟩ := h
  obtain ⟨te, h1, h2⟩ := he A outer s H E
  have st : L2.start N (V.ref a :: y :: xs) = some (.ref a) :: some y :: xs.map some := by
    unfold L2.start
    have : N.length - (V.ref a :: y :: xs).length = 0 := by rw [hNl, hp]; simp only [List.length_cons] at hl ⊢; omega
    rw [this]; simp
  have hfx := hf A outer s H E
  generalize hX : cxX CX P w K mg base N qual scope f cda cc A outer s H E = X at hfx h1
  have hK : X.K = K := by rw [← hX]; rfl
  cases hfx with
  | cons h r =>
    obtain ⟨te1, g1, g2⟩ := h
    obtain ⟨t2, ht, hq⟩ := fx_run (X := X) (C := C) (by rw [hK]; exact T) r fun p hp => by rw [hK]; exact hno p (List.mem_cons_of_mem _ hp)
    refine ⟨a, te, _, h1, pss_cons g1 ht, by rw [st]; rfl, ha, fun G hG => ?_⟩
    refine h2 _ y H G (by rw [st]; rfl) hy (hG H ha ?_)
    rw [st]
    refine g2 _ y H _ rfl (hok 0 fl b y rfl rfl) ⟨.ref a, rfl, a, C, rfl, by rw [hK]; exact ⟨_, _, _, _, T⟩, by rw [hK]; exact hno _ List.mem_cons_self, .inl ⟨ha, fun dx hdx ne => ?_⟩⟩
    refine hq _ _ a dx H xs [(fl, y)] ha hdx ne rfl (by simp only [List.length_cons, List.length_nil]; omega) (by simpa using hl) (fun i y' e => ?_) (fun i f b y' e e' => hok (i + 1) f b y' e e') ?_
    · rw [show 1 + 1 + i = i + 2 by omega]
      show (xs.map some)[i]? = _
      rw [List.getElem?_map, e]; rfl
    · have e : exF fls xs ++ [(fl, y)] = exF ((fl, b) :: fls) (y :: xs) := by simp [exF]
      rw [e]; exact q dx hdx ne
end
/-! at the level of data -/
def exD (fls : List (Str × Bool)) (ds : List D) : List (Str × D) := ((fls.map (·.1)).zip ds).reverse
def okXD (b : Bool) (d : D) : Prop := b = true → ∃ ys, d = .tup ys
def dXN (fls : List (Str × Bool)) (ok : D → Prop) (tr : TDA) : TDX := fun ρ M Q => tr ρ M fun ds M1 => ds.length = fls.length ∧ (∃ d r, ds = d :: r ∧ ok d) ∧ (∀ (j : Nat) f b y, fls[j]? = some (f, b) → ds[j]? = some y → okXD b y) ∧ Q (exD fls ds) M1
theorem rpF_zip {K : PySem.W.Frag} {F : Hp} : ∀ {ns : List Str} {xs : List V} {ds : List D} {fs : List (Str × V)} {es : List (Str × D)}, RpL K F xs ds → RpF K F fs es → RpF K F ((ns.zip xs).reverse ++ fs) ((ns.zip ds).reverse ++ es)
  | [], _, _, _, _, _, r => by simpa using r
  | _ :: _, _, _, _, _, .nil, r => by simpa using r
  | n :: ns, x :: xs, d :: ds, _, _, .cons a t, r => by
    have := rpF_zip (ns := ns) t (.cons (k := n) a r)
    simpa using this
theorem rpF_exF {K : PySem.W.Frag} {F : Hp} {fls : List (Str × Bool)} {xs : List V} {ds : List D} (r : RpL K F xs ds) : RpF K F (exF fls xs) (exD fls ds) := by
  have := rpF_zip (ns := fls.map (·.1)) r (.nil (K := K) (F := F))
  simpa [exF, exD] using this
def EXN (P : Program) (w : World) (K : PySem.W.Frag) (mg : Str → Option Value) (base : Heap) (x : Str) (C : Addr) (fls : List (Str × Bool)) (okv : V → Prop) : Prop := ∃ B nw ii bm fI fd ps, XCls K C B nw ii bm ∧ PySem.W.findIn K (.ref C) "__init__" = some (some (.ref fI)) ∧ PySem.W.typeIn K (.ref fI) = some (.type "function") ∧
  FnOk P w K mg base (L2.CX P w) 1 fI fd ps (spN C fls okv) ∧ Binds K fd ps [] ∧ mg x = some (.ref C)
section
variable {X : Cx} {E0 : L2.St → XK} {Ee : DEnv → DXK} {x : Str} {C fI : Addr} {k : Nat} {fd : FuncData} {ps : List Str} {e : Expr} {es : List Expr} {tr : TDA} {p pos pos2 : Pos} {B newId initId : String} {bmB : List Value}
theorem dx_SN {fls : List (Str × Bool)} {okV : V → Prop} {ok : D → Prop} (hz : fls.length ≤ 900) (T : XCls X.K C B newId initId bmB) (iC : PySem.W.findIn X.K (.ref C) "__init__" = some (some (.ref fI))) (tI : PySem.W.typeIn X.K (.ref fI) = some (.type "function"))
    (F1 : FnOk X.prog X.w X.K X.mg X.base (L2.CX X.prog X.w) 1 fI fd ps (spN C fls okV)) (hok : ∀ F v d, Rp X.K F v d → ok d → okV v) (hr : Room k X.A) (hk : 2 ≤ k) (hb : Binds X.K fd ps []) (hg : Gl X x) (hm : X.mg x = some (.ref C)) (ha : DA X E0 Ee (e :: es) tr)
    (h1 : starEach (e :: es) X.env = (false, eval e X.env) :: starEach es X.env := by rfl) (hdb : (x == ("__debug__" : Str)) = false := by decide) (hpl : (backTo pos (starEach es X.env)).any (·.1) = false := by rfl) : DX X E0 Ee C (.Call (.Name x p) (e :: es) [] pos) (dXN fls ok tr) :=
  PMimp (pmkX T iC tI F1 (hr.mono hk) hb (fun _ _ _ _ _ _ _ c => by obtain ⟨_, _, _, _, _, _, _, _, _, _, _, _, z⟩ := c; exact z.elim) hg hm ha hdb h1 hpl) fun σ H Q ⟨F, M, ρ, Qx, ss, q, kq⟩ => by
    refine ⟨F, M, ρ, _, ss, q, fun vs H1 F1 ds M1 s1 r q1 => ?_⟩
    obtain ⟨hl, ⟨d, rd, ed, hd⟩, hx, q2⟩ := q1
    subst ed
    have le := s1.hm.le
    cases r with
    | cons r0 rr =>
      rename_i v vs
      have hlv : (v :: vs).length = fls.length := by rw [← hl]; exact (RpL.cons r0 rr).length
      refine ⟨by rw [hlv]; omega, fun a ha => ⟨a, v, vs, rfl, hlv, upd_same, hok _ _ _ r0 hd, fun j f b y e1 e2 eb => ?_, fun dx hdx ne => ⟨rfl, .inr ⟨dx, exF fls (v :: vs), upd_same, ?_, ?_, ?_⟩⟩⟩⟩
      · obtain ⟨d', hd', rd'⟩ := (RpL.cons r0 rr).at' e2
        obtain ⟨ys, ey⟩ := hx j f b d' e1 hd' eb
        subst ey
        cases rd' with
        | tup e r =>
          have e1 := le.at e (fun z => z)
          exact ⟨_, _, rfl, by rw [upd_ne (fun z => by subst z; rw [ha] at e1; cases e1)]; exact e1⟩
      · rw [upd_ne ne, upd_same]
      · rw [upd_ne ne] at hdx; exact hdx
      · have hdx' : H1 dx = none := by rw [upd_ne ne] at hdx; exact hdx
        rw [upd_upd_del ha ne]
        obtain ⟨nM, nF⟩ := s1.hm.none hdx'
        have s2 := (Step.refl s1.hm).hset hdx' nF nM (.xd (exF fls (v :: vs)))
        exact kq _ _ _ _ _ _ (s1.trans s2) upd_same (rpF_exF (.cons r0 rr)) q2
theorem rzN {fls : List (Str × Bool)} {okV : V → Prop} {ok : D → Prop} (F : EXN X.prog X.w X.K X.mg X.base x C fls okV) (hz : fls.length ≤ 900) (hok : ∀ F v d, Rp X.K F v d → ok d → okV v) (hr : Room k X.A) (hk : 2 ≤ k) (tk : Takes X fun cls d σ H => E0 σ cls d H) (hc : X.calm = true) (hg : Gl X x) (ha : DA X E0 Ee (e :: es) tr)
    (h1 : starEach (e :: es) X.env = (false, eval e X.env) :: starEach es X.env := by rfl) (hdb : (x == ("__debug__" : Str)) = false := by decide) (hpl : (backTo pos (starEach es X.env)).any (·.1) = false := by rfl) :
    DS X E0 Ee (.Raise (some (.Call (.Name x p) (e :: es) [] pos)) none pos2) (dRaise Ee C (dXN fls ok tr)) := by
  obtain ⟨B, nw, ii, bm, fI, fd, ps, T, iC, tI, F1, hb, hm⟩ := F
  exact ds_raise hc tk (dx_SN hz T iC tI F1 hok hr hk hb hg hm ha h1 hdb hpl)
end
/-! the texts of errors -/
def okTxt (v : V) : Prop := ∃ s : Cd, v = .str (mkS s) ∧ s.length ≤ 90000 ∧ ∀ c ∈ s, c < 0x110000
def okTxtD (d : D) : Prop := ∃ s : Cd, d = .str s ∧ s.length ≤ 90000 ∧ ∀ c ∈ s, c < 0x110000
theorem okTxt_D {K : PySem.W.Frag} : ∀ F v d, Rp K F v d → okTxtD d → okTxt v := fun F v d r ⟨s, e, h⟩ => by subst e; cases r; exact ⟨s, rfl, h⟩
def okAny (_ : V) : Prop := True
def okAnyD (_ : D) : Prop := True
theorem okAny_D {K : PySem.W.Frag} : ∀ F v d, Rp K F v d → okAnyD d → okAny v := fun _ _ _ _ _ => trivial
section
variable {X : Cx} {e : Expr} {a b : Str} {j1 j2 : Nat} {q1 q2 q3 q4 : Pos}
theorem msgC {j} {x : Str} {pe : Pos} {okv : V → Prop} : ∃ te, PE X (.Constant (.str x) j pe) te ∧ ∀ (σ : L2.St) (y : V) (H : Hp) (G : Hp → Prop), σ[1]? = some (some y) → okv y → G H → te σ H fun _ H2 => G H2 := ⟨_, pe_str, fun _ _ _ _ _ _ g => g⟩
theorem rep_len {s : Cd} (hl : s.length ≤ 90000) (hc : ∀ c ∈ s, c < 0x110000) : (reprText (mkS s)).length ≤ 900002 := by
  have := StrLaws.reprText_len (mkS s) (fun c hm => by have := hc c hm; exact Nat.lt_trans this (by decide))
  rw [mkS_len] at this; omega
theorem msgR2 (he : PE X e (tVar 1)) (ha : a.length ≤ 1000) :
    ∃ te, PE X (.JoinedStr [.Constant (.str a) j1 q1, .FormattedValue e 114 none q2] q4) te ∧ ∀ (σ : L2.St) (y : V) (H : Hp) (G : Hp → Prop), σ[1]? = some (some y) → okTxt y → G H → te σ H fun _ H2 => G H2 := by
  refine ⟨_, pe_joined (.cons pe_str (.cons (pe_fmtR he) .nil)), fun σ y H G e1 ⟨s, ey, hl, hc⟩ hG => ?_⟩
  subst ey
  have l := rep_len hl hc
  refine ⟨a, rfl, ?_, ⟨_, e1, .inl ⟨_, rfl, szl (by omega), ⟨_, rfl, ?_, hG⟩⟩⟩⟩
  · rw [Str.length_append, sizeLine_eq]; have : (Str.empty).length = 0 := rfl; omega
  · rw [Str.length_append, Str.length_append, sizeLine_eq]; have : (Str.empty).length = 0 := rfl; omega
theorem msgR3 (he : PE X e (tVar 1)) (ha : a.length ≤ 1000) (hb : b.length ≤ 1000) :
    ∃ te, PE X (.JoinedStr [.Constant (.str a) j1 q1, .FormattedValue e 114 none q2, .Constant (.str b) j2 q3] q4) te ∧ ∀ (σ : L2.St) (y : V) (H : Hp) (G : Hp → Prop), σ[1]? = some (some y) → okTxt y → G H → te σ H fun _ H2 => G H2 := by
  refine ⟨_, pe_joined (.cons pe_str (.cons (pe_fmtR he) (.cons pe_str .nil))), fun σ y H G e1 ⟨s, ey, hl, hc⟩ hG => ?_⟩
  subst ey
  have l := rep_len hl hc
  refine ⟨a, rfl, ?_, ⟨_, e1, .inl ⟨_, rfl, szl (by omega), ⟨_, rfl, ?_, ⟨b, rfl, ?_, hG⟩⟩⟩⟩⟩
  · rw [Str.length_append, sizeLine_eq]; have : (Str.empty).length = 0 := rfl; omega
  · rw [Str.length_append, Str.length_append, sizeLine_eq]; have : (Str.empty).length = 0 := rfl; omega
  · rw [Str.length_append, Str.length_append, Str.length_append, sizeLine_eq]; have : (Str.empty).length = 0 := rfl; omega
end
end DL


set_option Elab.async false
set_option linter.all false
set_option maxRecDepth 100000
set_option maxHeartbeats 1000000
namespace DL
open PySem PySem.Spec PyProof.Rows L2
/-! ### readings as equations -/
def fldAt (ok : Addr → Prop) (f : Str) (x : D) (M : Mp) (Q : D → Mp → Prop) : Prop := ∃ C fs, vw M x = .obj C fs ∧ ok C ∧ ∃ v, fs.lookup f = some v ∧ Q v M
def isO (ok : Addr → Prop) (m : Str) (M : Mp) (x : D) : Prop := ∃ C fs, vw M x = .obj C fs ∧ ok C ∧ fs.lookup m = none
section
variable {ok : Addr → Prop} {f m : Str} {sp : DSp} {Ee : DEnv → DXK} {te to ta tb : TDE} {tr : TDA} {ρ : DEnv} {M : Mp} {Q : D → Mp → Prop} {C : Addr} {fs : List (Str × D)} {p : Addr} {kv : List (DK × D)} {kt : List (List DK × D)}
theorem e_fld : dFld ok f te ρ M Q = te ρ M fun x M1 => fldAt ok f x M1 Q := rfl
theorem e_meth : dMeth ok m sp Ee to tr ρ M Q = to ρ M fun x M1 => isO ok m M1 x ∧ tr ρ M1 fun ds M2 => sp (x :: ds) M2 Q (Ee ρ) := by
  unfold dMeth isO
  congr 1
  funext x M1
  apply propext
  constructor
  · rintro ⟨C, fs, a, b, c, d⟩; exact ⟨⟨C, fs, a, b, c⟩, d⟩
  · rintro ⟨⟨C, fs, a, b, c⟩, d⟩; exact ⟨C, fs, a, b, c, d⟩
theorem e_inO {neg : Bool} : dInOwn ok sp neg ta tb ρ M Q = ta ρ M fun x M1 => tb ρ M1 fun y M2 => (∃ C fs, vw M2 y = .obj C fs ∧ ok C) ∧ sp [y, x] M2 (fun d M3 => ∃ b, d = .bl b ∧ Q (.bl (neg != b)) M3) DN := by
  unfold dInOwn
  congr 1
  funext x M1
  congr 1
  funext y M2
  apply propext
  constructor
  · rintro ⟨C, fs, a, b, c⟩; exact ⟨⟨C, fs, a, b⟩, c⟩
  · rintro ⟨⟨C, fs, a, b⟩, c⟩; exact ⟨C, fs, a, b, c⟩
theorem e_lenO : dLenOwn ok sp ta ρ M Q = ta ρ M fun y M2 => (∃ C fs, vw M2 y = .obj C fs ∧ ok C) ∧ sp [y] M2 (fun d M3 => ∃ n : Nat, d = .int n ∧ n ≤ sizeLine ∧ Q (.int n) M3) DN := by
  unfold dLenOwn
  congr 1
  funext y M2
  apply propext
  constructor
  · rintro ⟨C, fs, a, b, c⟩; exact ⟨⟨C, fs, a, b⟩, c⟩
  · rintro ⟨⟨C, fs, a, b⟩, c⟩; exact ⟨C, fs, a, b, c⟩
theorem e_eqO : dEqOwn ok sp ta tb ρ M Q = ta ρ M fun x M1 => tb ρ M1 fun y M2 => (∃ C fs, vw M2 x = .obj C fs ∧ ok C) ∧ (∃ C fs, vw M2 y = .obj C fs ∧ ok C) ∧ sp [x, y] M2 Q DN := by
  unfold dEqOwn
  congr 1
  funext x M1
  congr 1
  funext y M2
  apply propext
  constructor
  · rintro ⟨C, fs, C', gs, a, a', b, b', c⟩; exact ⟨⟨C, fs, a, b⟩, ⟨C', gs, a', b'⟩, c⟩
  · rintro ⟨⟨C, fs, a, b⟩, ⟨C', gs, a', b'⟩, c⟩; exact ⟨C, fs, C', gs, a, a', b, b', c⟩
theorem e_S1 {g} {a : D} {E : DXK} : S1 g [a] M Q E = g a M Q E := rfl
theorem e_S2 {g} {a b : D} {E : DXK} : S2 g [a, b] M Q E = g a b M Q E := rfl
theorem e_S3 {g} {a b c : D} {E : DXK} : S3 g [a, b, c] M Q E = g a b c M Q E := rfl
theorem e_S4 {g} {a b c d : D} {E : DXK} : S4 g [a, b, c, d] M Q E = g a b c d M Q E := rfl
theorem isO_t (h : fs.lookup m = none) (o : ok C) : isO ok m M (.obj C fs) := ⟨C, fs, rfl, o, h⟩
theorem isO_r {a : Addr} (e : M a = some (.ins C fs)) (h : fs.lookup m = none) (o : ok C) : isO ok m M (.ref a) := ⟨C, fs, vw_i e, o, h⟩
theorem fld_t {v : D} (h : fs.lookup f = some v) (o : ok C) (q : Q v M) : fldAt ok f (.obj C fs) M Q := ⟨C, fs, rfl, o, v, h, q⟩
theorem fld_r {a : Addr} {v : D} (e : M a = some (.ins C fs)) (h : fs.lookup f = some v) (o : ok C) (q : Q v M) : fldAt ok f (.ref a) M Q := ⟨C, fs, vw_i e, o, v, h, q⟩
/-! dicts that are trees -/
theorem dfind_s {s : Cd} : dfind (.dic kv) (.str s) = some (dlk kv (.inr s)) := rfl
theorem dfind_i {i : Int} : dfind (.dic kv) (.int i) = some (dlk kv (.inl i)) := rfl
theorem dfind_t {xs : List D} : dfind (.dit kt) (.tup xs) = (dkeys xs).map fun k => dlk kt k := by
  show (match dkeys xs with | some kk => some (dlk kt kk) | none => none) = _
  cases dkeys xs <;> rfl
theorem dkeys_str : ∀ (xs : List Cd), dkeys (xs.map .str) = some (xs.map .inr)
  | [] => rfl
  | x :: r => by simp [dkeys, dkey, dkeys_str r]
end
theorem dlk_map_nodup {κ α : Type} [DecidableEq κ] (fk : α → κ) (fv : α → D) : ∀ {xs : List α}, (xs.map fk).Nodup → ∀ {x : α}, x ∈ xs → dlk (xs.map fun x => (fk x, fv x)) (fk x) = some (fv x)
  | y :: ys, hn, x, hx => by
    rw [List.map_cons, dlk_cons]
    simp only [List.map_cons, List.nodup_cons] at hn
    split
    · rename_i e
      rcases List.mem_cons.mp hx with z | z
      · rw [z]
      · exact absurd (e ▸ List.mem_map_of_mem z) hn.1
    · rename_i e
      rcases List.mem_cons.mp hx with z | z
      · rw [z] at e; exact absurd rfl e
      · exact dlk_map_nodup fk fv hn.2 z
theorem dlk_map_none {κ α : Type} [DecidableEq κ] (fk : α → κ) (fv : α → D) : ∀ {xs : List α} {k : κ}, k ∉ xs.map fk → dlk (xs.map fun x => (fk x, fv x)) k = none
  | [], _, _ => rfl
  | y :: ys, k, h => by
    simp only [List.map_cons, List.mem_cons, not_or] at h
    rw [List.map_cons, dlk_cons, if_neg (fun e => h.1 e.symm)]
    exact dlk_map_none fk fv h.2
theorem any_deq_str (ss : List Cd) (s : Cd) : (ss.map D.str).any (fun y => deq y (.str s)) = ss.contains s := by
  induction ss with
  | nil => rfl
  | cons x r ih =>
    rw [List.map_cons, List.any_cons, ih, e_deq_ss, List.contains_cons]
    congr 1
    exact Bool.eq_iff_iff.mpr ⟨fun h => by rw [eq_of_beq h]; exact beq_self_eq_true _, fun h => by rw [eq_of_beq h]; exact beq_self_eq_true _⟩
theorem all_flat_str (ss : List Cd) : (ss.map D.str).all flatD = true := by
  rw [List.all_map]; exact List.all_eq_true.mpr fun _ _ => rfl
theorem rngD_nat (n : Nat) : rngD 0 ((n : Nat) : Int).toNat = (List.range n).map fun i => .int (i : Nat) := by
  simp only [rngD, Int.toNat_natCast]
  apply List.map_congr_left
  intro i _
  rw [Int.zero_add]
theorem getR {n i x : Nat} (h : (List.range n)[i]? = some x) : x = i ∧ i < n := by
  have hlt := (List.getElem?_eq_some_iff.mp h).1
  rw [List.length_range] at hlt
  rw [List.getElem?_range hlt] at h
  exact ⟨(Option.some.inj h).symm, hlt⟩
end DL


set_option Elab.async false
set_option linter.all false
set_option maxRecDepth 100000
set_option maxHeartbeats 1000000
namespace DL
open PySem PySem.Spec PyProof.Rows L2
/-! ### list(range(n)) -/
def dLstRng (te : TDE) : TDE := fun ρ M Q => te ρ M fun x M1 => ∃ n : Nat, x = .int (n : Nat) ∧ n ≤ 1000000 ∧ Q (.lst ((List.range n).map fun (i : Nat) => .int (i : Int))) M1
section
variable {X : Cx} {E0 : L2.St → XK} {Ee : DEnv → DXK} {a b e o : Expr} {ta tb te to : TDE} {p p2 pos pos2 apos cpos : Pos}
theorem rgV0 (n : Nat) : rgV 0 (n : Int) = ((List.range n).map fun (i : Nat) => (i : Int)).map V.int := by
  unfold rgV
  rw [Int.sub_zero, Int.toNat_natCast, List.map_map]
  apply List.map_congr_left
  intro i _
  simp
theorem de_lstRng (hg : Gl X "list") (hm : X.mg "list" = none) (hg2 : Gl X "range") (hm2 : X.mg "range" = none) (ha : DE X E0 Ee a ta) (hc : X.calm = true := by rfl)
    (n1 : starEach [a] X.env = (false, eval a X.env) :: starEach [] X.env := by rfl) (n2 : starEach [Expr.Call (.Name "range" p2) [a] [] pos2] X.env = (false, eval (.Call (.Name "range" p2) [a] [] pos2) X.env) :: starEach [] X.env := by rfl) :
    DE X E0 Ee (.Call (.Name "list" p) [.Call (.Name "range" p2) [a] [] pos2] [] pos) (dLstRng ta) :=
  PEimp (pe_listRg hc hg hm (prg_1 hg2 hm2 ha n1) n2) fun σ H Q0 ⟨F, M, ρ, Q, ss, q, k⟩ => by
    refine ⟨F, M, ρ, _, ss, q, fun x H1 F1 d M1 s1 r ⟨n, ed, hn, q1⟩ => ?_⟩
    subst ed
    cases r
    refine ⟨(n : Int), rfl, RgOk.of_le (by omega) (by omega) (by omega) (by omega), fun q hq => ?_⟩
    rw [rgV0]
    have rl : RpL X.K F1 (((List.range n).map fun (i : Nat) => (i : Int)).map V.int) ((List.range n).map fun (i : Nat) => D.int (i : Int)) := by
      have := RpL.ints (K := X.K) (F := F1) ((List.range n).map fun (i : Nat) => (i : Int))
      rwa [List.map_map (f := fun (i : Nat) => (i : Int)) (g := D.int)] at this
    exact newLst s1.hm rl q1 (k.step s1) q hq
theorem dFor_it {ti : TDA} {g : TDG} {tb : TDS} {De : DEnds} {ρ : DEnv} {M : Mp} (h : ti ρ M fun items M1 => dFor (fun _ M Q => Q items M) g tb De ρ M1) : dFor ti g tb De ρ M := h
end
/-! ### thought steps at a value -/
def GhD (K : PySem.W.Frag) (d : D) (M : Mp) (d2 : D) (M2 : Mp) : Prop := ∀ F H v, HM K F M H → Rp K F v d → ∃ F', Step K F M H F' M2 H ∧ Rp K F' v d2
section
variable {K : PySem.W.Frag} {M M1 M2 : Mp} {d d1 d2 : D}
theorem GhD.of (g : Gh K M M1) : GhD K d M d M1 := fun F H v h r => by
  obtain ⟨F', s⟩ := g F H h
  exact ⟨F', s, r.mono s.fle⟩
theorem GhD.refl : GhD K d M d M := fun F H v h r => ⟨F, .refl h, r⟩
theorem GhD.trans (a : GhD K d M d1 M1) (b : GhD K d1 M1 d2 M2) : GhD K d M d2 M2 := fun F H v h r => by
  obtain ⟨F1, s1, r1⟩ := a F H v h r
  obtain ⟨F2, s2, r2⟩ := b F1 H v s1.hm r1
  exact ⟨F2, s1.trans s2, r2⟩
theorem GhD.sub (s : Sub M1 M) : GhD K d M d M1 := GhD.of (Gh.sub s)
theorem GhD.frz {p : Addr} {mo : MO} {d : D} (e : M p = some mo) (f : frzD mo = some d) : GhD K (.ref p) M d (mdel M p) := fun F H v h r => by
  obtain ⟨F', s, r'⟩ := Step.frzE h e f
  cases r
  exact ⟨F', s, r'⟩
/-- elements of a tree -/
theorem GhD.lst {l1 l2 : List D} (h : GhD K d M d1 M1) : GhD K (.lst (l1 ++ d :: l2)) M (.lst (l1 ++ d1 :: l2)) M1 := fun F H v hm r => by
  cases r with
  | lst e rl =>
    have key : ∀ {l1 : List D} {xs : List V}, RpL K F xs (l1 ++ d :: l2) → ∃ F', Step K F M H F' M1 H ∧ RpL K F' xs (l1 ++ d1 :: l2) := by
      intro l1
      induction l1 with
      | nil => intro xs r; cases r with
        | cons a t =>
          obtain ⟨F', s, r'⟩ := h F H _ hm a
          exact ⟨F', s, .cons r' (t.mono s.fle)⟩
      | cons x l1 ih => intro xs r; cases r with
        | cons a t =>
          obtain ⟨F', s, r'⟩ := ih t
          exact ⟨F', s, .cons (a.mono s.fle) r'⟩
    obtain ⟨F', s, r'⟩ := key rl
    exact ⟨F', s, .lst (s.fle _ _ e) r'⟩
theorem GhD.tup {l1 l2 : List D} (h : GhD K d M d1 M1) : GhD K (.tup (l1 ++ d :: l2)) M (.tup (l1 ++ d1 :: l2)) M1 := fun F H v hm r => by
  cases r with
  | tup e rl =>
    have key : ∀ {l1 : List D} {xs : List V}, RpL K F xs (l1 ++ d :: l2) → ∃ F', Step K F M H F' M1 H ∧ RpL K F' xs (l1 ++ d1 :: l2) := by
      intro l1
      induction l1 with
      | nil => intro xs r; cases r with
        | cons a t =>
          obtain ⟨F', s, r'⟩ := h F H _ hm a
          exact ⟨F', s, .cons r' (t.mono s.fle)⟩
      | cons x l1 ih => intro xs r; cases r with
        | cons a t =>
          obtain ⟨F', s, r'⟩ := ih t
          exact ⟨F', s, .cons (a.mono s.fle) r'⟩
    obtain ⟨F', s, r'⟩ := key rl
    exact ⟨F', s, .tup (s.fle _ _ e) r'⟩
theorem GhD.dic {l1 l2 : List (DK × D)} {k : DK} (h : GhD K d M d1 M1) : GhD K (.dic (l1 ++ (k, d) :: l2)) M (.dic (l1 ++ (k, d1) :: l2)) M1 := fun F H v hm r => by
  cases r with
  | dic e rl =>
    have key : ∀ {l1 : List (DK × D)} {xs : List (Key × V)}, RpK K F xs (l1 ++ (k, d) :: l2) → ∃ F', Step K F M H F' M1 H ∧ RpK K F' xs (l1 ++ (k, d1) :: l2) := by
      intro l1
      induction l1 with
      | nil => intro xs r; cases r with
        | cons a t =>
          obtain ⟨F', s, r'⟩ := h F H _ hm a
          exact ⟨F', s, .cons r' (t.mono s.fle)⟩
      | cons x l1 ih => intro xs r; cases r with
        | cons a t =>
          obtain ⟨F', s, r'⟩ := ih t
          exact ⟨F', s, .cons (a.mono s.fle) r'⟩
    obtain ⟨F', s, r'⟩ := key rl
    exact ⟨F', s, .dic (s.fle _ _ e) r'⟩
end
section
variable {P : Program} {w : World} {K : PySem.W.Frag} {mg : Str → Option Value} {base : Heap} {x qual : Str} {params : Arguments} {body : List Stmt} {scope : Scope} {dvs : List V} {kws : List (Str × V)} {f : Addr} {fd : FuncData}
theorem dfnH {N ps : List Str} {k : Nat} {sp : DSp} (F : FunD K x qual params body scope dvs kws f fd) (S : FnScope N ps scope) (len : ∀ ds M Q E, sp ds M Q E → ds.length = ps.length)
    (hbody : ∀ (cdv : Value) (A : Around) (outer : List Env) (s : Shared) (H : Hp) (E : XK) (Ed : DXK), Room k (A.deeper (envOfC qual scope s.heap.objs.size f cdv)) →
      ∃ t, DSs (cxOf (L2.CX P w) P w K mg base N qual scope f cdv A outer s H E) (fun _ => E) (fun _ C fs M' => ∃ M'', Sub M'' M' ∧ Ed C fs M'') body t ∧
        ∀ ds M Q, Sub M M → sp ds M Q Ed → t { nx := fun _ M' => ∃ M'', Gh K M' M'' ∧ Q .non M'', rt := fun d M' => ∃ d2 M'', GhD K d M' d2 M'' ∧ Q d2 M'' } (dstart N.length ds) M) :
    FnOk P w K mg base (L2.CX P w) (k + 1) f fd ps (lift K sp) := by
  refine F.ok S (fun vs H Q E h => ?_) fun cdv A outer s H vs Q0 E hr h => ?_
  · obtain ⟨F, M, ds, Q, Ed, hm, r, q, _⟩ := h
    rw [r.length]; exact len _ _ _ _ q
  · obtain ⟨F, M, ds, Q, Ed, hm, r, q, kk, xk⟩ := h
    obtain ⟨t, ht, hq⟩ := hbody cdv A outer s H E Ed hr
    refine ⟨_, ht, F, M, _, _, ⟨hm, dstart_ok r, fun F' M' H' σ ρ C d xs dd s _ xa rf ⟨M'', sb, ed⟩ => xk F' M'' H' C d xs dd (s.drop sb) xa rf ed⟩, hq ds M Q hm.closed q, ?_⟩
    refine ⟨fun σ' H' F' ρ' M' s' _ ⟨M'', g, q'⟩ => ?_, fun v H' F' d M' s' r' ⟨d2, M'', g, q'⟩ => ?_, fun _ _ _ _ _ _ _ z => z, fun _ _ _ _ _ _ _ z => z⟩
    · obtain ⟨F2, s2⟩ := g F' H' s'.hm
      exact kk _ _ _ _ _ (s'.trans s2) .non q'
    · obtain ⟨F2, s2, r2⟩ := g F' H' v s'.hm r'
      exact kk _ _ _ _ _ (s'.trans s2) r2 q'
end
/-! ### a changed map, place by place -/
def ov (M : Mp) : List (Addr × MO) → Mp
  | [] => M
  | (p, o) :: r => mset (ov M r) p o
theorem ov_get {M : Mp} {p : Addr} {o : MO} {r : List (Addr × MO)} : ov M ((p, o) :: r) p = some o := mset_same
theorem ov_ne {M : Mp} {p q : Addr} {o : MO} {r : List (Addr × MO)} (h : q ≠ p) : ov M ((p, o) :: r) q = ov M r q := mset_ne h
theorem ov_old {M : Mp} {q : Addr} : ∀ {r : List (Addr × MO)}, (∀ e ∈ r, q ≠ e.1) → ov M r q = M q
  | [], _ => rfl
  | (p, o) :: r, h => by rw [ov_ne (h (p, o) (by simp)), ov_old fun e he => h e (by simp [he])]
theorem ov_set {M : Mp} {p : Addr} {o : MO} : ∀ {l1 l2 : List (Addr × MO)} {o0 : MO}, (∀ e ∈ l1, p ≠ e.1) → mset (ov M (l1 ++ (p, o0) :: l2)) p o = ov M (l1 ++ (p, o) :: l2)
  | [], l2, o0, _ => mset_mset
  | (q, u) :: l1, l2, o0, h => by
    have ih := ov_set (M := M) (p := p) (o := o) (l1 := l1) (l2 := l2) (o0 := o0) fun e he => h e (by simp [he])
    have ne : p ≠ q := h (q, u) (by simp)
    show mset (mset (ov M (l1 ++ (p, o0) :: l2)) q u) p o = mset (ov M (l1 ++ (p, o) :: l2)) q u
    rw [← ih]
    funext x
    unfold mset
    by_cases h1 : x = p
    · subst h1; simp [ne]
    · simp [h1]
theorem ov_at {M : Mp} {p : Addr} {o : MO} : ∀ {l1 l2 : List (Addr × MO)}, (∀ e ∈ l1, p ≠ e.1) → ov M (l1 ++ (p, o) :: l2) p = some o
  | [], l2, _ => mset_same
  | (q, u) :: l1, l2, h => by
    show mset (ov M (l1 ++ (p, o) :: l2)) q u p = _
    rw [mset_ne (h (q, u) (by simp))]
    exact ov_at fun e he => h e (by simp [he])
theorem ov_none {M : Mp} {p : Addr} : ∀ {r : List (Addr × MO)}, ov M r p = none → M p = none ∧ ∀ a ∈ r.map (·.1), p ≠ a
  | [], h => ⟨h, (fun _ h => by cases h)⟩
  | (q, o) :: r, h => by
    have ne : p ≠ q := fun e => by subst e; rw [ov_get] at h; cases h
    rw [ov_ne ne] at h
    obtain ⟨h1, h2⟩ := ov_none h
    refine ⟨h1, fun e he => ?_⟩
    rcases List.mem_cons.mp he with rfl | he
    · exact ne
    · exact h2 e he
/-- what was new is forgotten -/
theorem ov_sub {M : Mp} (cl : Sub M M) : ∀ {r : List (Addr × MO)}, (∀ e ∈ r, M e.1 = none) → Sub M (ov M r)
  | [], _ => cl
  | (p, o) :: r, h => (ov_sub cl fun e he => h e (by simp [he])).new (h (p, o) (by simp))
/-! ### lists made by operators, to be changed in place -/
def oMulM : TOp := fun x y M Q => match x, y with
  | .lst xs, .int j => -(2 ^ 63) ≤ j ∧ j < 2 ^ 63 ∧ xs.length * j.toNat ≤ sizeLine ∧ ∀ p, M p = none → Q (.ref p) (mset M p (.lst (List.replicate j.toNat xs).flatten))
  | _, _ => False
section
variable {X : Cx} {K : PySem.W.Frag} {E0 : L2.St → XK} {Ee : DEnv → DXK} {a b : Expr} {ta tb : TDE} {pos : Pos}
theorem od_mulM : OpD K rRep oMulM := by
  intro x y dx dy F M H Q Q0 hm cx cy q k
  cases dx with
  | lst a =>
    cases dy with
    | int j =>
      obtain ⟨p, xs, rfl, e1, r1⟩ := cx
      cases cy
      obtain ⟨q1, q2, q3, q4⟩ := q
      exact ⟨p, j, xs, rfl, rfl, e1, q1, q2, by rw [r1.length]; exact q3, newMut hm (r1.rep _) q4 k⟩
    | _ => exact False.elim q
  | _ => exact False.elim q
theorem de_mulM (ha : DE X E0 Ee a ta) (hb : DE X E0 Ee b tb) : DE X E0 Ee (.BinOp a .Mult b pos) (dOp oMulM ta tb) := de_op op_rep od_mulM ha hb
theorem e_mulM_li {xs : List D} {j : Int} {M : Mp} {Q : D → Mp → Prop} : oMulM (.lst xs) (.int j) M Q = (-(2 ^ 63) ≤ j ∧ j < 2 ^ 63 ∧ xs.length * j.toNat ≤ sizeLine ∧ ∀ p, M p = none → Q (.ref p) (mset M p (.lst (List.replicate j.toNat xs).flatten))) := rfl
def oAddM : TOp := fun x y M Q => match x, y with
  | .lst xs, .lst ys => xs.length + ys.length ≤ sizeLine ∧ ∀ p, M p = none → Q (.ref p) (mset M p (.lst (xs ++ ys)))
  | _, _ => False
theorem od_addM : OpD K rCat oAddM := by
  intro x y dx dy F M H Q Q0 hm cx cy q k
  cases dx with
  | lst a =>
    cases dy with
    | lst b =>
      obtain ⟨p, xs, rfl, e1, r1⟩ := cx
      obtain ⟨p2, ys, rfl, e2, r2⟩ := cy
      exact ⟨p, p2, xs, ys, rfl, rfl, e1, e2, by rw [r1.length, r2.length]; exact q.1, newMut hm (r1.app r2) q.2 k⟩
    | _ => exact False.elim q
  | _ => exact False.elim q
theorem de_addM (ha : DE X E0 Ee a ta) (hb : DE X E0 Ee b tb) : DE X E0 Ee (.BinOp a .Add b pos) (dOp oAddM ta tb) := de_op op_cat od_addM ha hb
theorem e_addM_ll {xs ys : List D} {M : Mp} {Q : D → Mp → Prop} : oAddM (.lst xs) (.lst ys) M Q = (xs.length + ys.length ≤ sizeLine ∧ ∀ p, M p = none → Q (.ref p) (mset M p (.lst (xs ++ ys)))) := rfl
end
/-! ### frozen, without ways -/
def dFrzE (te : TDE) : TDE := fun ρ M Q => te ρ M fun d M1 => ∃ p mo d2, d = .ref p ∧ M1 p = some mo ∧ frzD mo = some d2 ∧ Q d2 (mdel M1 p)
section
variable {X : Cx} {E0 : L2.St → XK} {Ee : DEnv → DXK} {e : Expr} {te : TDE}
theorem de_frzE (h : DE X E0 Ee e te) : DE X E0 Ee e (dFrzE te) := PEimp h fun σ H Q0 ⟨F, M, ρ, Q, ss, q, k⟩ => by
  refine ⟨F, M, ρ, _, ss, q, fun v H1 F1 d M1 s1 r ⟨p, mo, d2, ed, e1, e2, q1⟩ => ?_⟩
  subst ed
  cases r
  obtain ⟨F', s2, r2⟩ := Step.frzE s1.hm e1 e2
  exact k _ _ _ _ _ (s1.trans s2) r2 q1
end
/-! ### statements one by one -/
section
variable {a b c t : TDS} {De : DEnds} {ρ : DEnv} {M : Mp}
theorem dSeq_go (h : a { De with nx := t De } ρ M) : dSeq a t De ρ M := h
theorem dSeq_inv (I : DEnv → Mp → Prop) (h1 : ∀ R : DEnv → Mp → Prop, (∀ ρ M, I ρ M → R ρ M) → a { De with nx := R } ρ M) (h2 : ∀ ρ M, I ρ M → t De ρ M) : dSeq a t De ρ M := h1 _ h2
theorem dSeq_inv2 (I : DEnv → Mp → Prop) (h1 : ∀ R : DEnv → Mp → Prop, (∀ ρ M, I ρ M → R ρ M) → dSeq a b { De with nx := R } ρ M) (h2 : ∀ ρ M, I ρ M → t De ρ M) : dSeq a (dSeq b t) De ρ M := h1 _ h2
theorem dSeq_inv3 (I : DEnv → Mp → Prop) (h1 : ∀ R : DEnv → Mp → Prop, (∀ ρ M, I ρ M → R ρ M) → dSeq a (dSeq b c) { De with nx := R } ρ M) (h2 : ∀ ρ M, I ρ M → t De ρ M) : dSeq a (dSeq b (dSeq c t)) De ρ M := h1 _ h2
end
end DL


set_option Elab.async false
set_option linter.all false
set_option maxRecDepth 100000
set_option maxHeartbeats 1000000
namespace DL
open PySem PySem.Spec PyProof.Rows L2
/-! ### dicts: get, pop, copies, comparisons -/
section
variable {X : Cx} {K : PySem.W.Frag} {E0 : L2.St → XK} {Ee : DEnv → DXK} {a b e f o : Expr} {ta tb te tf to : TDE} {p p2 pos pos2 apos cpos : Pos}
theorem newDic {H : Hp} {F : Hp} {M : Mp} {ds : List (DK × D)} {xs : List (Key × V)} {Q : D → Mp → Prop} {Q0 : VK} (h : HM K F M H) (r : RpK K F xs ds) (q : Q (.dic ds) M) (k : KE K F M H Q Q0) : ∀ p, H p = none → Q0 (.ref p) (upd H p (.dK xs)) := fun p hp => by
  have s := Step.newF h hp (.dK xs)
  exact k _ _ _ _ _ s (.dic upd_same (r.mono s.fle)) q
theorem newDicM {H : Hp} {F : Hp} {M : Mp} {ds : List (DK × D)} {xs : List (Key × V)} {Q : D → Mp → Prop} {Q0 : VK} (h : HM K F M H) (r : RpK K F xs ds) (q : ∀ p, M p = none → Q (.ref p) (mset M p (.dic ds))) (k : KE K F M H Q Q0) : ∀ p, H p = none → Q0 (.ref p) (upd H p (.dK xs)) := fun p hp => by
  have s := Step.newM h hp (o := .dK xs) (mo := .dic ds) ⟨xs, upd_same, r⟩
  exact k _ _ _ _ _ s (.ref p) (q p (h.none hp).1)
def isDct : D → Prop := fun d => ∃ kv, d = .dic kv
theorem isDct_ct {F H : Hp} {v : V} {d : D} (c : Ct K F H v d) (h : isDct d) : ∃ a, v = .ref a ∧ IsD H a := by
  obtain ⟨kv, rfl⟩ := h
  obtain ⟨a, xs, rfl, e, _⟩ := c
  exact ⟨a, rfl, .inl ⟨xs, e⟩⟩
/-- d.get(k, x) -/
def dGet (to te tf : TDE) : TDE := fun ρ M Q => to ρ M fun x M1 => isDct (vw M1 x) ∧ te ρ M1 fun y M2 => tf ρ M2 fun z M3 => ∃ r, dfind (vw M3 x) (vw M3 y) = some r ∧ Q (r.getD z) M3
theorem de_get (hu : X.A.units + 1 < cLine) (ho : DE X E0 Ee o to) (he : DE X E0 Ee e te) (hf : DE X E0 Ee f tf) (h1 : attributeBase o "get" X.env (eval o X.env) = eval o X.env := by rfl)
    (h2 : ((backTo cpos (starEach [e, f] X.env)).all (fun x => !x.1) && (backToKw cpos (keywordEach [] X.env)).all (fun x => x.1.isSome) && decide (([e, f] : List Expr).length + ([] : List Keyword).length + (if ([] : List Keyword).isEmpty then 0 else 1) < 30)) = true := by rfl)
    (h3 : (apos.endLine == cpos.line) = true := by rfl) (h4 : backTo cpos (starEach [e, f] X.env) = [(false, eval e X.env), (false, eval f X.env)] := by rfl) :
    DE X E0 Ee (.Call (.Attribute o "get" apos) [e, f] [] cpos) (dGet to te tf) := by
  refine PEimp (pe_dget2 hu ho he hf ⟨h1, h2, h3, h4⟩) fun σ H Q0 ⟨F, M, ρ, Q, ss, q, k⟩ => ?_
  refine ⟨F, M, ρ, _, ss, q, fun x H1 F1 dx M1 s1 rx ⟨hd, q1⟩ => ?_⟩
  obtain ⟨a, rfl, ia⟩ := isDct_ct (Ct.vw s1.hm rx) hd
  refine ⟨a, rfl, ia, F1, M1, ρ, _, ss.step s1, q1, fun y H2 F2 dy M2 s2 ry q2 => ⟨F2, M2, ρ, _, (ss.step s1).step s2, q2, fun z H3 F3 dz M3 s3 rz ⟨r, er, q3⟩ => ?_⟩⟩
  obtain ⟨a', ea, o, g, h1, h2⟩ := dfind_get (Ct.vw s3.hm ((rx.mono s2.fle).mono s3.fle)) (Ct.vw s3.hm (ry.mono s3.fle)) er
  cases ea
  refine ⟨o, g, ?_⟩
  have s := s1.trans (s2.trans s3)
  cases r with
  | none =>
    rw [h2 rfl]
    exact k _ _ _ _ _ s rz q3
  | some d =>
    obtain ⟨v, rfl, rv⟩ := h1 d rfl
    exact k _ _ _ _ _ s rv q3
/-- d.get(k) -/
def dGet1 (to te : TDE) : TDE := fun ρ M Q => to ρ M fun x M1 => isDct (vw M1 x) ∧ te ρ M1 fun y M2 => ∃ r, dfind (vw M2 x) (vw M2 y) = some r ∧ Q (r.getD .non) M2
theorem de_get1 (hu : X.A.units + 1 < cLine) (ho : DE X E0 Ee o to) (he : DE X E0 Ee e te) (h1 : attributeBase o "get" X.env (eval o X.env) = eval o X.env := by rfl)
    (h2 : ((backTo cpos (starEach [e] X.env)).all (fun x => !x.1) && (backToKw cpos (keywordEach [] X.env)).all (fun x => x.1.isSome) && decide (([e] : List Expr).length + ([] : List Keyword).length + (if ([] : List Keyword).isEmpty then 0 else 1) < 30)) = true := by rfl)
    (h3 : (apos.endLine == cpos.line) = true := by rfl) (h4 : backTo cpos (starEach [e] X.env) = [(false, eval e X.env)] := by rfl) :
    DE X E0 Ee (.Call (.Attribute o "get" apos) [e] [] cpos) (dGet1 to te) := by
  refine PEimp (pe_dget1 hu ho he ⟨h1, h2, h3, h4⟩) fun σ H Q0 ⟨F, M, ρ, Q, ss, q, k⟩ => ?_
  refine ⟨F, M, ρ, _, ss, q, fun x H1 F1 dx M1 s1 rx ⟨hd, q1⟩ => ?_⟩
  obtain ⟨a, rfl, ia⟩ := isDct_ct (Ct.vw s1.hm rx) hd
  refine ⟨a, rfl, ia, F1, M1, ρ, _, ss.step s1, q1, fun y H2 F2 dy M2 s2 ry ⟨r, er, q3⟩ => ?_⟩
  obtain ⟨a', ea, o, g, h1, h2⟩ := dfind_get (Ct.vw s2.hm (rx.mono s2.fle)) (Ct.vw s2.hm ry) er
  cases ea
  refine ⟨o, g, ?_⟩
  have s := s1.trans s2
  cases r with
  | none =>
    rw [h2 rfl]
    exact k _ _ _ _ _ s .non q3
  | some d =>
    obtain ⟨v, rfl, rv⟩ := h1 d rfl
    exact k _ _ _ _ _ s rv q3
/-- d.pop(k, x) -/
def ddrop {κ : Type} [DecidableEq κ] (kv : List (κ × D)) (k : κ) : List (κ × D) := kv.filter fun p => decide (p.1 ≠ k)
theorem RpK.drop {F : Hp} (k : DK) : ∀ {xs : List (Key × V)} {ds : List (DK × D)}, RpK K F xs ds → RpK K F (dropK xs (toK k)) (ddrop ds k)
  | _, _, .nil => .nil
  | _, _, .cons (k := j) r t => by
    have := RpK.drop k t
    unfold dropK ddrop at this ⊢
    by_cases e : j = k
    · subst e
      rw [List.filter_cons_of_neg (by simp), List.filter_cons_of_neg (by simp)]
      exact this
    · rw [List.filter_cons_of_pos (by simpa using fun z => e (toK_inj z)), List.filter_cons_of_pos (by simpa using e)]
      exact .cons r this
def dDpop (to te tf : TDE) : TDE := fun ρ M Q => to ρ M fun x M1 => ∃ p kv1, x = .ref p ∧ M1 p = some (.dic kv1) ∧ te ρ M1 fun y M2 => tf ρ M2 fun z M3 => ∃ kv k, M3 p = some (.dic kv) ∧ dkey (vw M3 y) = some k ∧
  (∀ d, dlk kv k = some d → Q d (mset M3 p (.dic (ddrop kv k)))) ∧ (dlk kv k = none → Q z M3)
theorem de_dpop (hu : X.A.units + 1 < cLine) (ho : DE X E0 Ee o to) (he : DE X E0 Ee e te) (hf : DE X E0 Ee f tf) (h1 : attributeBase o "pop" X.env (eval o X.env) = eval o X.env := by rfl)
    (h2 : ((backTo cpos (starEach [e, f] X.env)).all (fun x => !x.1) && (backToKw cpos (keywordEach [] X.env)).all (fun x => x.1.isSome) && decide (([e, f] : List Expr).length + ([] : List Keyword).length + (if ([] : List Keyword).isEmpty then 0 else 1) < 30)) = true := by rfl)
    (h3 : (apos.endLine == cpos.line) = true := by rfl) (h4 : backTo cpos (starEach [e, f] X.env) = [(false, eval e X.env), (false, eval f X.env)] := by rfl) :
    DE X E0 Ee (.Call (.Attribute o "pop" apos) [e, f] [] cpos) (dDpop to te tf) := by
  refine PEimp (pe_dpop2 ho he hf ⟨h1, h2, h3, h4⟩) fun σ H Q0 ⟨F, M, ρ, Q, ss, q, k⟩ => ?_
  refine ⟨F, M, ρ, _, ss, q, fun x H1 F1 dx M1 s1 rx ⟨a, kv1, ex, e1, q1⟩ => ?_⟩
  subst ex
  cases rx
  obtain ⟨xs1, g1, _⟩ := (s1.hm.mo a _ e1).2
  refine ⟨a, rfl, .inl ⟨xs1, .inl g1⟩, F1, M1, ρ, _, ss.step s1, q1, fun y H2 F2 dy M2 s2 ry q2 => ⟨F2, M2, ρ, _, (ss.step s1).step s2, q2, fun z H3 F3 dz M3 s3 rz ⟨kv, kk, e3, ek, q3, q4⟩ => ?_⟩⟩
  obtain ⟨xs, g3, rk⟩ := (s3.hm.mo a _ e3).2
  have s := s1.trans (s2.trans s3)
  obtain ⟨v1, v2⟩ := rk.val kk
  refine ⟨xs, toK kk, g3, dkey_ct (Ct.vw s3.hm (ry.mono s3.fle)) ek, fun v hv => ?_, fun hv => ?_⟩
  · cases l : dlk kv kk with
    | none => rw [v2 l] at hv; cases hv
    | some d =>
      obtain ⟨v', ev, rv⟩ := v1 d l
      rw [hv] at ev
      cases ev
      have s4 := Step.wr s3.hm (o := .dK (dropK xs (toK kk))) (mo := .dic (ddrop kv kk)) e3 (by intro z; cases z) ⟨_, upd_same, rk.drop kk⟩
      exact k _ _ _ _ _ (s.trans s4) (rv.mono s4.fle) (q3 d l)
  · cases l : dlk kv kk with
    | some d =>
      obtain ⟨v', ev, rv⟩ := v1 d l
      rw [hv] at ev
      cases ev
    | none => exact k _ _ _ _ _ s rz (q4 l)
/-- dict(d) -/
theorem cr_dictCopy : CallR X (.type "dict") (fun xs H Q => ∃ a kvs, xs = [V.ref a] ∧ Rd H a (.dK kvs) ∧ ∀ p, H p = none → Q (.ref p) (upd H p (.dK kvs))) := by
  intro pins s σ H xs us Q I r h
  obtain ⟨a, kvs, rfl, e, q⟩ := h
  obtain ⟨u, rfl, rx⟩ := vals1 r
  obtain rfl : u = Value.ref a := rx
  exact d_copyOf I e fun p s' hp I' => ⟨.ref p, _, I', rfl, q p hp⟩
def oDic0 : D → Mp → (D → Mp → Prop) → Prop
  | .dic s, M, Q => Q (.dic s) M
  | _, _, _ => False
def oDic0M : D → Mp → (D → Mp → Prop) → Prop
  | .dic s, M, Q => ∀ p, M p = none → Q (.ref p) (mset M p (.dic s))
  | _, _, _ => False
theorem cd_dic0 : CallD K (fun xs H Q => ∃ a kvs, xs = [V.ref a] ∧ Rd H a (.dK kvs) ∧ ∀ p, H p = none → Q (.ref p) (upd H p (.dK kvs))) (f1 oDic0) := cd1 fun x d F M H Q Q0 hm c r q k => by
  generalize vw M d = d' at c q
  cases d' with
  | dic s => obtain ⟨p, xs, rfl, e, rl⟩ := c; exact ⟨p, xs, rfl, e, newDic hm rl q k⟩
  | _ => exact False.elim q
theorem cd_dic0M : CallD K (fun xs H Q => ∃ a kvs, xs = [V.ref a] ∧ Rd H a (.dK kvs) ∧ ∀ p, H p = none → Q (.ref p) (upd H p (.dK kvs))) (f1 oDic0M) := cd1 fun x d F M H Q Q0 hm c r q k => by
  generalize vw M d = d' at c q
  cases d' with
  | dic s => obtain ⟨p, xs, rfl, e, rl⟩ := c; exact ⟨p, xs, rfl, e, newDicM hm rl q k⟩
  | _ => exact False.elim q
theorem de_dict {p : Pos} (hg : Gl X "dict") (hm : X.mg "dict" = none) (ha : DE X E0 Ee e te) (h1 : starEach [e] X.env = (false, eval e X.env) :: starEach [] X.env := by rfl) : DE X E0 Ee (.Call (.Name "dict" p) [e] [] pos) (dCallB (f1 oDic0) (dCons te dNil)) :=
  de_callTy cr_dictCopy cd_dic0 hg hm (by decide +kernel) (da_cons ha da_nil h1) (by decide) (by decide) h1
theorem de_dictM {p : Pos} (hg : Gl X "dict") (hm : X.mg "dict" = none) (ha : DE X E0 Ee e te) (h1 : starEach [e] X.env = (false, eval e X.env) :: starEach [] X.env := by rfl) : DE X E0 Ee (.Call (.Name "dict" p) [e] [] pos) (dCallB (f1 oDic0M) (dCons te dNil)) :=
  de_callTy cr_dictCopy cd_dic0M hg hm (by decide +kernel) (da_cons ha da_nil h1) (by decide) (by decide) h1
/-! ### dicts that say the same -/
abbrev rSameD (v : Bool) : R2 := fun x y H Q => ∃ a b ks ls, x = .ref a ∧ y = .ref b ∧ Rd H a (.dK ks) ∧ Rd H b (.dK ls) ∧ ks.length = ls.length ∧ (∀ p ∈ ks, valV ls p.1 = some p.2 ∧ flatB p.2 = true) ∧ Q (.bl v) H
theorem op_eqS (hu : X.A.units < cLine) : OpR X (compareOp .Eq) (rSameD true) := by
  intro pins s σ H x y v u Q I rx ry h
  obtain ⟨a, b, ks, ls, rfl, rfl, ea, eb, hlen, hp, q⟩ := h
  obtain rfl : v = Value.ref a := rx
  obtain rfl : u = Value.ref b := ry
  obtain ⟨_, ya, va, ra, da⟩ := (show ObjOk X.prog X.w H s.heap a (.dK ks) from rd_of I.hok ea)
  obtain ⟨_, yb, vb, rb, db⟩ := (show ObjOk X.prog X.w H s.heap b (.dK ls) from rd_of I.hok eb)
  have hl : va.length = vb.length := by rw [← ra.length, ← rb.length]; exact hlen
  exact PySem.W.keq_eq (knd := mixKind X.prog X.w) (r := true) ya yb da db hu (fun _ => hits_all rb ra hp) (fin_bl I q (by simp [hl]))
theorem op_neS (hu : X.A.units < cLine) : OpR X (compareOp .NotEq) (rSameD false) := by
  intro pins s σ H x y v u Q I rx ry h
  obtain ⟨a, b, ks, ls, rfl, rfl, ea, eb, hlen, hp, q⟩ := h
  obtain rfl : v = Value.ref a := rx
  obtain rfl : u = Value.ref b := ry
  obtain ⟨_, ya, va, ra, da⟩ := (show ObjOk X.prog X.w H s.heap a (.dK ks) from rd_of I.hok ea)
  obtain ⟨_, yb, vb, rb, db⟩ := (show ObjOk X.prog X.w H s.heap b (.dK ls) from rd_of I.hok eb)
  have hl : va.length = vb.length := by rw [← ra.length, ← rb.length]; exact hlen
  exact PySem.W.keq_ne (knd := mixKind X.prog X.w) (r := true) ya yb da db hu (fun _ => hits_all rb ra hp) (fin_bl I q (by simp [hl]))
def oSame (v : Bool) : TOp
  | .dic a, .dic b, M, Q => a.length = b.length ∧ (∀ p ∈ a, dlk b p.1 = some p.2 ∧ flatD p.2 = true) ∧ Q (.bl v) M
  | _, _, _, _ => False
theorem flat_uni {F : Hp} {v v' : V} {d : D} (f : flatD d = true) (r : Rp K F v d) (r' : Rp K F v' d) : v = v' ∧ flatB v = true := by
  cases d with
  | non => cases r; cases r'; exact ⟨rfl, rfl⟩
  | bl => cases r; cases r'; exact ⟨rfl, rfl⟩
  | int => cases r; cases r'; exact ⟨rfl, rfl⟩
  | str => cases r; cases r'; exact ⟨rfl, rfl⟩
  | _ => cases f
theorem RpK.same {F : Hp} {ls : List (Key × V)} {b : List (DK × D)} (rb : RpK K F ls b) : ∀ {ks : List (Key × V)} {a : List (DK × D)}, RpK K F ks a → (∀ p ∈ a, dlk b p.1 = some p.2 ∧ flatD p.2 = true) → ∀ p ∈ ks, valV ls p.1 = some p.2 ∧ flatB p.2 = true
  | _, _, .nil, _, _, h => by cases h
  | _, _, .cons (k := j) (v := v) (d := d) r t, hp, p, h => by
    rcases List.mem_cons.mp h with rfl | h
    · obtain ⟨h1, h2⟩ := hp _ (List.mem_cons_self ..)
      obtain ⟨v', e, r'⟩ := (rb.val j).1 d h1
      obtain ⟨rfl, fb⟩ := flat_uni h2 r r'
      exact ⟨e, fb⟩
    · exact RpK.same rb t (fun q hq => hp q (List.mem_cons_of_mem _ hq)) p h
theorem od_same {v : Bool} : OpD K (rSameD v) (oSame v) := by
  intro x y dx dy F M H Q Q0 hm cx cy q k
  cases dx with
  | dic a =>
    cases dy with
    | dic b =>
      obtain ⟨hl, hp, q⟩ := q
      obtain ⟨a, ks, rfl, ea, ra⟩ := cx
      obtain ⟨b, ls, rfl, eb, rb⟩ := cy
      exact ⟨a, b, ks, ls, rfl, rfl, ea, eb, by rw [ra.len, rb.len]; exact hl, RpK.same rb ra hp, k.end hm (.bl _) q⟩
    | _ => exact False.elim q
  | _ => exact False.elim q
theorem dt_eqS (hu : X.A.units + 64 < cLine) (ha : DE X E0 Ee a ta) (hb : DE X E0 Ee b tb) : DT X E0 Ee (.Compare a [.Eq] [b] pos) (dTest (dOp (oSame true) ta tb)) := dt_cmp (op_eqS (by omega)) od_same ha hb (nomark _)
theorem dt_neS (hu : X.A.units + 64 < cLine) (ha : DE X E0 Ee a ta) (hb : DE X E0 Ee b tb) : DT X E0 Ee (.Compare a [.NotEq] [b] pos) (dTest (dOp (oSame false) ta tb)) := dt_cmp (op_neS (by omega)) od_same ha hb (nomark _)
theorem de_eqS (hu : X.A.units + 64 < cLine) (ha : DE X E0 Ee a ta) (hb : DE X E0 Ee b tb) : DE X E0 Ee (.Compare a [.Eq] [b] pos) (dOp (oSame true) ta tb) := de_cmp (op_eqS (by omega)) od_same ha hb (nomark _)
theorem de_neS (hu : X.A.units + 64 < cLine) (ha : DE X E0 Ee a ta) (hb : DE X E0 Ee b tb) : DE X E0 Ee (.Compare a [.NotEq] [b] pos) (dOp (oSame false) ta tb) := de_cmp (op_neS (by omega)) od_same ha hb (nomark _)
theorem same_rfl {kv : List (DK × D)} (nd : (kv.map (·.1)).Nodup) (hf : ∀ p ∈ kv, flatD p.2 = true) : ∀ p ∈ kv, dlk kv p.1 = some p.2 ∧ flatD p.2 = true := by
  refine fun p hp => ⟨?_, hf p hp⟩
  induction kv with
  | nil => cases hp
  | cons q r ih =>
    obtain ⟨j, d⟩ := q
    rw [List.map_cons, List.nodup_cons] at nd
    rw [dlk_cons]
    rcases List.mem_cons.mp hp with rfl | h
    · simp
    · have : j ≠ p.1 := fun e => nd.1 (List.mem_map.mpr ⟨p, h, e.symm⟩)
      rw [if_neg this]
      exact ih nd.2 (fun q hq => hf q (List.mem_cons_of_mem _ hq)) h
/-! ### xs.index(y), texts -/
def dIdx (to te : TDE) : TDE := fun ρ M Q => to ρ M fun x M1 => (∃ ds, vw M1 x = .lst ds) ∧ te ρ M1 fun y M2 => ∃ (ss : List Cd) (s : Cd) (j : Nat), vw M2 x = .lst (ss.map .str) ∧ y = .str s ∧ ss[j]? = some s ∧ (∀ (m : Nat) z, m < j → ss[m]? = some z → z ≠ s) ∧ Q (.int (j : Nat)) M2
theorem eqV_str {s t : Cd} : eqV (.str (mkS s)) (.str (mkS t)) = decide (s = t) := by
  have h := (eqV_flat (K := default) (F := fun _ => none) (H := fun _ => none) (x := .str (mkS s)) (y := .str (mkS t)) (dx := .str s) (dy := .str t) rfl rfl rfl rfl).2.2
  rw [h, e_deq_ss]
  by_cases e : s = t <;> simp [e]
theorem de_idx (ho : DE X E0 Ee o to) (he : DE X E0 Ee e te) (hbase : attributeBase o "index" X.env (eval o X.env) = eval o X.env := by rfl)
    (hfew : ((backTo cpos (starEach [e] X.env)).all (fun x => !x.1) && (backToKw cpos (keywordEach [] X.env)).all (fun x => x.1.isSome) && decide ([e].length + ([] : List Keyword).length + (if ([] : List Keyword).isEmpty then 0 else 1) < 30)) = true := by rfl)
    (hline : (apos.endLine == cpos.line) = true := by rfl) (hs : starEach [e] X.env = (false, eval e X.env) :: starEach [] X.env := by rfl) (hplain : (backTo cpos (starEach [] X.env)).any (·.1) = false := by rfl) :
    DE X E0 Ee (.Call (.Attribute o "index" apos) [e] [] cpos) (dIdx to te) := by
  refine PEimp (pe_bm PySem.F.plainAttrs_list PySem.F.slot_list_index PySem.F.type_list_index mt_index ho (pa_cons he pa_nil hs) hbase hfew hline hs hplain) fun σ H Q0 ⟨F, M, ρ, Q, ss, q, k⟩ => ?_
  refine ⟨F, M, ρ, _, ss, q, fun x H1 F1 dx M1 s1 rx ⟨⟨ds, hd⟩, q1⟩ => ⟨?_, F1, M1, ρ, _, ss.step s1, q1, fun y H2 F2 dy M2 s2 ry ⟨zs, t, j, hv, ey, hj, hn, q2⟩ => ?_⟩⟩
  · have c := Ct.vw s1.hm rx
    rw [hd] at c
    obtain ⟨p, xs, rfl, e, _⟩ := c
    exact .inl ⟨rfl, xs, SqL.of e⟩
  · subst ey
    cases ry
    have c := Ct.vw s2.hm (rx.mono s2.fle)
    rw [hv] at c
    obtain ⟨p, xs, rfl, e, rl⟩ := c
    rw [RpL.of_strs rl, List.map_map] at e
    refine ⟨p, _, _, j, .str (mkS t), rfl, rfl, SqL.of e, rfl, ?_, ?_, ?_, ?_, k _ _ _ _ _ (s1.trans s2) (.int _) q2⟩
    · rw [List.all_map]; exact List.all_eq_true.mpr fun _ _ => rfl
    · rw [List.getElem?_map, hj]; rfl
    · rw [eqV_str]; simp
    · intro m z' hm hz
      rw [List.getElem?_map] at hz
      obtain ⟨z, ez, rfl⟩ := Option.map_eq_some_iff.mp hz
      show eqV (.str (mkS z)) _ = false
      rw [eqV_str]
      simpa using hn m z hm ez
theorem e_dic0 {kv : List (DK × D)} {M : Mp} {Q : D → Mp → Prop} : oDic0 (.dic kv) M Q = Q (.dic kv) M := rfl
theorem e_dic0M {kv : List (DK × D)} {M : Mp} {Q : D → Mp → Prop} : oDic0M (.dic kv) M Q = ∀ p, M p = none → Q (.ref p) (mset M p (.dic kv)) := rfl
theorem e_same {v : Bool} {kv kw : List (DK × D)} {M : Mp} {Q : D → Mp → Prop} : oSame v (.dic kv) (.dic kw) M Q = (kv.length = kw.length ∧ (∀ p ∈ kv, dlk kw p.1 = some p.2 ∧ flatD p.2 = true) ∧ Q (.bl v) M) := rfl
theorem dcut1 {α : Type} {x : α} {xs : List α} : dcut (x :: xs) (some 1) none = xs := by
  simp [dcut, HT.sIx]
theorem sl1 {x : D} {xs : List D} {M : Mp} {Q : D → Mp → Prop} : oSl (.tup (x :: xs)) (some 1) none M Q = Q (.tup xs) M := by
  rw [e_sl_t, dcut1]
  have h : HT.sIx (x :: xs).length 0 (some 1) = 1 := by simp [HT.sIx]
  rw [h]
  simp
theorem dkey_s {s : Cd} : dkey (.str s) = some (.inr s) := rfl
end
/-! ### tests by own methods -/
section
variable {X : Cx} {j k : Nat} {ps : List Str} {sp : DSp} {ok : Addr → Prop} {E0 : L2.St → XK} {Ee : DEnv → DXK} {a b : Expr} {ta tb : TDE} {pos : Pos}
theorem tIn (F : Mt X.prog X.w X.K X.mg X.base j ok "__contains__" ps sp) (hr : Room k X.A) (hj : j ≤ k) (ha : DE X E0 Ee a ta) (hb : DE X E0 Ee b tb) (hm : behindInMarks .In b = false := by rfl) :
    DT X E0 Ee (.Compare a [.In] [b] pos) (dTest (dInOwn ok sp false ta tb)) := by
  obtain ⟨f, fd, F, hb', hC⟩ := F
  exact PTimp (pt_cmpR (op_inOwn (fun C h => ⟨(hC C h).2.at_, (hC C h).2.fn⟩) F (hr.mono hj) hb').1 ha hb hm) fun σ H Q0 h => low_test (t0 := tOp (rInOwn X.K ok (lift X.K sp) false) (lowE X.K E0 Ee ta) (lowE X.K E0 Ee tb)) (fun _ _ _ h => low_inOwn h) h
theorem tNIn (F : Mt X.prog X.w X.K X.mg X.base j ok "__contains__" ps sp) (hr : Room k X.A) (hj : j ≤ k) (ha : DE X E0 Ee a ta) (hb : DE X E0 Ee b tb) (hm : behindInMarks .NotIn b = false := by rfl) :
    DT X E0 Ee (.Compare a [.NotIn] [b] pos) (dTest (dInOwn ok sp true ta tb)) := by
  obtain ⟨f, fd, F, hb', hC⟩ := F
  exact PTimp (pt_cmpR (op_inOwn (fun C h => ⟨(hC C h).2.at_, (hC C h).2.fn⟩) F (hr.mono hj) hb').2 ha hb hm) fun σ H Q0 h => low_test (t0 := tOp (rInOwn X.K ok (lift X.K sp) true) (lowE X.K E0 Ee ta) (lowE X.K E0 Ee tb)) (fun _ _ _ h => low_inOwn h) h
theorem low_eqOwn {K : PySem.W.Frag} {σ : L2.St} {H : Hp} {Q0 : VK} (hn : ∀ C C', ok C → ok C' → PySem.W.notFirst K C (.ref C') = true) (h : lowE K E0 Ee (dEqOwn ok sp ta tb) σ H Q0) : tOp (rEqOwn K ok (lift K sp)) (lowE K E0 Ee ta) (lowE K E0 Ee tb) σ H Q0 := by
  obtain ⟨F, M, ρ, Q, ss, q, k⟩ := h
  refine ⟨F, M, ρ, _, ss, q, fun x H1 F1 dx M1 s1 rx q1 => ⟨F1, M1, ρ, _, ss.step s1, q1, fun y H2 F2 dy M2 s2 ry ⟨C, fs, C', gs, hv, hv', hok, hok', q2⟩ => ?_⟩⟩
  have rx2 := rx.mono s2.fle
  have c := Ct.vw s2.hm rx2
  have c' := Ct.vw s2.hm ry
  rw [hv] at c
  rw [hv'] at c'
  obtain ⟨p, dd, xs, rfl, e, rf⟩ := c
  obtain ⟨p', dd', xs', rfl, e', rf'⟩ := c'
  exact ⟨p, C, dd, xs, p', C', dd', xs', rfl, rfl, e, e', hok, hn C C' hok hok', F2, M2, _, _, DN, s2.hm, .cons rx2 (.cons ry .nil), q2, k.step (s1.trans s2), fun _ _ _ _ _ _ _ _ _ _ z => z⟩
theorem tEq (F : Mt X.prog X.w X.K X.mg X.base j ok "__eq__" ps sp) (hn : ∀ C C', ok C → ok C' → PySem.W.notFirst X.K C (.ref C') = true) (hr : Room k X.A) (hj : j ≤ k) (ha : DE X E0 Ee a ta) (hb : DE X E0 Ee b tb) :
    DT X E0 Ee (.Compare a [.Eq] [b] pos) (dTest (dEqOwn ok sp ta tb)) := by
  obtain ⟨f, fd, F, hb', hC⟩ := F
  exact PTimp (pt_cmpR (op_eqOwn (fun C h => ⟨(hC C h).2.at_, (hC C h).2.fn⟩) F (hr.mono hj) hb') ha hb (nomark _)) fun σ H Q0 h => low_test (t0 := tOp (rEqOwn X.K ok (lift X.K sp)) (lowE X.K E0 Ee ta) (lowE X.K E0 Ee tb)) (fun _ _ _ h => low_eqOwn hn h) h
end
end DL


set_option Elab.async false
set_option linter.all false
set_option maxRecDepth 100000
set_option maxHeartbeats 1000000
namespace DL
open PySem PySem.Spec PyProof.Rows L2
section
variable {α β : Type} {ti : TDA} {g : TDG} {te : TDE} {own : List Nat} {ρ : DEnv} {M : Mp} {Q : D → Mp → Prop}
/-- [te for g in ti], of what is not known before -/
theorem dLc_ex (xs : List α) (mk : α → D) (out : β → D) (P : α → β → Prop) (hti : ∀ R, R (xs.map mk) M → ti ρ M R) (hl : xs.length ≤ 1000000)
    (hb : ∀ (i : Nat) (x : α), xs[i]? = some x → ∀ R : D → Mp → Prop, (∀ y, P x y → R (out y) M) → g (mk x) (dwipe ρ own) M fun ρ2 M2 => te ρ2 M2 R)
    (hq : ∀ ys : List β, ys.length = xs.length → (∀ (i : Nat) x y, xs[i]? = some x → ys[i]? = some y → P x y) → Q (.lst (ys.map out)) M) : dLc ti g dYes te own ρ M Q := by
  unfold dLc dLcG
  refine hti _ ⟨fun i acc M' => M' = M ∧ i ≤ xs.length ∧ ∃ ys : List β, acc = ys.map out ∧ ys.length = i ∧ ∀ (j : Nat) x y, xs[j]? = some x → ys[j]? = some y → P x y, ⟨rfl, Nat.zero_le _, [], rfl, rfl, fun j x y _ h => by simp at h⟩, ?_, ?_⟩
  · rintro i d acc M' hi ⟨rfl, hle, ys, rfl, hyl, hp⟩
    rw [List.getElem?_map] at hi
    cases e : xs[i]? with
    | none => rw [e] at hi; cases hi
    | some x =>
      rw [e] at hi; cases hi
      have hlt := (List.getElem?_eq_some_iff.mp e).1
      refine hb i x e _ fun y hy => ⟨by rw [List.length_map, hyl]; exact szl' (by omega), rfl, by omega, ys ++ [y], by simp, by simp [hyl], fun j x' y' h1 h2 => ?_⟩
      rcases Nat.lt_or_ge j ys.length with h | h
      · rw [List.getElem?_append_left h] at h2; exact hp j x' y' h1 h2
      · rw [List.getElem?_append_right h] at h2
        have hj : j = ys.length := by
          have := (List.getElem?_eq_some_iff.mp h2).1
          simp at this; omega
        subst hj
        rw [hyl, e] at h1
        cases h1
        simp at h2
        rw [← h2]; exact hy
  · rintro acc M' ⟨rfl, hle, ys, rfl, hyl, hp⟩
    rw [List.length_map] at hyl
    exact hq ys hyl hp
end
theorem dIf_or {t : TDT} {a b : TDS} {De : DEnds} {ρ : DEnv} {M : Mp} {Pf : Prop} (ht : ∀ R : Bool → Mp → Prop, R true M → (Pf → R false M) → t ρ M R) (ha : a De ρ M) (hb : Pf → b De ρ M) : dIf t a b De ρ M :=
  ht _ (by simpa using ha) fun h => by simpa using hb h
theorem deqL_nil {xs : List D} : deqL xs [] = xs.isEmpty := by
  cases xs <;> simp [deqL]
theorem deq_nil {xs : List D} : deq (.lst xs) (.lst []) = xs.isEmpty := by
  cases xs <;> simp [deq, deqL]
theorem e_cxK {CX : CXT} {P : Program} {w : World} {K : PySem.W.Frag} {mg : Str → Option Value} {base : Heap} {N : List Str} {qual : Str} {scope : Scope} {f : Addr} {cd : Value} {A : Around} {outer : List Env} {s : Shared} {H : Hp} {E : XK} : (cxOf CX P w K mg base N qual scope f cd A outer s H E).K = K := rfl
theorem sub_ov {M0 M1 : Mp} (cl : Sub M0 M1) : ∀ {r : List (Addr × MO)}, (∀ e ∈ r, M0 e.1 = none) → Sub M0 (ov M1 r)
  | [], _ => cl
  | (p, o) :: r, h => (sub_ov cl fun e he => h e (List.mem_cons_of_mem _ he)).new (h (p, o) (List.mem_cons_self ..))
theorem sub_none {M0 M1 : Mp} (cl : Sub M0 M1) {q : Addr} (h : M1 q = none) : M0 q = none := by
  cases e : M0 q with
  | none => rfl
  | some o => have := cl.le q o e; rw [h] at this; cases this
theorem dSeq_gen {a t : TDS} {De : DEnds} {ρ : DEnv} {M : Mp} (h : ∀ R : DEnv → Mp → Prop, (∀ ρ M, t De ρ M → R ρ M) → a { De with nx := R } ρ M) : dSeq a t De ρ M := h _ fun _ _ z => z
/-! ### dicts whose keys are texts -/
section
variable {α : Type} {f : α → D}
def eD (f : α → D) (kv : List (Cd × α)) : List (DK × D) := kv.map fun p => (.inr p.1, f p.2)
def pG (kv : List (Cd × α)) (s : Cd) (v : α) : List (Cd × α) := if (kv.any fun p => decide (p.1 = s)) = true then kv.map (fun p => if p.1 = s then (p.1, v) else p) else kv ++ [(s, v)]
theorem dlk_eD {kv : List (Cd × α)} {w : Cd} : dlk (eD f kv) (.inr w) = (kv.lookup w).map f := by
  induction kv with
  | nil => rfl
  | cons p r ih =>
    obtain ⟨x, t⟩ := p
    unfold eD at ih ⊢
    rw [List.map_cons, dlk_cons, ih, List.lookup_cons]
    by_cases e : x = w
    · subst e; simp
    · have h1 : (w == x) = false := by simpa using fun h => e h.symm
      rw [if_neg (by intro h; cases h; exact e rfl), h1]
theorem dpu_eD {kv : List (Cd × α)} {s : Cd} {v : α} : dpu (eD f kv) (.inr s) (f v) = eD f (pG kv s v) := by
  unfold dpu pG eD
  have e : ((kv.map fun p => ((.inr p.1 : DK), f p.2)).any fun q => decide (q.1 = .inr s)) = kv.any fun p => decide (p.1 = s) := by
    rw [List.any_map]
    congr 1
    funext p
    simp only [Function.comp, Sum.inr.injEq]
  rw [e]
  split
  · rw [List.map_map, List.map_map]
    apply List.map_congr_left
    intro p _
    by_cases h : p.1 = s <;> simp [h]
  · rw [List.map_append]; rfl
theorem ddrop_eD {kv : List (Cd × α)} {s : Cd} : ddrop (eD f kv) (.inr s) = eD f (kv.filter fun p => decide (p.1 ≠ s)) := by
  unfold ddrop eD
  rw [List.filter_map]
  congr 1
  apply List.filter_congr
  intro p _
  simp only [Function.comp, ne_eq, Sum.inr.injEq]
theorem lookup_cons' {p : Cd × α} {r : List (Cd × α)} {w : Cd} : (p :: r).lookup w = if p.1 = w then some p.2 else r.lookup w := by
  obtain ⟨x, t⟩ := p
  rw [List.lookup_cons]
  by_cases e : x = w
  · subst e; simp
  · have h1 : (w == x) = false := by simpa using fun h => e h.symm
    simp [h1, e]
theorem lookup_pG {s : Cd} {v : α} {w : Cd} : ∀ {kv : List (Cd × α)}, (pG kv s v).lookup w = if w = s then some v else kv.lookup w := by
  intro kv
  have h1 : ∀ kv : List (Cd × α), (kv.map (fun p => if p.1 = s then (p.1, v) else p)).lookup w = if w = s then (kv.lookup w).map (fun _ => v) else kv.lookup w := by
    intro kv
    induction kv with
    | nil => simp
    | cons p r ih =>
      rw [List.map_cons, lookup_cons', lookup_cons', ih]
      by_cases e : p.1 = s
      · by_cases e2 : s = w
        · subst e2; simp [e]
        · have : ¬ w = s := fun h => e2 h.symm
          simp [e, e2, this]
      · by_cases e2 : p.1 = w
        · subst e2; simp [e]
        · simp [e, e2]
  have h2 : ∀ kv : List (Cd × α), (kv ++ [(s, v)]).lookup w = (kv.lookup w).or (if s = w then some v else none) := by
    intro kv
    induction kv with
    | nil => simp [lookup_cons']
    | cons p r ih =>
      rw [List.cons_append, lookup_cons', lookup_cons', ih]
      by_cases e : p.1 = w <;> simp [e]
  have h3 : ∀ kv : List (Cd × α), (kv.any fun p => decide (p.1 = s)) = (kv.lookup s).isSome := by
    intro kv
    induction kv with
    | nil => rfl
    | cons p r ih =>
      rw [List.any_cons, ih, lookup_cons']
      by_cases e : p.1 = s <;> simp [e]
  unfold pG
  rw [h3]
  by_cases hw : w = s
  · subst hw
    cases e : kv.lookup w with
    | none => simp [h2, e]
    | some x => simp [h1, e]
  · cases e : kv.lookup s with
    | none => simp [h2, hw, Ne.symm hw]
    | some x => simp [h1, hw]
theorem pG_mem {s : Cd} {v : α} {kv : List (Cd × α)} {q : Cd × α} (h : q ∈ pG kv s v) : q ∈ kv ∨ (q.2 = v ∧ q.1 = s) := by
  unfold pG at h
  split at h
  · obtain ⟨p, hp, e⟩ := List.mem_map.mp h
    by_cases hs : p.1 = s
    · rw [if_pos hs] at e; right; rw [← e]; exact ⟨rfl, hs⟩
    · rw [if_neg hs] at e; left; rw [← e]; exact hp
  · rcases List.mem_append.mp h with h | h
    · exact .inl h
    · right; rw [List.mem_singleton.mp h]; exact ⟨rfl, rfl⟩
theorem pG_len {s : Cd} {v : α} {kv : List (Cd × α)} : (pG kv s v).length ≤ kv.length + 1 := by
  unfold pG
  split <;> simp
theorem pG_nodup {s : Cd} {v : α} {kv : List (Cd × α)} (h : (kv.map (·.1)).Nodup) : ((pG kv s v).map (·.1)).Nodup := by
  unfold pG
  split
  · have : (kv.map (fun p => if p.1 = s then (p.1, v) else p)).map (·.1) = kv.map (·.1) := by
      rw [List.map_map]
      apply List.map_congr_left
      intro p _
      by_cases e : p.1 = s <;> simp [e]
    rw [this]; exact h
  · rename_i hn
    rw [List.map_append, List.nodup_append]
    refine ⟨h, by simp, fun a ha b hb e => ?_⟩
    simp only [List.map_cons, List.map_nil, List.mem_singleton] at hb
    obtain ⟨p, hp, rfl⟩ := List.mem_map.mp ha
    apply hn
    rw [List.any_eq_true]
    exact ⟨p, hp, by rw [e, hb]; simp⟩
theorem lookup_drop {s w : Cd} : ∀ {kv : List (Cd × α)}, (kv.filter fun p => decide (p.1 ≠ s)).lookup w = if w = s then none else kv.lookup w := by
  intro kv
  induction kv with
  | nil => simp
  | cons p r ih =>
    by_cases e : p.1 = s
    · rw [List.filter_cons_of_neg (by simpa using e), ih, lookup_cons']
      by_cases e2 : w = s
      · simp [e2]
      · have : ¬ s = w := fun h => e2 h.symm
        simp [e2, e, this]
    · rw [List.filter_cons_of_pos (by simpa using e), lookup_cons', ih, lookup_cons']
      by_cases e2 : p.1 = w
      · have : ¬ w = s := fun h => e (e2.trans h)
        simp [e2, this]
      · simp [e2]
theorem eD_len {kv : List (Cd × α)} : (eD f kv).length = kv.length := by simp [eD]
theorem eD_keys {kv : List (Cd × α)} (h : (kv.map (·.1)).Nodup) : ((eD f kv).map (·.1)).Nodup := by
  unfold eD
  rw [List.map_map]
  have : (kv.map ((fun q : DK × D => q.1) ∘ fun p => ((.inr p.1 : DK), f p.2))) = (kv.map (·.1)).map Sum.inr := by rw [List.map_map]; rfl
  rw [this]
  exact List.Pairwise.map _ (fun a b h e => h (Sum.inr.inj e)) h
end
/-- for over what is not known before -/
theorem dFor_n {α : Type} {ti : TDA} {g : TDG} {tb : TDS} {De : DEnds} {ρ : DEnv} {M : Mp} (mk : α → D) (S : List α → Prop) (I : List α → Nat → DEnv → Mp → Prop) (hti : ∀ R : List D → Mp → Prop, (∀ xs, S xs → R (xs.map mk) M) → ti ρ M R) (h0 : ∀ xs, S xs → I xs 0 ρ M)
    (hs : ∀ xs, S xs → ∀ (i : Nat) (x : α) (ρ : DEnv) (M : Mp), xs[i]? = some x → I xs i ρ M → g (mk x) ρ M fun ρ' M' => tb { De with nx := I xs (i + 1), ct := I xs (i + 1), bk := De.nx } ρ' M') (hd : ∀ xs, S xs → ∀ ρ M, I xs xs.length ρ M → De.nx ρ M) : dFor ti g tb De ρ M := by
  unfold dFor
  refine hti _ fun xs hx => ⟨I xs, h0 xs hx, fun i d ρ M hi pv => ?_, fun ρ M h => hd xs hx ρ M (by rw [List.length_map] at h; exact h)⟩
  rw [List.getElem?_map] at hi
  cases e : xs[i]? with
  | none => rw [e] at hi; cases hi
  | some x => rw [e] at hi; cases hi; exact hs xs hx i x ρ M e pv
theorem ifT {c : Prop} {h : Decidable c} {a b : Prop} (hc : c) (ha : a) : @ite _ c h a b := by rw [if_pos hc]; exact ha
theorem ifF {c : Prop} {h : Decidable c} {a b : Prop} (hc : ¬ c) (hb : b) : @ite _ c h a b := by rw [if_neg hc]; exact hb
/-! ### dicts that say the same, whatever they hold -/
def rVal (K : PySem.W.Frag) (H : Hp) (x u : V) : Prop := (u = x ∧ flatB u = true) ∨ ∃ d e, Dp K H x d ∧ Dp K H u e ∧ SeqAt.shaped d = true ∧ SeqAt.shaped e = true ∧ PyData.eqv d e = true
abbrev rSameP (K : PySem.W.Frag) (v : Bool) : R2 := fun x y H Q => ∃ a b ks ls, x = .ref a ∧ y = .ref b ∧ Rd H a (.dK ks) ∧ Rd H b (.dK ls) ∧ ks.length = ls.length ∧ (∀ p ∈ ks, ∃ u, valV ls p.1 = some u ∧ rVal K H p.2 u) ∧ Q (.bl v) H
section
variable {X : Cx}
theorem hitsP {pins : List (Addr × Obj)} {σ : L2.St} {H : Hp} {s : Shared} (I : Inv X pins σ H s) {A : Around} (hu : A.units + 64 < cLine) {ls : List (Key × V)} {vb : List (Key × Value)} (rb : KV ls vb) {ks : List (Key × V)} {va : List (Key × Value)} (ra : KV ks va) :
    (∀ p ∈ ks, ∃ u, valV ls p.1 = some u ∧ rVal X.K H p.2 u) → PySem.W.KeqHits A s vb va true := by
  unfold KV at ra
  induction ra with
  | nil => intro _; exact .nil
  | @cons p q ps qs h t ih =>
    intro hp
    obtain ⟨h1, h2⟩ := h
    obtain ⟨u, e, f⟩ := hp p List.mem_cons_self
    have rr : RelO (some u) (valueAt vb p.1) := by rw [← e]; exact rb.val p.1
    obtain ⟨y, hy, ry⟩ := rr.some_of
    obtain ⟨k, v⟩ := q
    have h1' : p.1 = k := h1
    rw [h1'] at hy
    show PySem.W.KeqHits A s vb ((k, v) :: qs) (true && true)
    refine .hit hy ?_ (ih fun p' hm => hp p' (List.mem_cons_of_mem _ hm))
    rcases f with ⟨rfl, f⟩ | ⟨d, e, hd, he, sd, se, q⟩
    · exact eqAt_same h2 ry f
    · obtain ⟨as, r1⟩ := Dp.reads I d p.2 v hd h2
      obtain ⟨bs, r2⟩ := Dp.reads I e u y he ry
      have := SeqAt.eqAt_reads d e A s v y as bs r1 r2 (SeqAt.canLay_of_shaped sd) (SeqAt.canLay_of_shaped se) (SeqAt.room_of_shaped sd hu)
      rwa [q] at this
theorem op_eqP (hu : X.A.units + 65 < cLine) : OpR X (compareOp .Eq) (rSameP X.K true) := by
  intro pins s σ H x y v u Q I rx ry h
  obtain ⟨a, b, ks, ls, rfl, rfl, ea, eb, hlen, hp, q⟩ := h
  obtain rfl : v = Value.ref a := rx
  obtain rfl : u = Value.ref b := ry
  obtain ⟨_, ya, va, ra, da⟩ := (show ObjOk X.prog X.w H s.heap a (.dK ks) from rd_of I.hok ea)
  obtain ⟨_, yb, vb, rb, db⟩ := (show ObjOk X.prog X.w H s.heap b (.dK ls) from rd_of I.hok eb)
  have hl : va.length = vb.length := by rw [← ra.length, ← rb.length]; exact hlen
  exact PySem.W.keq_eq (knd := mixKind X.prog X.w) (r := true) ya yb da db (by omega) (fun _ => hitsP I (show X.A.units + 1 + 64 < cLine by omega) rb ra hp) (fin_bl I q (by simp [hl]))
theorem op_neP (hu : X.A.units + 65 < cLine) : OpR X (compareOp .NotEq) (rSameP X.K false) := by
  intro pins s σ H x y v u Q I rx ry h
  obtain ⟨a, b, ks, ls, rfl, rfl, ea, eb, hlen, hp, q⟩ := h
  obtain rfl : v = Value.ref a := rx
  obtain rfl : u = Value.ref b := ry
  obtain ⟨_, ya, va, ra, da⟩ := (show ObjOk X.prog X.w H s.heap a (.dK ks) from rd_of I.hok ea)
  obtain ⟨_, yb, vb, rb, db⟩ := (show ObjOk X.prog X.w H s.heap b (.dK ls) from rd_of I.hok eb)
  have hl : va.length = vb.length := by rw [← ra.length, ← rb.length]; exact hlen
  exact PySem.W.keq_ne (knd := mixKind X.prog X.w) (r := true) ya yb da db (by omega) (fun _ => hitsP I (show X.A.units + 1 + 64 < cLine by omega) rb ra hp) (fin_bl I q (by simp [hl]))
def vSame (d e : D) : Prop := (e = d ∧ flatD d = true) ∨ (cmpOk d = true ∧ cmpOk e = true ∧ deq d e = true)
def oSameP (v : Bool) : TOp
  | .dic a, .dic b, M, Q => a.length = b.length ∧ (∀ p ∈ a, ∃ e, dlk b p.1 = some e ∧ vSame p.2 e) ∧ Q (.bl v) M
  | _, _, _, _ => False
theorem RpK.sameP {K : PySem.W.Frag} {F H : Hp} (le : Le F H) {ls : List (Key × V)} {b : List (DK × D)} (rb : RpK K F ls b) : ∀ {ks : List (Key × V)} {a : List (DK × D)}, RpK K F ks a → (∀ p ∈ a, ∃ e, dlk b p.1 = some e ∧ vSame p.2 e) → ∀ p ∈ ks, ∃ u, valV ls p.1 = some u ∧ rVal K H p.2 u
  | _, _, .nil, _, _, h => by cases h
  | _, _, .cons (k := j) (v := v) (d := d) r t, hp, p, h => by
    rcases List.mem_cons.mp h with rfl | h
    · obtain ⟨e, h1, h2⟩ := hp _ (List.mem_cons_self ..)
      obtain ⟨v', e', r'⟩ := (rb.val j).1 e h1
      refine ⟨v', e', ?_⟩
      rcases h2 with ⟨rfl, f⟩ | ⟨c1, c2, q⟩
      · obtain ⟨rfl, fb⟩ := flat_uni f r r'
        exact .inl ⟨rfl, fb⟩
      · obtain ⟨p1, e1, s1⟩ := cmpOk_py c1
        obtain ⟨p2, e2, s2⟩ := cmpOk_py c2
        exact .inr ⟨p1, p2, dp_ct le (Ct.of le r) e1, dp_ct le (Ct.of le r') e2, s1, s2, by rw [deq_py _ _ e1 e2]; exact q⟩
    · exact RpK.sameP le rb t (fun q hq => hp q (List.mem_cons_of_mem _ hq)) p h
theorem od_sameP {K : PySem.W.Frag} {v : Bool} : OpD K (rSameP K v) (oSameP v) := by
  intro x y dx dy F M H Q Q0 hm cx cy q k
  cases dx with
  | dic a =>
    cases dy with
    | dic b =>
      obtain ⟨hl, hp, q⟩ := q
      obtain ⟨a, ks, rfl, ea, ra⟩ := cx
      obtain ⟨b, ls, rfl, eb, rb⟩ := cy
      exact ⟨a, b, ks, ls, rfl, rfl, ea, eb, by rw [ra.len, rb.len]; exact hl, RpK.sameP hm.le rb ra hp, k.end hm (.bl _) q⟩
    | _ => exact False.elim q
  | _ => exact False.elim q
variable {E0 : L2.St → XK} {Ee : DEnv → DXK} {a b : Expr} {ta tb : TDE} {pos : Pos}
theorem dt_eqP (hu : X.A.units + 65 < cLine) (ha : DE X E0 Ee a ta) (hb : DE X E0 Ee b tb) : DT X E0 Ee (.Compare a [.Eq] [b] pos) (dTest (dOp (oSameP true) ta tb)) := dt_cmp (op_eqP hu) od_sameP ha hb (nomark _)
theorem dt_neP (hu : X.A.units + 65 < cLine) (ha : DE X E0 Ee a ta) (hb : DE X E0 Ee b tb) : DT X E0 Ee (.Compare a [.NotEq] [b] pos) (dTest (dOp (oSameP false) ta tb)) := dt_cmp (op_neP hu) od_sameP ha hb (nomark _)
theorem de_eqP (hu : X.A.units + 65 < cLine) (ha : DE X E0 Ee a ta) (hb : DE X E0 Ee b tb) : DE X E0 Ee (.Compare a [.Eq] [b] pos) (dOp (oSameP true) ta tb) := de_cmp (op_eqP hu) od_sameP ha hb (nomark _)
theorem de_neP (hu : X.A.units + 65 < cLine) (ha : DE X E0 Ee a ta) (hb : DE X E0 Ee b tb) : DE X E0 Ee (.Compare a [.NotEq] [b] pos) (dOp (oSameP false) ta tb) := de_cmp (op_neP hu) od_sameP ha hb (nomark _)
theorem e_sameP {v : Bool} {kv kw : List (DK × D)} {M : Mp} {Q : D → Mp → Prop} : oSameP v (.dic kv) (.dic kw) M Q = (kv.length = kw.length ∧ (∀ p ∈ kv, ∃ e, dlk kw p.1 = some e ∧ vSame p.2 e) ∧ Q (.bl v) M) := rfl
end
/-! ### t + u of tuples, u may be empty -/
def oAddT : TOp
  | .tup a, .tup b, M, Q => a ≠ [] ∧ a.length + b.length ≤ sizeLine ∧ Q (.tup (a ++ b)) M
  | _, _, _, _ => False
theorem od_addT {K : PySem.W.Frag} : OpD K (rCatT K) oAddT := by
  intro x y dx dy F M H Q Q0 hm cx cy q k
  cases dx with
  | tup a =>
    cases dy with
    | tup b =>
      obtain ⟨p, xs, rfl, e1, r1⟩ := cx
      obtain ⟨p', ys, rfl, e2, r2⟩ := cy
      obtain ⟨q1, q3, q4⟩ := q
      have h1 : xs ≠ [] := fun z => q1 (List.length_eq_zero_iff.mp (by rw [← r1.length, z]; rfl))
      refine ⟨p, p', xs, ys, rfl, rfl, SqT.of e1, SqT.of e2, h1, by rw [r1.length, r2.length]; exact q3, fun hy => ?_, fun _ => newTup hm (r1.app r2) q4 k⟩
      subst hy
      cases r2
      rw [List.append_nil] at q4
      obtain ⟨F2, s2, e⟩ := Step.tupE hm e1
      exact k _ _ _ _ _ s2 (.tup e (r1.mono s2.fle)) q4
    | _ => exact False.elim q
  | _ => exact False.elim q
theorem de_addT {X : Cx} {E0 : L2.St → XK} {Ee : DEnv → DXK} {a b : Expr} {ta tb : TDE} {pos : Pos} (ha : DE X E0 Ee a ta) (hb : DE X E0 Ee b tb) : DE X E0 Ee (.BinOp a .Add b pos) (dOp oAddT ta tb) := de_op op_catT od_addT ha hb
theorem e_addT {a b : List D} {M : Mp} {Q : D → Mp → Prop} : oAddT (.tup a) (.tup b) M Q = (a ≠ [] ∧ a.length + b.length ≤ sizeLine ∧ Q (.tup (a ++ b)) M) := rfl
end DL


set_option Elab.async false
set_option linter.all false
set_option maxRecDepth 100000
set_option maxHeartbeats 1000000
namespace DL
open PySem PySem.Spec PyProof.Rows L2
/-! ### dict comprehensions whose dict is changed later -/
def dDcM (ti : TDA) (g : TDG) (tt : TDT) (tk tv : TDE) (own : List Nat) : TDE := fun ρ M Q => ti ρ M fun items M1 => ∃ Pv : Nat → List (DK × D) → Mp → Prop, Pv 0 [] M1 ∧
  (∀ i x acc M, items[i]? = some x → Pv i acc M → g x (dwipe ρ own) M fun ρ2 M2 => tt ρ2 M2 fun b M3 => if b = true then tk ρ2 M3 fun y M4 => tv ρ2 M4 fun z M5 => ∃ k, dkey y = some k ∧ acc.length < sizeLine ∧ Pv (i + 1) (dpu acc k z) M5 else Pv (i + 1) acc M3) ∧
  ∀ acc M, Pv items.length acc M → ∀ p, M p = none → Q (.ref p) (mset M p (.dic acc))
section
variable {X : Cx} {E0 : L2.St → XK} {Ee : DEnv → DXK} {kx vx tg iter : Expr} {ifs : List Expr} {scope : Scope} {own : List (Str × Nat)} {ti : TDA} {vs : List Nat} {g : TDG} {tt : TDT} {tk tv : TDE} {pos : Pos}
theorem dcG_lowM {own : List Nat} {fin : D → Mp → Prop} {σ : L2.St} {H F : Hp} {M : Mp} {ρ : DEnv} {Q0 : VK} (hv : ∀ i ∈ vs, i ∈ own) (ss : SS X.K E0 Ee σ H F M ρ) (q : dDcM ti g tt tk tv own ρ M fin) (k : KE X.K F M H fin Q0) :
    tDcP false (lowI X.K E0 Ee ti) (lowG X.K EN NX vs g) (lowT X.K EN NX tt) (lowE X.K EN NX tk) (lowE X.K EN NX tv) own σ H Q0 := by
  refine ⟨F, M, ρ, _, ss, q, fun J H1 F1 items M1 s1 jw q1 D hD => ?_⟩
  obtain ⟨Pv, h0, hs', hd⟩ := q1
  obtain ⟨nM1, nF1⟩ := s1.hm.none hD
  have s1' : Step X.K F1 M1 H1 F1 M1 (upd H1 D (dc0 false)) := (Step.refl s1.hm).hset hD nF1 nM1 _
  refine ⟨fun i m H' => m = items.length - i ∧ i ≤ items.length ∧ ∃ F' M' o acc, Step X.K F1 M1 H1 F' M' H' ∧ F' D = none ∧ M' D = none ∧ H' D = some o ∧ (kkK X.K).rel F' o acc ∧ Pv i acc M', ⟨_, rfl, Nat.zero_le _, F1, M1, _, [], s1', nF1, nM1, upd_same, (kkK X.K).zero _, h0⟩, ?_⟩
  rintro i m H' ⟨rfl, hi, F', M', o, acc, st, nF, nM, eD, ra, pv⟩
  obtain ⟨jw1, jw2⟩ := jw F' M' H' st
  by_cases hlt : i < items.length
  · obtain ⟨go, yl⟩ := jw1 i hlt
    refine .inr ⟨go, fun H2 => ∃ F2 M2 o acc, Step X.K F1 M1 H1 F2 M2 H2 ∧ F2 D = none ∧ M2 D = none ∧ H2 D = some o ∧ (kkK X.K).rel F2 o acc ∧ Pv (i + 1) acc M2, fun H2 h2 => ⟨_, by omega, rfl, hlt, h2⟩, fun x H2 y => ?_⟩
    obtain ⟨F2, s2, rx⟩ := yl x H2 y
    have hx : items[i]? = some items[i] := List.getElem?_eq_getElem hlt
    have st2 := st.trans s2
    refine ⟨F2, M', dwipe ρ own, items[i], _, ⟨s2.hm, ((ss.env.mono s1.fle).mono st2.fle).wipe _, xc_no⟩, rx _ hx, hs' i _ acc M' hx pv, fun σ3 H3 F3 ρ3 M3 s3 e3 f3 q3 => ⟨?_, ?_⟩⟩
    · have z := f3 own hv
      rw [z]
      have ww : ∀ (ws : List Nat) (τ : L2.St), (∀ i ∈ ws, i ∈ own) → L2.wipe (L2.wipe τ ws) own = L2.wipe τ own := by
        intro ws
        induction ws with
        | nil => intro τ _; rfl
        | cons w ws ih =>
          intro τ h
          show L2.wipe ((L2.wipe τ ws).set w none) _ = _
          rw [wipe_set _ _ _ (h w (by simp)), ih τ fun i hi => h i (by simp [hi])]
      exact ww _ σ fun i h => h
    · refine ⟨F3, M3, ρ3, _, ⟨s3.hm, e3, xc_no⟩, q3, fun b H4 F4 d M4 s4 r4 q4 => ?_⟩
      have r' : b = d := r4
      subst r'
      have s24 := s2.trans (s3.trans s4)
      obtain ⟨h1, h2, h3⟩ := s24.hidO eD ((kkK X.K).nt ra) nF nM
      cases b with
      | true =>
        rw [if_pos rfl] at q4
        refine iteT ⟨F4, M4, ρ3, _, ⟨s4.hm, e3.mono s4.fle, xc_no⟩, q4, fun v H5 F5 dv M5 s5 r5 q5 => ⟨F5, M5, ρ3, _, ⟨s5.hm, (e3.mono s4.fle).mono s5.fle, xc_no⟩, q5, fun z H6 F6 dz M6 s6 r6 ⟨k, ek, hl, p6⟩ => ?_⟩⟩
        have s56 := s5.trans s6
        obtain ⟨g1, g2, g3⟩ := s56.hidO h1 ((kkK X.K).nt ra) h2 h3
        have ra6 := (kkK X.K).mono (s24.trans s56).fle ra
        obtain ⟨o', pu, ra'⟩ := (kkK X.K).put s6.hm.le g1 ra6 (r5.mono s6.fle) ek r6 hl
        exact ⟨_, pu, F6, M6, o', _, (st.trans (s24.trans s56)).hset hD g2 g3 _, g2, g3, upd_same, ra', p6⟩
      | false => exact iteF ⟨F4, M4, o, acc, st.trans s24, h2, h3, h1, (kkK X.K).mono s24.fle ra, by simpa using q4⟩
  · have e : i = items.length := by omega
    subst e
    obtain ⟨xs, eo, rr⟩ := ra
    subst eo
    have s3 := st.hmut (mo := .dic acc) hD nF nM ⟨xs, eD, rr⟩
    exact .inl ⟨jw2, k _ _ _ _ _ (s1.trans s3) (.ref D) (hd acc M' pv D nM)⟩
theorem de_dcGM (hu : X.A.units + 1 < cLine) (hc : X.calm = true) (hN : X.N.Nodup) (hi : DI X E0 Ee tg iter ti) (ok : BlkOk X.N X.env.scope scope own)
    (hg : ∀ (s : Shared) (H : Hp) (C : Addr) (cl : List (Str × Addr)) (fp : List Addr), DG (X.blk s H scope (compEnvC scope cl C X.env) fp) EN NX vs tg g) (ht : ∀ (s : Shared) (H : Hp) (C : Addr) (cl : List (Str × Addr)) (fp : List Addr), DTs (X.blk s H scope (compEnvC scope cl C X.env) fp) EN NX ifs tt)
    (hk : ∀ (s : Shared) (H : Hp) (C : Addr) (cl : List (Str × Addr)) (fp : List Addr), DE (X.blk s H scope (compEnvC scope cl C X.env) fp) EN NX kx tk)
    (he : ∀ (s : Shared) (H : Hp) (C : Addr) (cl : List (Str × Addr)) (fp : List Addr), DE (X.blk s H scope (compEnvC scope cl C X.env) fp) EN NX vx tv) (hv : ∀ i ∈ vs, i ∈ own.map (·.2)) (hs : ∀ x, foldedSetIterable iter X.env x = pure x := by intro _; rfl) :
    DE X E0 Ee (.DictComp kx vx [⟨tg, iter, ifs, 0⟩] scope pos) (dDcM ti g tt tk tv (own.map (·.2))) :=
  PEimp (pe_dcP (kd := false) (g := lowG X.K EN NX vs g) (tt := lowT X.K EN NX tt) (tk := lowE X.K EN NX tk) (tv := lowE X.K EN NX tv) hu hc hN hi ok hg ht hk he hs) fun σ H Q0 ⟨F, M, ρ, Q, ss, q, k⟩ => dcG_lowM hv ss q k
theorem ds_setDcGM {i : Nat} {y : Str} {py spos : Pos} (hu : X.A.units + 1 < cLine) (hc : X.calm = true) (hN : X.N.Nodup) (hy : X.N[i]? = some y) (hyl : X.env.scope.names.lookup y = some .local) (hsw : swapsWith (.DictComp kx vx [⟨tg, iter, ifs, 0⟩] scope pos) (some (.Name y py)) spos.line X.env = pure true) (hi : DI X E0 Ee tg iter ti) (ok : BlkOk X.N X.env.scope scope own)
    (hg : ∀ (s : Shared) (H : Hp) (C : Addr) (cl : List (Str × Addr)) (fp : List Addr), DG (X.blk s H scope (compEnvC scope cl C X.env) fp) EN NX vs tg g) (ht : ∀ (s : Shared) (H : Hp) (C : Addr) (cl : List (Str × Addr)) (fp : List Addr), DTs (X.blk s H scope (compEnvC scope cl C X.env) fp) EN NX ifs tt)
    (hk : ∀ (s : Shared) (H : Hp) (C : Addr) (cl : List (Str × Addr)) (fp : List Addr), DE (X.blk s H scope (compEnvC scope cl C X.env) fp) EN NX kx tk)
    (he : ∀ (s : Shared) (H : Hp) (C : Addr) (cl : List (Str × Addr)) (fp : List Addr), DE (X.blk s H scope (compEnvC scope cl C X.env) fp) EN NX vx tv) (hv : ∀ i ∈ vs, i ∈ own.map (·.2)) (hs : ∀ x, foldedSetIterable iter X.env x = pure x := by intro _; rfl) :
    DS X E0 Ee (.Assign [.Name y py] (.DictComp kx vx [⟨tg, iter, ifs, 0⟩] scope pos) spos) (dSet i (dDcM ti g tt tk tv (own.map (·.2)))) :=
  PSimp (ps_setDcP (kd := false) (g := lowG X.K EN NX vs g) (tt := lowT X.K EN NX tt) (tk := lowE X.K EN NX tk) (tv := lowE X.K EN NX tv) hu hc hN hy hyl hsw hi ok hg ht hk he hs) fun D0 σ H ⟨F, M, ρ, D, ss, q, k⟩ =>
    dcG_lowM (Q0 := fun x H1 => gName i x σ H1 D0.nx) hv ss q fun v H1 F1 d M1 s1 r q1 => k.nx _ _ _ _ _ s1 ((ss.env.mono s1.fle).set i r) q1
end
/-! ### list(d) of a dict: its keys -/
def kD : DK → D
  | .inl i => .int i
  | .inr s => .str s
theorem kD_rp {K : PySem.W.Frag} {F : Hp} : ∀ k : DK, Rp K F (kV (toK k)) (kD k)
  | .inl _ => .int _
  | .inr _ => .str _
theorem RpK.keysL {K : PySem.W.Frag} {F : Hp} : ∀ {xs : List (Key × V)} {ds : List (DK × D)}, RpK K F xs ds → RpL K F (xs.map fun kv => kV kv.1) (ds.map fun p => kD p.1)
  | _, _, .nil => .nil
  | _, _, .cons (k := j) _ t => .cons (kD_rp j) (RpK.keysL t)
theorem call_list_dR {X : Cx} (hc : X.calm = true) : CallR X (.type "list") (fun xs H Q => ∃ p kvs, xs = [V.ref p] ∧ Rd H p (.dK kvs) ∧ ∀ q, H q = none → Q (.ref q) (upd H q (.lst (kvs.map fun kv => kV kv.1)))) := by
  intro pins s σ H xs us Q I r h
  obtain ⟨p, kvs, e, hk, q⟩ := h
  subst e
  obtain ⟨u, eu, rx⟩ := vals1 r
  subst eu
  obtain rfl : u = Value.ref p := rx
  obtain ⟨z, lo, vs, rk, hd⟩ := (show ObjOk X.prog X.w H s.heap p (.dK kvs) from rd_of I.hok hk)
  obtain ⟨ep, hat⟩ := hd.dictAt
  have hl : kvs.length = vs.length := Paired.length rk
  refine PySem.W.kdl_call (PySem.W.kdl_dict (knd := mixKind X.prog X.w) (kvs := vs) (ep := ep) lo) (I.ok.hd hc) hat (by rw [← hl]; exact z) fun h' tk acc' c' hkeep hS hacc => ?_
  refine ⟨.ref s.heap.objs.size, upd H s.heap.objs.size (.lst (kvs.map fun kv => kV kv.1)), I.laid hkeep (Nat.le_refl _) (show ObjOk X.prog X.w _ _ _ (.lst (kvs.map fun kv => kV kv.1)) from ⟨?_, acc'.toList, c', ?_, ?_⟩), rfl, q _ (I.hok.fresh (Nat.le_refl _))⟩
  · rw [List.length_map]; exact z
  · have el : acc'.toList.length = acc'.size := by simp
    refine vals_of_at (by rw [List.length_map, el, hacc.1, hl]) fun j x w h1 h2 => ?_
    obtain ⟨k, y, hky, hi⟩ := hacc.2 j w (by rw [← Array.getElem?_toList]; exact h2)
    have e1 : (kvs.map (·.1))[j]? = some k := by
      rw [KV.keys rk, List.getElem?_map, hky] <;> rfl
    have e2 : (kvs.map fun kv => kV kv.1)[j]? = some (kV k) := by
      have e3 : (kvs.map fun kv => kV kv.1) = (kvs.map (·.1)).map kV := by rw [List.map_map] <;> rfl
      rw [e3, List.getElem?_map, e1] <;> rfl
    rw [e2] at h1
    cases h1
    exact keyIs_rel hi
  · rw [Array.toArray_toList]; exact hS
def oLstD : D → Mp → (D → Mp → Prop) → Prop
  | .dic s, M, Q => Q (.lst (s.map fun p => kD p.1)) M
  | _, _, _ => False
def oLstDM : D → Mp → (D → Mp → Prop) → Prop
  | .dic s, M, Q => ∀ p, M p = none → Q (.ref p) (mset M p (.lst (s.map fun p => kD p.1)))
  | _, _, _ => False
section
variable {K : PySem.W.Frag}
theorem cd_lstD : CallD K (fun xs H Q => ∃ p kvs, xs = [V.ref p] ∧ Rd H p (.dK kvs) ∧ ∀ q, H q = none → Q (.ref q) (upd H q (.lst (kvs.map fun kv => kV kv.1)))) (f1 oLstD) := cd1 fun x d F M H Q Q0 hm c r q k => by
  generalize vw M d = d' at c q
  cases d' with
  | dic s => obtain ⟨p, xs, rfl, e, rl⟩ := c; exact ⟨p, xs, rfl, e, newLst hm rl.keysL q k⟩
  | _ => exact False.elim q
theorem cd_lstDM : CallD K (fun xs H Q => ∃ p kvs, xs = [V.ref p] ∧ Rd H p (.dK kvs) ∧ ∀ q, H q = none → Q (.ref q) (upd H q (.lst (kvs.map fun kv => kV kv.1)))) (f1 oLstDM) := cd1 fun x d F M H Q Q0 hm c r q k => by
  generalize vw M d = d' at c q
  cases d' with
  | dic s => obtain ⟨p, xs, rfl, e, rl⟩ := c; exact ⟨p, xs, rfl, e, newMut hm rl.keysL q k⟩
  | _ => exact False.elim q
end
section
variable {X : Cx} {E0 : L2.St → XK} {Ee : DEnv → DXK} {a b e o : Expr} {ta tb te to : TDE} {pos apos cpos : Pos}
theorem de_lstD {p : Pos} (hc : X.calm = true) (hg : Gl X "list") (hm : X.mg "list" = none) (ha : DE X E0 Ee e te) (h1 : starEach [e] X.env = (false, eval e X.env) :: starEach [] X.env := by rfl) : DE X E0 Ee (.Call (.Name "list" p) [e] [] pos) (dCallB (f1 oLstD) (dCons te dNil)) :=
  de_callTy (call_list_dR hc) cd_lstD hg hm (by decide +kernel) (da_cons ha da_nil h1) (by decide) (by decide) h1
theorem de_lstDM {p : Pos} (hc : X.calm = true) (hg : Gl X "list") (hm : X.mg "list" = none) (ha : DE X E0 Ee e te) (h1 : starEach [e] X.env = (false, eval e X.env) :: starEach [] X.env := by rfl) : DE X E0 Ee (.Call (.Name "list" p) [e] [] pos) (dCallB (f1 oLstDM) (dCons te dNil)) :=
  de_callTy (call_list_dR hc) cd_lstDM hg hm (by decide +kernel) (da_cons ha da_nil h1) (by decide) (by decide) h1
/-! ### d.clear() -/
def dClr (to : TDE) : TDE := fun ρ M Q => to ρ M fun x M1 => ∃ p kv, x = .ref p ∧ M1 p = some (.dic kv) ∧ Q .non (mset M1 p (.dic []))
theorem de_clear (ho : DE X E0 Ee o to) (hbase : attributeBase o "clear" X.env (eval o X.env) = eval o X.env := by rfl) (hline : (apos.endLine == cpos.line) = true := by rfl) : DE X E0 Ee (.Call (.Attribute o "clear" apos) [] [] cpos) (dClr to) := by
  refine PEimp (pe_dclear ho hbase hline) fun σ H Q0 ⟨F, M, ρ, Q, ss, q, k⟩ => ?_
  refine ⟨F, M, ρ, _, ss, q, fun x H1 F1 dx M1 s1 rx ⟨a, kv1, ex, e1, q1⟩ => ?_⟩
  subst ex
  cases rx
  obtain ⟨xs1, g1, _⟩ := (s1.hm.mo a _ e1).2
  refine ⟨?_, a, xs1, rfl, rfl, g1, ?_⟩
  · exact .inr (.inr (.inl ⟨rfl, .inl ⟨xs1, g1⟩⟩))
  · have s4 := Step.wr s1.hm (o := .dK []) (mo := .dic []) e1 (by intro z; cases z) ⟨_, upd_same, .nil⟩
    exact k _ _ _ _ _ (s1.trans s4) .non q1
/-! ### what is told may be None or a thing of its own -/
def oFrz : D → Mp → (D → Mp → Prop) → Prop
  | .ref p, M, Q => ∃ mo d2, M p = some mo ∧ frzD mo = some d2 ∧ Q d2 (mdel M p)
  | d, M, Q => Q d M
def dFrzO (te : TDE) : TDE := fun ρ M Q => te ρ M fun d M1 => oFrz d M1 Q
theorem de_frzO (h : DE X E0 Ee e te) : DE X E0 Ee e (dFrzO te) := PEimp h fun σ H Q0 ⟨F, M, ρ, Q, ss, q, k⟩ => by
  refine ⟨F, M, ρ, _, ss, q, fun v H1 F1 d M1 s1 r q1 => ?_⟩
  cases d with
  | ref p =>
    obtain ⟨mo, d2, e1, e2, q1⟩ := q1
    cases r
    obtain ⟨F', s2, r2⟩ := Step.frzE s1.hm e1 e2
    exact k _ _ _ _ _ (s1.trans s2) r2 q1
  | _ => exact k _ _ _ _ _ s1 r q1
/-! ### a dict or None against another -/
/-- the same dict, or data that is compared as such (eq = the answer is ==) -/
def oSameN (eq : Bool) : TOp := fun x y M Q => (∃ a b, x = .dic a ∧ y = .dic b ∧ a.length = b.length ∧ (∀ p ∈ a, dlk b p.1 = some p.2 ∧ flatD p.2 = true) ∧ Q (.bl eq) M) ∨ (flatD x = true ∧ flatD y = true ∧ Q (.bl (if eq then deq x y else !deq x y)) M)
theorem od_eqN {K : PySem.W.Frag} : OpD K (fun x y H Q => rEq2 K x y H Q ∨ rSameD true x y H Q) (oSameN true) := by
  intro x y dx dy F M H Q Q0 hm cx cy q k
  rcases q with ⟨a, b, rfl, rfl, q⟩ | ⟨h1, h2, q⟩
  · exact .inr (od_same (v := true) x y _ _ F M H Q Q0 hm cx cy (show oSame true (.dic a) (.dic b) M Q from q) k)
  · exact .inl (od_eq x y dx dy F M H Q Q0 hm cx cy ⟨.inl ⟨h1, h2⟩, by simpa using q⟩ k)
theorem od_neN {K : PySem.W.Frag} : OpD K (fun x y H Q => rNe2 K x y H Q ∨ rSameD false x y H Q) (oSameN false) := by
  intro x y dx dy F M H Q Q0 hm cx cy q k
  rcases q with ⟨a, b, rfl, rfl, q⟩ | ⟨h1, h2, q⟩
  · exact .inr (od_same (v := false) x y _ _ F M H Q Q0 hm cx cy (show oSame false (.dic a) (.dic b) M Q from q) k)
  · exact .inl (od_ne x y dx dy F M H Q Q0 hm cx cy ⟨.inl ⟨h1, h2⟩, by simpa using q⟩ k)
theorem dt_eqN (hu : X.A.units + 64 < cLine) (ha : DE X E0 Ee a ta) (hb : DE X E0 Ee b tb) : DT X E0 Ee (.Compare a [.Eq] [b] pos) (dTest (dOp (oSameN true) ta tb)) := dt_cmp ((op_eq.or (op_eqD hu)).or (op_eqS (by omega))) od_eqN ha hb (nomark _)
theorem dt_neN (hu : X.A.units + 64 < cLine) (ha : DE X E0 Ee a ta) (hb : DE X E0 Ee b tb) : DT X E0 Ee (.Compare a [.NotEq] [b] pos) (dTest (dOp (oSameN false) ta tb)) := dt_cmp ((op_ne.or (op_neD hu)).or (op_neS (by omega))) od_neN ha hb (nomark _)
theorem de_eqN (hu : X.A.units + 64 < cLine) (ha : DE X E0 Ee a ta) (hb : DE X E0 Ee b tb) : DE X E0 Ee (.Compare a [.Eq] [b] pos) (dOp (oSameN true) ta tb) := de_cmp ((op_eq.or (op_eqD hu)).or (op_eqS (by omega))) od_eqN ha hb (nomark _)
theorem de_neN (hu : X.A.units + 64 < cLine) (ha : DE X E0 Ee a ta) (hb : DE X E0 Ee b tb) : DE X E0 Ee (.Compare a [.NotEq] [b] pos) (dOp (oSameN false) ta tb) := de_cmp ((op_ne.or (op_neD hu)).or (op_neS (by omega))) od_neN ha hb (nomark _)
end
section
variable {α : Type} {ti : TDA} {g : TDG} {tk tv : TDE} {own : List Nat} {ρ : DEnv} {M : Mp} {Q : D → Mp → Prop}
theorem dDcM_nodup (xs : List α) (mk : α → D) (fkD : α → D) (fk : α → DK) (fv : α → D) (hti : ∀ R, R (xs.map mk) M → ti ρ M R) (hl : xs.length ≤ 1000000) (hn : (xs.map fk).Nodup)
    (hkd : ∀ x, dkey (fkD x) = some (fk x)) (hb : ∀ (i : Nat) (x : α), xs[i]? = some x → ∀ R2 : D → D → Mp → Prop, R2 (fkD x) (fv x) M → g (mk x) (dwipe ρ own) M fun ρ2 M2 => tk ρ2 M2 fun y M4 => tv ρ2 M4 fun z M5 => R2 y z M5)
    (hq : ∀ p, M p = none → Q (.ref p) (mset M p (.dic (xs.map fun x => (fk x, fv x))))) : dDcM ti g dYes tk tv own ρ M Q := by
  unfold dDcM
  refine hti _ ⟨fun i acc M' => M' = M ∧ i ≤ xs.length ∧ acc = (xs.take i).map fun x => (fk x, fv x), ⟨rfl, Nat.zero_le _, rfl⟩, ?_, ?_⟩
  · rintro i d acc M' hi ⟨rfl, hle, rfl⟩
    rw [List.getElem?_map] at hi
    cases e : xs[i]? with
    | none => rw [e] at hi; cases hi
    | some x =>
      rw [e] at hi; cases hi
      have hlt := (List.getElem?_eq_some_iff.mp e).1
      have := hb i x e (fun y z M5 => ∃ k, dkey y = some k ∧ ((xs.take i).map fun x => (fk x, fv x)).length < sizeLine ∧ M5 = M' ∧ i + 1 ≤ xs.length ∧ dpu ((xs.take i).map fun x => (fk x, fv x)) k z = (xs.take (i + 1)).map fun x => (fk x, fv x)) ?_
      · simpa only [dYes, if_true] using this
      · refine ⟨_, hkd x, by rw [List.length_map, List.length_take]; exact szl' (by omega), rfl, hlt, ?_⟩
        rw [List.take_add_one, e, Option.toList_some, List.map_append]
        unfold dpu
        rw [if_neg]
        · rfl
        · rw [List.any_eq_true]
          rintro ⟨⟨k, v⟩, hm, hkv⟩
          have hkv := of_decide_eq_true hkv
          obtain ⟨x', hx', ex⟩ := List.mem_map.mp hm
          cases ex
          obtain ⟨j, hj⟩ := List.mem_iff_getElem?.mp hx'
          have hj2 : j < i := by
            have := (List.getElem?_eq_some_iff.mp hj).1
            rw [List.length_take] at this; omega
          rw [List.getElem?_take_of_lt hj2] at hj
          have n1 : (xs.map fk)[j]? = some (fk x') := by rw [List.getElem?_map, hj]; rfl
          have n2 : (xs.map fk)[i]? = some (fk x) := by rw [List.getElem?_map, e]; rfl
          have := (List.getElem?_inj (by rw [List.length_map]; omega) hn).mp (n1.trans ((congrArg some hkv).trans n2.symm))
          omega
  · rintro acc M' ⟨rfl, _, rfl⟩
    rw [List.length_map, List.take_length]; exact hq
end
theorem e_lstD {kv : List (DK × D)} {M : Mp} {Q : D → Mp → Prop} : oLstD (.dic kv) M Q = Q (.lst (kv.map fun p => kD p.1)) M := rfl
theorem e_lstDM {kv : List (DK × D)} {M : Mp} {Q : D → Mp → Prop} : oLstDM (.dic kv) M Q = ∀ p, M p = none → Q (.ref p) (mset M p (.lst (kv.map fun p => kD p.1))) := rfl
theorem keys_eD {α : Type} {f : α → D} {kv : List (Cd × α)} : ((eD f kv).map fun p => kD p.1) = (kv.map (·.1)).map D.str := by
  unfold eD
  rw [List.map_map, List.map_map]; rfl
theorem vw_non {M : Mp} : vw M .non = .non := rfl
theorem oSameN_non {b : Bool} {M : Mp} {Q : D → Mp → Prop} (q : Q (.bl b) M) : oSameN b .non .non M Q := .inr ⟨rfl, rfl, by cases b <;> exact q⟩
theorem oSameN_dic {b : Bool} {a : List (DK × D)} {M : Mp} {Q : D → Mp → Prop} (nd : (a.map (·.1)).Nodup) (hf : ∀ p ∈ a, flatD p.2 = true) (q : Q (.bl b) M) : oSameN b (.dic a) (.dic a) M Q := .inl ⟨a, a, rfl, rfl, rfl, same_rfl nd hf, q⟩
end DL


set_option Elab.async false
set_option linter.all false
set_option maxRecDepth 100000
set_option maxHeartbeats 1000000
namespace EK
open PySem PySem.Spec PyProof.Rows L2 DL
def letters : Cd := [97, 98, 99, 100, 101, 102, 103, 104, 105, 106, 107, 108, 109, 110, 111, 112, 113, 114, 115, 116, 117, 118, 119, 120, 121, 122]
def chars : Cd := letters ++ [48, 49, 50, 51, 52, 53, 54, 55, 56, 57]
/-! ### tuples -/
def tuplesOf {α : Type} (xs : List α) : Nat → List (List α)
  | 0 => [[]]
  | n + 1 => (tuplesOf xs n).flatMap fun row => xs.map fun x => row ++ [x]
theorem tuplesOf_map {α β : Type} (f : α → β) (xs : List α) : ∀ n, tuplesOf (xs.map f) n = (tuplesOf xs n).map (List.map f)
  | 0 => rfl
  | n + 1 => by
    simp only [tuplesOf, tuplesOf_map f xs n, List.flatMap_map, List.map_flatMap, List.map_map]
    congr 1
    funext row
    apply List.map_congr_left
    intro x _
    simp
theorem tuplesOf_length {α : Type} (xs : List α) : ∀ n, (tuplesOf xs n).length = xs.length ^ n
  | 0 => rfl
  | n + 1 => by
    have : ∀ ys : List (List α), (ys.flatMap fun row => xs.map fun x => row ++ [x]).length = ys.length * xs.length := by
      intro ys
      induction ys with
      | nil => simp
      | cons y ys ih => simp only [List.flatMap_cons, List.length_append, List.length_map, ih, List.length_cons, Nat.succ_mul]; omega
    simp only [tuplesOf, this, tuplesOf_length xs n, Nat.pow_succ]
theorem tuplesOf_mem {α : Type} {xs : List α} : ∀ {n : Nat} {row : List α}, row ∈ tuplesOf xs n ↔ row.length = n ∧ ∀ x ∈ row, x ∈ xs
  | 0, row => by
    simp only [tuplesOf, List.mem_singleton]
    constructor
    · intro h; subst h; exact ⟨rfl, fun _ h => by cases h⟩
    · rintro ⟨h, _⟩; exact List.length_eq_zero_iff.mp h
  | n + 1, row => by
    simp only [tuplesOf, List.mem_flatMap, List.mem_map]
    constructor
    · rintro ⟨r, hr, x, hx, rfl⟩
      obtain ⟨h1, h2⟩ := tuplesOf_mem.mp hr
      refine ⟨by simp [h1], fun y hy => ?_⟩
      rcases List.mem_append.mp hy with h | h
      · exact h2 y h
      · rw [List.mem_singleton.mp h]; exact hx
    · rintro ⟨h1, h2⟩
      have hne : row ≠ [] := fun e => by rw [e] at h1; cases h1
      refine ⟨row.dropLast, tuplesOf_mem.mpr ⟨by simp [h1], fun x hx => h2 x (List.dropLast_subset row hx)⟩, row.getLast hne, h2 _ (List.getLast_mem hne), List.dropLast_concat_getLast hne⟩
theorem flatMap_nodup {α β : Type} {f : α → List β} : ∀ {xs : List α}, xs.Nodup → (∀ x ∈ xs, (f x).Nodup) → (∀ x ∈ xs, ∀ y ∈ xs, x ≠ y → ∀ z, z ∈ f x → z ∉ f y) → (xs.flatMap f).Nodup
  | [], _, _, _ => by simp
  | x :: xs, hn, h1, h2 => by
    simp only [List.nodup_cons] at hn
    rw [List.flatMap_cons, List.nodup_append]
    refine ⟨h1 x (by simp), flatMap_nodup hn.2 (fun y hy => h1 y (by simp [hy])) (fun a ha b hb => h2 a (by simp [ha]) b (by simp [hb])), fun a ha b hb e => ?_⟩
    obtain ⟨y, hy, hb'⟩ := List.mem_flatMap.mp hb
    subst e
    exact h2 x (by simp) y (by simp [hy]) (fun e => hn.1 (e ▸ hy)) a ha hb'
theorem tuplesOf_nodup {α : Type} {xs : List α} (hn : xs.Nodup) : ∀ n, (tuplesOf xs n).Nodup
  | 0 => by simp [tuplesOf]
  | n + 1 => by
    refine flatMap_nodup (tuplesOf_nodup hn n) (fun row _ => ?_) fun a ha b hb ne z hz hz' => ?_
    · exact List.Pairwise.map _ (fun a b h e => h (by simpa using e)) hn
    · obtain ⟨x, _, rfl⟩ := List.mem_map.mp hz
      obtain ⟨y, _, e⟩ := List.mem_map.mp hz'
      have := List.append_inj_left' e rfl
      exact ne this.symm
/-! ### algebras, by places -/
structure Op where
  sg : Cd
  ar : Nat
  vs : List Nat
structure Alg where
  mem : List Cd
  ops : List Op
def Wrd (s : Cd) : Prop := s.length ≤ 1000 ∧ ∀ c ∈ s, c < 0x110000
def Alg.n (A : Alg) : Nat := A.mem.length
def Alg.nm (A : Alg) (i : Nat) : Cd := A.mem.getD i []
structure Op.Ok (n : Nat) (o : Op) : Prop where
  wd : Wrd o.sg
  ar : o.ar ≤ 2
  len : o.vs.length = n ^ o.ar
  lt : ∀ v ∈ o.vs, v < n
structure Alg.Ok (A : Alg) : Prop where
  ne : A.mem ≠ []
  nd : A.mem.Nodup
  wd : ∀ m ∈ A.mem, Wrd m
  le : A.n ≤ 100
  lo : A.ops.length ≤ 20
  sn : (A.ops.map (·.sg)).Nodup
  op : ∀ o ∈ A.ops, o.Ok A.n
/-- the place of a row among all -/
def spot (n : Nat) (row : List Nat) : Nat := row.foldl (fun s p => s * n + p) 0
def Op.at (o : Op) (n : Nat) (row : List Nat) : Nat := o.vs.getD (spot n row) 0
def rowsN (n a : Nat) : List (List Nat) := tuplesOf (List.range n) a
/-! as data -/
def sL (ss : List Cd) : List D := ss.map .str
def nL (ns : List Nat) : List D := ns.map fun (n : Nat) => D.int (n : Int)
def Alg.ordD (A : Alg) : D := .tup (sL A.mem)
def Alg.plcL (A : Alg) : List (DK × D) := A.mem.zipIdx.map fun p => (.inr p.1, .int (p.2 : Int))
def Op.sigD (o : Op) : D := .tup [.str o.sg, .int (o.ar : Int)]
def Alg.sigD (A : Alg) : D := .tup (A.ops.map Op.sigD)
def Alg.ariL (A : Alg) : List (DK × D) := A.ops.map fun o => (.inr o.sg, .int (o.ar : Int))
def Alg.valD (A : Alg) (o : Op) : List D := sL (o.vs.map A.nm)
def Alg.rowD (A : Alg) (o : Op) : D := .tup [.str o.sg, .int (o.ar : Int), .tup (A.valD o)]
def Alg.rowsD (A : Alg) : D := .tup (A.ops.map A.rowD)
def Alg.tabL (A : Alg) (o : Op) : List (List DK × D) := ((tuplesOf A.mem o.ar).zip (o.vs.map A.nm)).map fun p => (p.1.map .inr, .str p.2)
def Alg.tabsL (A : Alg) : List (DK × D) := A.ops.map fun o => (.inr o.sg, .dit (A.tabL o))
def Alg.whoD (A : Alg) : D := .tup [A.ordD, A.rowsD]
def Alg.objF (A : Alg) : List (Str × D) := [("order", A.ordD), ("places", .dic A.plcL), ("signature", A.sigD), ("arities", .dic A.ariL), ("rows", A.rowsD), ("tables", .dic A.tabsL), ("whole", A.whoD)]
def Alg.obj (A : Alg) (C : Addr) : D := .obj C A.objF
/-- as the law holds it -/
def kMem : Cd := [109, 101, 109, 98, 101, 114, 115]
def kSig : Cd := [115, 105, 103, 110, 115]
def kVal : Cd := [118, 97, 108, 117, 101, 115]
def Alg.lawD (A : Alg) : D := .dic [(.inr kMem, .lst (sL A.mem)), (.inr kSig, .lst (A.ops.map Op.sigD)), (.inr kVal, .lst (A.ops.map fun o => .lst (nL o.vs)))]
/-- as it is handed in -/
def Alg.tolD (A : Alg) : List D := A.ops.map fun o => .tup [.str o.sg, .int (o.ar : Int), .lst (A.valD o)]
/-! enumerate -/
theorem enumD_map {α : Type} (f : α → D) : ∀ (xs : List α) (i : Nat), enumD i (xs.map f) = (xs.zipIdx i).map fun p => .tup [.int (p.2 : Nat), f p.1]
  | [], _ => rfl
  | x :: xs, i => by
    simp only [List.map_cons, enumD, List.zipIdx_cons, enumD_map f xs (i + 1)]
theorem zipIdx_fst {α : Type} : ∀ (xs : List α) (i : Nat), (xs.zipIdx i).map (·.1) = xs
  | [], _ => rfl
  | x :: xs, i => by simp only [List.zipIdx_cons, List.map_cons, zipIdx_fst xs (i + 1)]
theorem inr_nodup {α : Type} {f : α → Cd} {xs : List α} (h : (xs.map f).Nodup) : (xs.map fun x => (Sum.inr (f x) : DK)).Nodup := by
  have : (xs.map fun x => (Sum.inr (f x) : DK)) = (xs.map f).map Sum.inr := by rw [List.map_map]; rfl
  rw [this]
  exact List.Pairwise.map _ (fun a b h e => h (by injection e)) h
theorem mapinr_nodup {xs : List (List Cd)} (h : xs.Nodup) : (xs.map (List.map (Sum.inr : Cd → DK))).Nodup := by
  refine List.Pairwise.map _ (fun a b h e => h ?_) h
  have key : ∀ (a b : List Cd), a.map (Sum.inr : Cd → DK) = b.map Sum.inr → a = b := by
    intro a
    induction a with
    | nil => intro b h; cases b with
      | nil => rfl
      | cons _ _ => cases h
    | cons x a ih => intro b h; cases b with
      | nil => cases h
      | cons y b =>
        simp only [List.map_cons, List.cons.injEq, Sum.inr.injEq] at h
        rw [h.1, ih b h.2]
  exact key a b e
theorem zipD_map {α β : Type} (f : α → D) (g : β → D) (xs : List α) (ys : List β) : zipD (xs.map f) (ys.map g) = (xs.zip ys).map fun p => .tup [f p.1, g p.2] := by
  unfold zipD
  rw [List.zip_map, List.map_map]; rfl
theorem dpu_new {κ : Type} [DecidableEq κ] {kv : List (κ × D)} {k : κ} {d : D} (h : k ∉ kv.map (·.1)) : dpu kv k d = kv ++ [(k, d)] := by
  unfold dpu
  rw [if_neg]
  rw [List.any_eq_true]
  rintro ⟨⟨k', v⟩, hm, e⟩
  have e := of_decide_eq_true e
  exact h (by rw [← e]; exact List.mem_map_of_mem (f := (·.1)) hm)
theorem nodup_take {α : Type} {xs : List α} {i : Nat} {x : α} (h : xs.Nodup) (e : xs[i]? = some x) : x ∉ xs.take i := by
  intro hm
  obtain ⟨j, hj⟩ := List.mem_iff_getElem?.mp hm
  have hj2 : j < i := by
    have := (List.getElem?_eq_some_iff.mp hj).1
    rw [List.length_take] at this; omega
  rw [List.getElem?_take_of_lt hj2] at hj
  have hlt := (List.getElem?_eq_some_iff.mp e).1
  have := (List.getElem?_inj (by omega) h).mp (hj.trans e.symm)
  omega
end EK


set_option Elab.async false
set_option linter.all false
set_option maxRecDepth 100000
set_option maxHeartbeats 1000000
namespace EK
open PySem PySem.Spec PyProof.Rows L2 DL
/-! ### rows by their number -/
theorem flatMap_get {α β : Type} {f : α → List β} {n : Nat} : ∀ {xs : List α}, (∀ x ∈ xs, (f x).length = n) → ∀ {i j : Nat} {x : α}, xs[i]? = some x → j < n → (xs.flatMap f)[i * n + j]? = (f x)[j]?
  | [], _, _, _, _, h, _ => by simp at h
  | y :: ys, hl, 0, j, x, h, hj => by
    simp only [List.getElem?_cons_zero, Option.some.injEq] at h
    subst h
    rw [List.flatMap_cons, Nat.zero_mul, Nat.zero_add, List.getElem?_append_left (by rw [hl y (by simp)]; exact hj)]
  | y :: ys, hl, i + 1, j, x, h, hj => by
    simp only [List.getElem?_cons_succ] at h
    rw [List.flatMap_cons, List.getElem?_append_right (by rw [hl y (by simp), Nat.succ_mul]; omega), hl y (by simp)]
    rw [show (i + 1) * n + j - n = i * n + j by rw [Nat.succ_mul]; omega]
    exact flatMap_get (fun z hz => hl z (by simp [hz])) h hj
theorem spot_snoc (n : Nat) (r : List Nat) (x : Nat) : spot n (r ++ [x]) = spot n r * n + x := by simp [spot, List.foldl_append]
theorem rowsN_get {n : Nat} : ∀ {a : Nat} {row : List Nat}, row.length = a → (∀ x ∈ row, x < n) → (rowsN n a)[spot n row]? = some row
  | 0, row, h, _ => by
    have : row = [] := List.length_eq_zero_iff.mp h
    subst this; rfl
  | a + 1, row, h, hx => by
    have hne : row ≠ [] := fun e => by subst e; cases h
    have e := (List.dropLast_concat_getLast hne)
    have ih := rowsN_get (n := n) (a := a) (row := row.dropLast) (by simp [h]) (fun x hm => hx x (List.dropLast_subset row hm))
    have hl := hx _ (List.getLast_mem hne)
    rw [← e, spot_snoc]
    have ih : (tuplesOf (List.range n) a)[spot n row.dropLast]? = some row.dropLast := ih
    unfold rowsN tuplesOf
    rw [flatMap_get (f := fun row => (List.range n).map fun x => row ++ [x]) (n := n) (fun x _ => by simp) ih hl, List.getElem?_map, List.getElem?_range hl]
    rfl
theorem spot_lt {n : Nat} {a : Nat} {row : List Nat} (h : row.length = a) (hx : ∀ x ∈ row, x < n) : spot n row < n ^ a := by
  have := (List.getElem?_eq_some_iff.mp (rowsN_get h hx)).1
  rw [rowsN, tuplesOf_length, List.length_range] at this
  exact this
theorem mem_rowsN {n a : Nat} {row : List Nat} : row ∈ rowsN n a ↔ row.length = a ∧ ∀ x ∈ row, x < n := by
  rw [rowsN, tuplesOf_mem]
  simp only [List.mem_range]
theorem rowsN_length (n a : Nat) : (rowsN n a).length = n ^ a := by rw [rowsN, tuplesOf_length, List.length_range]
/-! ### names and places -/
def Alg.pl (A : Alg) (x : Cd) : Nat := A.mem.idxOf x
section
variable {A : Alg}
theorem nm_get {i : Nat} (h : i < A.n) : A.mem[i]? = some (A.nm i) := by
  unfold Alg.nm
  rw [List.getD_eq_getElem?_getD, List.getElem?_eq_getElem h]; rfl
theorem nm_mem {i : Nat} (h : i < A.n) : A.nm i ∈ A.mem := List.mem_of_getElem? (nm_get h)
theorem mem_nm : A.mem = (List.range A.n).map A.nm := by
  apply List.ext_getElem?
  intro i
  by_cases h : i < A.n
  · rw [nm_get h, List.getElem?_map, List.getElem?_range h]; rfl
  · rw [List.getElem?_eq_none (by simpa [Alg.n] using h), List.getElem?_map, List.getElem?_eq_none (by simpa using h)]; rfl
theorem pl_lt {x : Cd} (h : x ∈ A.mem) : A.pl x < A.n := List.idxOf_lt_length_of_mem h
theorem nm_pl {x : Cd} (h : x ∈ A.mem) : A.nm (A.pl x) = x := by
  have e := nm_get (pl_lt h)
  unfold Alg.pl at e ⊢
  rw [List.getElem?_eq_getElem (List.idxOf_lt_length_of_mem h), List.getElem_idxOf] at e
  exact (Option.some.inj e).symm
theorem nm_inj (nd : A.mem.Nodup) {i j : Nat} (hi : i < A.n) (hj : j < A.n) (h : A.nm i = A.nm j) : i = j :=
  (List.getElem?_inj hi nd).mp ((nm_get hi).trans ((congrArg some h).trans (nm_get hj).symm))
theorem pl_nm (nd : A.mem.Nodup) {i : Nat} (hi : i < A.n) : A.pl (A.nm i) = i := nm_inj nd (pl_lt (nm_mem hi)) hi (nm_pl (nm_mem hi))
theorem tup_nm (a : Nat) : tuplesOf A.mem a = (rowsN A.n a).map (List.map A.nm) := by
  conv => lhs; rw [mem_nm]
  rw [tuplesOf_map]; rfl
/-- a table's row -/
theorem tab_look (ok : A.Ok) {o : Op} (ho : o ∈ A.ops) {row : List Nat} (hl : row.length = o.ar) (hx : ∀ x ∈ row, x < A.n) : dlk (A.tabL o) ((row.map A.nm).map Sum.inr) = some (.str (A.nm (o.at A.n row))) := by
  have hoo := ok.op o ho
  have e1 := rowsN_get hl hx
  have hs := spot_lt hl hx
  have e2 : ((tuplesOf A.mem o.ar).zip (o.vs.map A.nm))[spot A.n row]? = some (row.map A.nm, A.nm (o.at A.n row)) := by
    rw [List.getElem?_zip_eq_some]
    refine ⟨by rw [tup_nm, List.getElem?_map, e1]; rfl, ?_⟩
    rw [List.getElem?_map]
    unfold Op.at
    rw [List.getD_eq_getElem?_getD, List.getElem?_eq_getElem (by rw [hoo.len]; exact hs)]; rfl
  have hm := List.mem_of_getElem? e2
  have := dlk_map_nodup (κ := List DK) (fun p : List Cd × Cd => p.1.map Sum.inr) (fun p => D.str p.2) (xs := (tuplesOf A.mem o.ar).zip (o.vs.map A.nm)) ?_ hm
  · exact this
  · have e : ((tuplesOf A.mem o.ar).zip (o.vs.map A.nm)).map (fun p => p.1.map (Sum.inr : Cd → DK)) = (((tuplesOf A.mem o.ar).zip (o.vs.map A.nm)).map (·.1)).map (List.map Sum.inr) := by rw [List.map_map]; rfl
    rw [e]
    refine mapinr_nodup (List.Nodup.sublist ?_ (tuplesOf_nodup ok.nd o.ar))
    rw [List.map_fst_zip]
    · exact List.Sublist.refl _
    · rw [tuplesOf_length, List.length_map, hoo.len]; exact Nat.le_refl _
theorem at_lt (ok : A.Ok) {o : Op} (ho : o ∈ A.ops) {row : List Nat} (hl : row.length = o.ar) (hx : ∀ x ∈ row, x < A.n) : o.at A.n row < A.n := by
  have hoo := ok.op o ho
  have hs := spot_lt hl hx
  unfold Op.at
  rw [List.getD_eq_getElem?_getD, List.getElem?_eq_getElem (by rw [hoo.len]; exact hs)]
  exact hoo.lt _ (List.getElem_mem _)
theorem tabs_look (ok : A.Ok) {o : Op} (ho : o ∈ A.ops) : dlk A.tabsL (.inr o.sg) = some (.dit (A.tabL o)) := dlk_map_nodup (fun o : Op => (Sum.inr o.sg : DK)) (fun o => D.dit (A.tabL o)) (inr_nodup ok.sn) ho
theorem ari_look (ok : A.Ok) {o : Op} (ho : o ∈ A.ops) : dlk A.ariL (.inr o.sg) = some (.int (o.ar : Nat)) := dlk_map_nodup (fun o : Op => (Sum.inr o.sg : DK)) (fun o => D.int (o.ar : Nat)) (inr_nodup ok.sn) ho
theorem ari_none {s : Cd} (h : s ∉ A.ops.map (·.sg)) : dlk A.ariL (.inr s) = none := dlk_map_none (fun o : Op => (Sum.inr o.sg : DK)) (fun o => D.int (o.ar : Nat)) (fun hm => h (by
  obtain ⟨o, ho, e⟩ := List.mem_map.mp hm
  exact List.mem_map.mpr ⟨o, ho, by injection e⟩))
theorem plc_look (ok : A.Ok) {x : Cd} (h : x ∈ A.mem) : (dlk A.plcL (.inr x)).isSome = true := by
  have hm : x ∈ A.mem.zipIdx.map (·.1) := by rw [zipIdx_fst]; exact h
  obtain ⟨p, hp, rfl⟩ := List.mem_map.mp hm
  have := dlk_map_nodup (fun p : Cd × Nat => (Sum.inr p.1 : DK)) (fun p => D.int (p.2 : Nat)) (xs := A.mem.zipIdx) (inr_nodup (f := fun p : Cd × Nat => p.1) (by rw [zipIdx_fst]; exact ok.nd)) hp
  unfold Alg.plcL
  rw [this]; rfl
theorem plc_none {x : Cd} (h : x ∉ A.mem) : dlk A.plcL (.inr x) = none := dlk_map_none (fun p : Cd × Nat => (Sum.inr p.1 : DK)) (fun p => D.int (p.2 : Nat)) (fun hm => h (by
  obtain ⟨p, hp, e⟩ := List.mem_map.mp hm
  have : x ∈ A.mem.zipIdx.map (·.1) := List.mem_map.mpr ⟨p, hp, by injection e⟩
  rwa [zipIdx_fst] at this))
theorem plc_iff (ok : A.Ok) (x : Cd) : (dlk A.plcL (.inr x)).isSome = decide (x ∈ A.mem) := by
  by_cases h : x ∈ A.mem
  · rw [plc_look ok h, decide_eq_true h]
  · rw [plc_none h, decide_eq_false h]; rfl
theorem ari_iff (ok : A.Ok) (s : Cd) : (dlk A.ariL (.inr s)).isSome = decide (s ∈ A.ops.map (·.sg)) := by
  by_cases h : s ∈ A.ops.map (·.sg)
  · obtain ⟨o, ho, rfl⟩ := List.mem_map.mp h
    rw [ari_look ok ho, decide_eq_true h]; rfl
  · rw [ari_none h, decide_eq_false h]; rfl
end
/-! ### value -/
inductive Res where
  | val (v : Cd) | sign | count | mem (x : Cd)
def Alg.op? (A : Alg) (s : Cd) : Option Op := A.ops.find? fun o => decide (o.sg = s)
def Alg.value (A : Alg) (s : Cd) (args : List Cd) : Res := match A.op? s with
  | none => .sign
  | some o => if args.length = o.ar then (match args.find? fun x => decide (x ∉ A.mem) with
    | some x => .mem x
    | none => .val (A.nm (o.at A.n (args.map A.pl)))) else .count
theorem op?_some {A : Alg} {s : Cd} {o : Op} (h : A.op? s = some o) : o ∈ A.ops ∧ o.sg = s := ⟨List.mem_of_find?_eq_some h, by simpa using List.find?_some h⟩
theorem op?_none {A : Alg} {s : Cd} (h : A.op? s = none) : s ∉ A.ops.map (·.sg) := by
  intro hm
  obtain ⟨o, ho, e⟩ := List.mem_map.mp hm
  have := List.find?_eq_none.mp h o ho
  simp [e] at this
/-! ### comparing -/
theorem deqL_sL : ∀ (a b : List Cd), deqL (sL a) (sL b) = decide (a = b)
  | [], [] => by simp [sL, deqL]
  | [], _ :: _ => by simp [sL, deqL]
  | _ :: _, [] => by simp [sL, deqL]
  | x :: a, y :: b => by
    have ih := deqL_sL a b
    simp only [sL] at ih
    simp only [sL, List.map_cons, deqL, ih, e_deq_ss]
    by_cases h : x = y <;> by_cases h2 : a = b <;> simp [h, h2]
theorem plL_sL {a : List Cd} (h : ∀ x ∈ a, Wrd x) : dPlL (sL a) = true ∧ dDepL (sL a) = 0 := by
  induction a with
  | nil => simp [sL, dPlL, dDepL]
  | cons x a ih =>
    obtain ⟨i1, i2⟩ := ih fun y hy => h y (by simp [hy])
    have hx := (h x (by simp)).2
    simp only [sL] at i1 i2 ⊢
    simp only [List.map_cons, dPlL, dPl, i1, dDepL, dDep, i2, Bool.and_true]
    exact ⟨List.all_eq_true.mpr fun c hc => by simpa using hx c hc, rfl⟩
section
variable {A B : Alg}
theorem val_wd (ok : A.Ok) {o : Op} (ho : o ∈ A.ops) : ∀ x ∈ o.vs.map A.nm, Wrd x := fun x hx => by
  obtain ⟨v, hv, rfl⟩ := List.mem_map.mp hx
  exact ok.wd _ (nm_mem ((ok.op o ho).lt v hv))
theorem rowD_pl (ok : A.Ok) {o : Op} (ho : o ∈ A.ops) : dPl (A.rowD o) = true ∧ dDep (A.rowD o) = 2 := by
  obtain ⟨h1, h2⟩ := plL_sL (val_wd ok ho)
  have hw := (ok.op o ho).wd.2
  refine ⟨?_, by simp [Alg.rowD, dDep, dDepL, Alg.valD, h2]⟩
  simp only [Alg.rowD, dPl, dPlL, Alg.valD, h1, Bool.true_and, Bool.and_true]
  exact List.all_eq_true.mpr fun c hc => by simpa using hw c hc
theorem rowsD_pl (ok : A.Ok) : dPlL (A.ops.map A.rowD) = true ∧ dDepL (A.ops.map A.rowD) ≤ 2 := by
  have key : ∀ l : List Op, (∀ o ∈ l, o ∈ A.ops) → dPlL (l.map A.rowD) = true ∧ dDepL (l.map A.rowD) ≤ 2 := by
    intro l
    induction l with
    | nil => intro _; simp [dPlL, dDepL]
    | cons o l ih =>
      intro h
      obtain ⟨i1, i2⟩ := ih fun o ho => h o (by simp [ho])
      obtain ⟨j1, j2⟩ := rowD_pl ok (h o (by simp))
      simp only [List.map_cons, dPlL, i1, j1, dDepL, j2]
      exact ⟨rfl, by omega⟩
  exact key A.ops fun _ h => h
theorem who_ok (ok : A.Ok) : cmpOk A.whoD = true := by
  obtain ⟨h1, h2⟩ := rowsD_pl ok
  obtain ⟨h3, h4⟩ := plL_sL ok.wd
  refine cmpOk_pl ?_ ?_
  · simp only [Alg.whoD, Alg.ordD, Alg.rowsD, dPl, dPlL, h1, h3]; rfl
  · simp only [Alg.whoD, Alg.ordD, Alg.rowsD, dDep, dDepL, h4]; omega
theorem map_nm_inj (nd : A.mem.Nodup) : ∀ {a b : List Nat}, (∀ x ∈ a, x < A.n) → (∀ x ∈ b, x < A.n) → a.map A.nm = b.map A.nm → a = b
  | [], [], _, _, _ => rfl
  | [], _ :: _, _, _, h => by cases h
  | _ :: _, [], _, _, h => by cases h
  | x :: a, y :: b, ha, hb, h => by
    simp only [List.map_cons, List.cons.injEq] at h
    rw [nm_inj nd (ha x (by simp)) (hb y (by simp)) h.1, map_nm_inj nd (fun z hz => ha z (by simp [hz])) (fun z hz => hb z (by simp [hz])) h.2]
theorem deq_who (oa : A.Ok) (ob : B.Ok) : deq A.whoD B.whoD = true ↔ A = B := by
  obtain ⟨ma, oa'⟩ := A
  obtain ⟨mb, ob'⟩ := B
  simp only [Alg.whoD, Alg.ordD, Alg.rowsD, deq, deqL, deqL_sL, Bool.and_true, Bool.and_eq_true, decide_eq_true_eq, Alg.mk.injEq]
  constructor
  · rintro ⟨rfl, h⟩
    refine ⟨rfl, ?_⟩
    have key : ∀ l l' : List Op, (∀ o ∈ l, o ∈ oa') → (∀ o ∈ l', o ∈ ob') → deqL (l.map (Alg.rowD ⟨ma, oa'⟩)) (l'.map (Alg.rowD ⟨ma, ob'⟩)) = true → l = l' := by
      intro l
      induction l with
      | nil => intro l' _ _ h; cases l' with
        | nil => rfl
        | cons _ _ => simp [deqL] at h
      | cons o l ih => intro l' h1 h2 h; cases l' with
        | nil => simp [deqL] at h
        | cons o' l' =>
          simp only [List.map_cons, deqL, Bool.and_eq_true] at h
          obtain ⟨h3, h4⟩ := h
          rw [ih l' (fun o ho => h1 o (by simp [ho])) (fun o ho => h2 o (by simp [ho])) h4]
          congr 1
          simp only [Alg.rowD, deq, deqL, Alg.valD, deqL_sL, Bool.and_true, Bool.and_eq_true, decide_eq_true_eq, beq_iff_eq] at h3
          obtain ⟨e1, e2, e3⟩ := h3
          have p1 := oa.op o (h1 o (by simp))
          have p2 := ob.op o' (h2 o' (by simp))
          have e4 : o.vs = o'.vs := map_nm_inj (A := ⟨ma, oa'⟩) oa.nd (fun x hx => p1.lt x hx) (fun x hx => p2.lt x hx) e3
          obtain ⟨s1, a1, v1⟩ := o
          obtain ⟨s2, a2, v2⟩ := o'
          simp only at e1 e2 e4
          rw [e1, e4, show a1 = a2 by omega]
    exact key oa' ob' (fun _ h => h) (fun _ h => h) h
  · rintro ⟨rfl, rfl⟩
    refine ⟨rfl, ?_⟩
    exact deqL_refl _ (rowsD_pl oa).1
theorem deq_whoB (oa : A.Ok) (ob : B.Ok) [Decidable (A = B)] : deq A.whoD B.whoD = decide (A = B) := by
  by_cases h : A = B
  · rw [decide_eq_true h]; exact (deq_who oa ob).mpr h
  · rw [decide_eq_false h]; exact Bool.eq_false_iff.mpr fun e => h ((deq_who oa ob).mp e)
end
end EK


set_option Elab.async false
set_option linter.all false
set_option maxRecDepth 100000
set_option maxHeartbeats 1000000
namespace EK
open PySem PySem.Spec PyProof.Rows L2 DL
def isMem : D → Bool
  | .str s => decide (1 ≤ s.length) && (decide (s.length ≤ 12) && s.all (fun c => decide (c ∈ chars)))
  | _ => false
def isWord : D → Bool
  | .str s => isMem (.str s) && (match s with
    | c :: _ => decide (c ∈ letters)
    | [] => false)
  | _ => false
end EK


set_option Elab.async false
set_option linter.all false
set_option maxRecDepth 100000
set_option maxHeartbeats 1000000
namespace EK
open PySem PySem.Spec PyProof.Rows L2 DL
/-! ### terms -/
inductive Tm where
  | var (w : Cd)
  | node (s : Cd) (ts : List Tm)
mutual
def Tm.D : Tm → D
  | .var w => .str w
  | .node s ts => .tup (.str s :: Tm.Ds ts)
def Tm.Ds : List Tm → List DL.D
  | [] => []
  | t :: r => t.D :: Tm.Ds r
end
theorem Tm.Ds_eq : ∀ ts : List Tm, Tm.Ds ts = ts.map Tm.D
  | [] => by simp [Tm.Ds]
  | t :: r => by simp [Tm.Ds, Tm.Ds_eq r]
theorem Tm.D_var {w : Cd} : (Tm.var w).D = .str w := by simp [Tm.D]
theorem Tm.D_node {s : Cd} {ts : List Tm} : (Tm.node s ts).D = .tup (.str s :: ts.map Tm.D) := by simp [Tm.D, Tm.Ds_eq]
theorem vw_tm {M : Mp} {t : Tm} : vw M t.D = t.D := by cases t <;> simp only [Tm.D_var, Tm.D_node] <;> rfl
/-- an induction -/
theorem Tm.ind {P : Tm → Prop} (hv : ∀ w, P (.var w)) (hn : ∀ s ts, (∀ t ∈ ts, P t) → P (.node s ts)) : ∀ t, P t := by
  have key : ∀ t : Tm, P t := fun t => Tm.rec (motive_1 := P) (motive_2 := fun ts => ∀ t ∈ ts, P t) hv (fun s ts h => hn s ts h) (fun _ h => by cases h) (fun t ts h1 h2 u hu => by
    rcases List.mem_cons.mp hu with rfl | h
    · exact h1
    · exact h2 u h) t
  exact key
theorem Tm.D_inj : ∀ {t u : Tm}, t.D = u.D → t = u := by
  intro t
  induction t using Tm.ind with
  | hv w =>
    intro u h
    cases u with
    | var x => rw [Tm.D_var, Tm.D_var] at h; cases h; rfl
    | node s ts => rw [Tm.D_var, Tm.D_node] at h; cases h
  | hn s ts ih =>
    intro u h
    cases u with
    | var x => rw [Tm.D_var, Tm.D_node] at h; cases h
    | node s' us =>
      rw [Tm.D_node, Tm.D_node] at h
      injection h with h
      injection h with h1 h2
      cases h1
      have key : ∀ (ts us : List Tm), (∀ t ∈ ts, ∀ {u : Tm}, t.D = u.D → t = u) → ts.map Tm.D = us.map Tm.D → ts = us := by
        intro ts
        induction ts with
        | nil => intro us _ h; cases us with
          | nil => rfl
          | cons _ _ => cases h
        | cons t ts ih2 =>
          intro us h1 h
          cases us with
          | nil => cases h
          | cons u us =>
            rw [List.map_cons, List.map_cons] at h
            injection h with ha hb
            rw [h1 t (by simp) ha, ih2 us (fun x hx => h1 x (by simp [hx])) hb]
      rw [key ts us ih h2]
/-! what a term is -/
def TOk (A : Alg) : Nat → Tm → Prop
  | _, .var w => isWord (.str w) = true
  | 0, .node _ _ => False
  | n + 1, .node s ts => (∃ o, A.op? s = some o ∧ ts.length = o.ar) ∧ ∀ t ∈ ts, TOk A n t
theorem TOk.mono {A : Alg} : ∀ {n m : Nat} {t : Tm}, TOk A n t → n ≤ m → TOk A m t
  | _, 0, .var w, h, hle => by
    have : _ = 0 := Nat.le_zero.mp hle
    subst this; exact h
  | 0, m + 1, .var w, h, _ => h
  | n + 1, m + 1, .var w, h, _ => h
  | 0, _, .node _ _, h, _ => h.elim
  | n + 1, 0, .node _ _, _, hle => absurd hle (by omega)
  | n + 1, m + 1, .node s ts, ⟨h1, h2⟩, hle => ⟨h1, fun t ht => TOk.mono (h2 t ht) (by omega)⟩
/-- the leaves -/
def lv : Nat → Nat
  | 0 => 1
  | n + 1 => 2 * lv n
/-! the data that may be handed in for a term -/
mutual
def okT : DL.D → Bool
  | .non | .bl _ | .int _ | .lst _ => true
  | .str s => decide (s.length ≤ 1000)
  | .tup xs => okTL xs
  | _ => false
def okTL : List DL.D → Bool
  | [] => true
  | x :: xs => okT x && okTL xs
end
theorem okTL_eq : ∀ xs : List DL.D, okTL xs = xs.all okT
  | [] => by simp [okTL]
  | x :: xs => by simp [okTL, okTL_eq xs]
mutual
def isTm (A : Alg) : DL.D → Bool
  | .str s => isWord (.str s)
  | .tup xs => (match xs with
    | .str s :: _ => (match A.op? s with
      | some o => decide (xs.length = o.ar + 1)
      | none => false)
    | _ => false) && isTms A 0 xs
  | _ => false
def isTms (A : Alg) : Nat → List DL.D → Bool
  | _, [] => true
  | 0, _ :: xs => isTms A 1 xs
  | k + 1, x :: xs => isTm A x && isTms A (k + 2) xs
end
theorem isTms_succ (A : Alg) : ∀ (xs : List DL.D) (k : Nat), isTms A (k + 1) xs = xs.all (isTm A)
  | [], k => by simp [isTms]
  | x :: xs, k => by simp only [isTms, List.all_cons, isTms_succ A xs (k + 1)]
theorem isTm_tup (A : Alg) (x : DL.D) (xs : List DL.D) : isTm A (.tup (x :: xs)) = ((match x with
    | .str s => (match A.op? s with
      | some o => decide (xs.length = o.ar)
      | none => false)
    | _ => false) && xs.all (isTm A)) := by
  cases x <;> simp only [isTm, isTms, isTms_succ, Bool.false_and]
  congr 1
  cases e : A.op? _ with
  | none => rfl
  | some o => simp
theorem isTm_nil (A : Alg) : isTm A (.tup []) = false := by simp [isTm]
theorem dDepL_mem : ∀ {xs : List DL.D} {x : DL.D}, x ∈ xs → dDep x ≤ dDepL xs
  | y :: ys, x, h => by
    simp only [dDepL]
    rcases List.mem_cons.mp h with rfl | h
    · omega
    · have := dDepL_mem h; omega
/-- data that is a term -/
theorem isTm_tm {A : Alg} : ∀ {n : Nat} {d : DL.D}, isTm A d = true → dDep d ≤ n → ∃ t, d = Tm.D t ∧ TOk A n t
  | n, .str s, h, _ => ⟨.var s, by rw [Tm.D_var], by simp only [isTm] at h; cases n <;> exact h⟩
  | n, .tup [], h, _ => by rw [isTm_nil] at h; cases h
  | 0, .tup (x :: xs), _, hd => by simp [dDep] at hd
  | n + 1, .tup (x :: xs), h, hd => by
    rw [isTm_tup, Bool.and_eq_true] at h
    obtain ⟨h1, h2⟩ := h
    have hdx : ∀ y ∈ xs, dDep y ≤ n := fun y hy => by
      have := dDepL_mem (xs := x :: xs) (x := y) (by simp [hy])
      simp only [dDep] at hd; omega
    have key : ∀ ys : List DL.D, (∀ y ∈ ys, isTm A y = true ∧ dDep y ≤ n) → ∃ ts : List Tm, ys = ts.map Tm.D ∧ ∀ t ∈ ts, TOk A n t := by
      intro ys
      induction ys with
      | nil => intro _; exact ⟨[], rfl, fun _ h => by cases h⟩
      | cons y ys ih =>
        intro hy
        obtain ⟨t, rfl, ht⟩ := isTm_tm (n := n) (hy y (by simp)).1 (hy y (by simp)).2
        obtain ⟨ts, rfl, hts⟩ := ih fun z hz => hy z (by simp [hz])
        exact ⟨t :: ts, rfl, fun u hu => by
          rcases List.mem_cons.mp hu with rfl | h
          · exact ht
          · exact hts u h⟩
    obtain ⟨ts, rfl, hts⟩ := key xs fun y hy => ⟨List.all_eq_true.mp h2 y hy, hdx y hy⟩
    cases x with
    | str s =>
      simp only at h1
      cases e : A.op? s with
      | none => rw [e] at h1; cases h1
      | some o =>
        rw [e] at h1
        refine ⟨.node s ts, by rw [Tm.D_node], ⟨o, e, by simpa using h1⟩, hts⟩
    | _ => simp at h1
  | n, .non, h, _ => by simp [isTm] at h
  | n, .bl _, h, _ => by simp [isTm] at h
  | n, .int _, h, _ => by simp [isTm] at h
  | n, .ty _, h, _ => by simp [isTm] at h
  | n, .ref _, h, _ => by simp [isTm] at h
  | n, .scr _, h, _ => by simp [isTm] at h
  | n, .lst _, h, _ => by simp [isTm] at h
  | n, .dic _, h, _ => by simp [isTm] at h
  | n, .dit _, h, _ => by simp [isTm] at h
  | n, .obj _ _, h, _ => by simp [isTm] at h
theorem tm_isTm {A : Alg} : ∀ {n : Nat} {t : Tm}, TOk A n t → isTm A t.D = true
  | n, .var w, h => by rw [Tm.D_var]; simp only [isTm]; cases n <;> exact h
  | 0, .node _ _, h => h.elim
  | n + 1, .node s ts, ⟨⟨o, e, hl⟩, h2⟩ => by
    rw [Tm.D_node, isTm_tup, Bool.and_eq_true]
    simp only [e]
    refine ⟨by simpa using hl, List.all_eq_true.mpr fun d hd => ?_⟩
    obtain ⟨t, ht, rfl⟩ := List.mem_map.mp hd
    exact tm_isTm (h2 t ht)
/-! unknowns -/
mutual
def putU : Tm → List Cd → List Cd
  | .var w, acc => if w ∈ acc then acc else acc ++ [w]
  | .node _ ts, acc => putUs ts acc
def putUs : List Tm → List Cd → List Cd
  | [], acc => acc
  | t :: r, acc => putUs r (putU t acc)
end
def unk (t : Tm) : List Cd := putU t []
theorem putUs_eq : ∀ (ts : List Tm) (acc : List Cd), putUs ts acc = ts.foldl (fun a t => putU t a) acc
  | [], acc => by simp [putUs]
  | t :: r, acc => by simp only [putUs, putUs_eq r, List.foldl_cons]
theorem putU_var {w : Cd} {acc : List Cd} : putU (.var w) acc = if w ∈ acc then acc else acc ++ [w] := by simp [putU]
theorem putU_node {s : Cd} {ts : List Tm} {acc : List Cd} : putU (.node s ts) acc = ts.foldl (fun a t => putU t a) acc := by simp [putU, putUs_eq]
/-- what is put, and what it does to what stands there -/
theorem putU_app : ∀ (t : Tm) (acc : List Cd), putU t acc = acc ++ (unk t).filter fun w => decide (w ∉ acc) := by
  intro t
  induction t using Tm.ind with
  | hv w =>
    intro acc
    rw [putU_var, unk, putU_var]
    by_cases h : w ∈ acc <;> simp [h]
  | hn s ts ih =>
    have key : ∀ (ts : List Tm), (∀ t ∈ ts, ∀ acc, putU t acc = acc ++ (unk t).filter fun w => decide (w ∉ acc)) → ∀ acc b : List Cd, ts.foldl (fun a t => putU t a) (acc ++ b.filter fun w => decide (w ∉ acc)) = acc ++ (ts.foldl (fun a t => putU t a) b).filter fun w => decide (w ∉ acc) := by
      intro ts
      induction ts with
      | nil => intro _ acc b; rfl
      | cons t ts ih2 =>
        intro h acc b
        rw [List.foldl_cons, List.foldl_cons, ← ih2 (fun u hu => h u (by simp [hu])) acc (putU t b)]
        congr 1
        rw [h t (by simp) b, h t (by simp) (acc ++ _), List.filter_append, List.append_assoc]
        congr 2
        rw [List.filter_filter]
        apply List.filter_congr
        intro w _
        simp only [List.mem_append, List.mem_filter, decide_eq_true_eq]
        by_cases h1 : w ∈ acc <;> by_cases h2 : w ∈ b <;> simp [h1, h2]
    intro acc
    rw [unk, putU_node, putU_node]
    have := key ts ih acc []
    simpa using this
theorem putU_nodup : ∀ (t : Tm) (acc : List Cd), acc.Nodup → (putU t acc).Nodup := by
  intro t
  induction t using Tm.ind with
  | hv w =>
    intro acc h
    rw [putU_var]
    split
    · exact h
    · rename_i hw
      rw [List.nodup_append]
      exact ⟨h, by simp, fun a ha b hb e => by rw [List.mem_singleton.mp hb] at e; exact hw (e ▸ ha)⟩
  | hn s ts ih =>
    intro acc h
    rw [putU_node]
    induction ts generalizing acc with
    | nil => exact h
    | cons t ts ih2 => exact ih2 (fun u hu => ih u (by simp [hu])) _ (ih t (by simp) acc h)
theorem unk_nodup (t : Tm) : (unk t).Nodup := putU_nodup t [] (by simp)
theorem lv_pos : ∀ n, 1 ≤ lv n
  | 0 => Nat.le_refl 1
  | n + 1 => by have := lv_pos n; show 1 ≤ 2 * lv n; omega
theorem putU_len {A : Alg} (ok : ∀ o ∈ A.ops, o.ar ≤ 2) : ∀ {n : Nat} {t : Tm} {acc : List Cd}, TOk A n t → (putU t acc).length ≤ acc.length + lv n
  | n, .var w, acc, _ => by
    rw [putU_var]
    have := lv_pos n
    split
    · omega
    · simp; omega
  | 0, .node _ _, _, h => h.elim
  | n + 1, .node s ts, acc, ⟨⟨o, e, hl⟩, h2⟩ => by
    rw [putU_node]
    have har := ok o (op?_some e).1
    have key : ∀ (ts : List Tm) (acc : List Cd), (∀ t ∈ ts, TOk A n t) → (ts.foldl (fun a t => putU t a) acc).length ≤ acc.length + ts.length * lv n := by
      intro ts
      induction ts with
      | nil => intro acc _; simp
      | cons t ts ih =>
        intro acc h
        rw [List.foldl_cons]
        have h1 := ih (putU t acc) fun u hu => h u (by simp [hu])
        have h2 := putU_len ok (acc := acc) (h t (by simp))
        rw [List.length_cons, Nat.succ_mul]
        omega
    have h3 := key ts acc h2
    have h4 : ts.length * lv n ≤ 2 * lv n := Nat.mul_le_mul_right _ (hl ▸ har)
    show _ ≤ acc.length + 2 * lv n
    exact Nat.le_trans h3 (Nat.add_le_add_left h4 _)
theorem putUs_len {A : Alg} (ok : ∀ o ∈ A.ops, o.ar ≤ 2) {n : Nat} : ∀ (ts : List Tm) (acc : List Cd), (∀ t ∈ ts, TOk A n t) → (ts.foldl (fun a t => putU t a) acc).length ≤ acc.length + ts.length * lv n
  | [], acc, _ => by simp
  | t :: ts, acc, h => by
    rw [List.foldl_cons]
    have h1 := putUs_len ok ts (putU t acc) fun u hu => h u (by simp [hu])
    have h2 := putU_len ok (acc := acc) (h t (by simp))
    rw [List.length_cons, Nat.succ_mul]
    omega
theorem unk_node {s : Cd} {ts : List Tm} {w : Cd} : w ∈ unk (.node s ts) ↔ ∃ t ∈ ts, w ∈ unk t := by
  rw [unk, putU_node]
  have key : ∀ (ts : List Tm) (acc : List Cd), w ∈ ts.foldl (fun a t => putU t a) acc ↔ w ∈ acc ∨ ∃ t ∈ ts, w ∈ unk t := by
    intro ts
    induction ts with
    | nil => intro acc; simp
    | cons t ts ih =>
      intro acc
      rw [List.foldl_cons, ih, putU_app]
      simp only [List.mem_append, List.mem_filter, decide_eq_true_eq, List.mem_cons, exists_eq_or_imp]
      by_cases h1 : w ∈ acc <;> by_cases h2 : w ∈ unk t <;> simp [h1, h2]
  rw [key]; simp
theorem unk_var {w x : Cd} : x ∈ unk (.var w) ↔ x = w := by rw [unk, putU_var]; simp
theorem unk_word {A : Alg} : ∀ {n : Nat} {t : Tm}, TOk A n t → ∀ w ∈ unk t, isWord (.str w) = true
  | n, .var x, h, w, hw => by
    rw [unk_var] at hw; subst hw
    cases n <;> exact h
  | 0, .node _ _, h, _, _ => h.elim
  | n + 1, .node s ts, ⟨_, h2⟩, w, hw => by
    obtain ⟨t, ht, hw⟩ := unk_node.mp hw
    exact unk_word (h2 t ht) w hw
/-! values -/
mutual
def Alg.ev (A : Alg) (env : Cd → Nat) : Tm → Nat
  | .var w => env w
  | .node s ts => match A.op? s with
    | some o => o.at A.n (A.evs env ts)
    | none => 0
def Alg.evs (A : Alg) (env : Cd → Nat) : List Tm → List Nat
  | [] => []
  | t :: r => A.ev env t :: A.evs env r
end
section
variable {A : Alg} {env : Cd → Nat}
theorem evs_eq : ∀ ts : List Tm, A.evs env ts = ts.map (A.ev env)
  | [] => by simp [Alg.evs]
  | t :: r => by simp [Alg.evs, evs_eq r]
theorem ev_var {w : Cd} : A.ev env (.var w) = env w := by simp [Alg.ev]
theorem ev_node {s : Cd} {ts : List Tm} {o : Op} (h : A.op? s = some o) : A.ev env (.node s ts) = o.at A.n (ts.map (A.ev env)) := by simp only [Alg.ev, h, evs_eq]
theorem ev_lt (ok : A.Ok) : ∀ {n : Nat} {t : Tm}, TOk A n t → (∀ w ∈ unk t, env w < A.n) → A.ev env t < A.n
  | n, .var x, _, h => by rw [ev_var]; exact h x (unk_var.mpr rfl)
  | 0, .node _ _, h, _ => h.elim
  | n + 1, .node s ts, ⟨⟨o, e, hl⟩, h2⟩, h => by
    rw [ev_node e]
    refine at_lt ok (op?_some e).1 (by rw [List.length_map]; exact hl) fun x hx => ?_
    obtain ⟨t, ht, rfl⟩ := List.mem_map.mp hx
    exact ev_lt ok (h2 t ht) fun w hw => h w (unk_node.mpr ⟨t, ht, hw⟩)
theorem ev_congr {env' : Cd → Nat} : ∀ (t : Tm), (∀ w ∈ unk t, env w = env' w) → A.ev env t = A.ev env' t := by
  intro t
  induction t using Tm.ind with
  | hv w => intro h; rw [ev_var, ev_var]; exact h w (unk_var.mpr rfl)
  | hn s ts ih =>
    intro h
    have : A.evs env ts = A.evs env' ts := by
      rw [evs_eq, evs_eq]
      exact List.map_congr_left fun t ht => ih t ht fun w hw => h w (unk_node.mpr ⟨t, ht, hw⟩)
    simp only [Alg.ev, this]
end
/-! replaced -/
mutual
def Tm.sub (im : Cd → Option Tm) : Tm → Tm
  | .var w => (im w).getD (.var w)
  | .node s ts => .node s (Tm.subs im ts)
def Tm.subs (im : Cd → Option Tm) : List Tm → List Tm
  | [] => []
  | t :: r => t.sub im :: Tm.subs im r
end
theorem subs_eq {im : Cd → Option Tm} : ∀ ts : List Tm, Tm.subs im ts = ts.map (Tm.sub im)
  | [] => by simp [Tm.subs]
  | t :: r => by simp [Tm.subs, subs_eq r]
theorem sub_var {im : Cd → Option Tm} {w : Cd} : (Tm.var w).sub im = (im w).getD (.var w) := by simp [Tm.sub]
theorem sub_node {im : Cd → Option Tm} {s : Cd} {ts : List Tm} : (Tm.node s ts).sub im = .node s (ts.map (Tm.sub im)) := by simp [Tm.sub, subs_eq]
theorem TOk.sub {A : Alg} {im : Cd → Option Tm} {m : Nat} (him : ∀ w u, im w = some u → TOk A m u) : ∀ {n : Nat} {t : Tm}, TOk A n t → TOk A (n + m) (t.sub im)
  | n, .var w, h => by
    rw [sub_var]
    cases e : im w with
    | none => exact TOk.mono (n := n) h (by omega)
    | some u => exact TOk.mono (him w u e) (by omega)
  | 0, .node _ _, h => h.elim
  | n + 1, .node s ts, ⟨⟨o, e, hl⟩, h2⟩ => by
    rw [sub_node, show n + 1 + m = (n + m) + 1 by omega]
    refine ⟨⟨o, e, by rw [List.length_map]; exact hl⟩, fun t ht => ?_⟩
    obtain ⟨u, hu, rfl⟩ := List.mem_map.mp ht
    exact TOk.sub him (h2 u hu)
theorem ev_sub {A : Alg} {im : Cd → Option Tm} {env : Cd → Nat} : ∀ (t : Tm), A.ev env (t.sub im) = A.ev (fun w => A.ev env ((im w).getD (.var w))) t := by
  intro t
  induction t using Tm.ind with
  | hv w => rw [sub_var, ev_var]
  | hn s ts ih =>
    rw [sub_node]
    have : A.evs env (ts.map (Tm.sub im)) = A.evs (fun w => A.ev env ((im w).getD (.var w))) ts := by
      rw [evs_eq, evs_eq, List.map_map]
      exact List.map_congr_left ih
    simp only [Alg.ev, this]
end EK


set_option Elab.async false
set_option linter.all false
set_option maxRecDepth 100000
set_option maxHeartbeats 400000
namespace EK
open PySem PySem.Spec PyProof.Rows L2 DL
def top (i : Nat) : Stmt := PySem.Challenge.pw_equalkin_k51_whole_equations.main.body.getD i (.Pass ⟨0, 0, 0, 0⟩)
def mth (s : Stmt) (i : Nat) : Stmt := match s with
  | .ClassDef _ _ _ b _ _ _ _ _ _ _ => b.getD i (.Pass ⟨0, 0, 0, 0⟩)
  | s => s
abbrev s_is_member_name : Stmt := top 14
abbrev s_is_word : Stmt := top 15
abbrev s_tuples_of : Stmt := top 16
abbrev s_is_operation : Stmt := top 17
abbrev s_is_term : Stmt := top 20
abbrev s_check_term : Stmt := top 21
abbrev s_put_unknowns : Stmt := top 22
abbrev s_replaced : Stmt := top 23
abbrev s_worked_out : Stmt := top 24
abbrev s_unknowns_of_both : Stmt := top 26
abbrev s_fails : Stmt := top 27
abbrev s__law_source : Stmt := top 29
abbrev s__law_pick : Stmt := top 30
abbrev s__law_names : Stmt := top 31
abbrev s__law_rows : Stmt := top 32
abbrev s__law_operation : Stmt := top 33
abbrev s__law_algebra : Stmt := top 34
abbrev s__law_told : Stmt := top 35
abbrev s__law_made : Stmt := top 36
abbrev s__law_at : Stmt := top 37
abbrev s__law_term : Stmt := top 38
abbrev s__law_worked : Stmt := top 39
abbrev s__law_unknowns : Stmt := top 40
abbrev s__law_depth : Stmt := top 41
abbrev s__law_said : Stmt := top 42
abbrev s__law_due : Stmt := top 43
abbrev s_law : Stmt := top 44
abbrev s_Algebra_init : Stmt := mth (top 18) 0
abbrev s_Algebra_lay : Stmt := mth (top 18) 1
abbrev s_Algebra_members : Stmt := mth (top 18) 2
abbrev s_Algebra_need : Stmt := mth (top 18) 3
abbrev s_Algebra_value : Stmt := mth (top 18) 4
abbrev s_Algebra___contains__ : Stmt := mth (top 18) 5
abbrev s_Algebra___len__ : Stmt := mth (top 18) 6
abbrev s_Algebra___eq__ : Stmt := mth (top 18) 7
theorem sc_is_member_name : FnScope ["name", "character"] ["name"] (defScope s_is_member_name) := ⟨rfl, rfl, rfl, by decide +kernel, rfl, by decide +kernel, by decide +kernel⟩
theorem sc_is_word : FnScope ["name"] ["name"] (defScope s_is_word) := ⟨rfl, rfl, rfl, by decide +kernel, rfl, by decide +kernel, by decide +kernel⟩
theorem sc_tuples_of : FnScope ["things", "many", "found", "number", "row", "thing"] ["things", "many"] (defScope s_tuples_of) := ⟨rfl, rfl, rfl, by decide +kernel, rfl, by decide +kernel, by decide +kernel⟩
theorem sc_is_operation : FnScope ["members", "operation", "arity", "values", "value"] ["members", "operation"] (defScope s_is_operation) := ⟨rfl, rfl, rfl, by decide +kernel, rfl, by decide +kernel, by decide +kernel⟩
theorem sc_is_term : FnScope ["arities", "term", "part"] ["arities", "term"] (defScope s_is_term) := ⟨rfl, rfl, rfl, by decide +kernel, rfl, by decide +kernel, by decide +kernel⟩
theorem sc_check_term : FnScope ["algebra", "term"] ["algebra", "term"] (defScope s_check_term) := ⟨rfl, rfl, rfl, by decide +kernel, rfl, by decide +kernel, by decide +kernel⟩
theorem sc_put_unknowns : FnScope ["term", "found", "part"] ["term", "found"] (defScope s_put_unknowns) := ⟨rfl, rfl, rfl, by decide +kernel, rfl, by decide +kernel, by decide +kernel⟩
theorem sc_replaced : FnScope ["term", "images", "part"] ["term", "images"] (defScope s_replaced) := ⟨rfl, rfl, rfl, by decide +kernel, rfl, by decide +kernel, by decide +kernel⟩
theorem sc_worked_out : FnScope ["algebra", "term", "values", "part"] ["algebra", "term", "values"] (defScope s_worked_out) := ⟨rfl, rfl, rfl, by decide +kernel, rfl, by decide +kernel, by decide +kernel⟩
theorem sc_unknowns_of_both : FnScope ["left", "right", "found"] ["left", "right"] (defScope s_unknowns_of_both) := ⟨rfl, rfl, rfl, by decide +kernel, rfl, by decide +kernel, by decide +kernel⟩
theorem sc_fails : FnScope ["algebra", "left", "right", "names", "row", "values", "name", "value"] ["algebra", "left", "right"] (defScope s_fails) := ⟨rfl, rfl, rfl, by decide +kernel, rfl, by decide +kernel, by decide +kernel⟩
theorem sc__law_source : FnScope ["script", "mixed", "cell", "cells", "k"] ["script"] (defScope s__law_source) := ⟨rfl, rfl, rfl, by decide +kernel, rfl, by decide +kernel, by decide +kernel⟩
theorem sc__law_pick : FnScope ["source", "many", "cells", "left", "turn", "mixed"] ["source", "many"] (defScope s__law_pick) := ⟨rfl, rfl, rfl, by decide +kernel, rfl, by decide +kernel, by decide +kernel⟩
theorem sc__law_names : FnScope ["source", "many", "signs", "shift", "long", "names", "k", "number", "name", "n"] ["source", "many"] (defScope s__law_names) := ⟨rfl, rfl, rfl, by decide +kernel, rfl, by decide +kernel, by decide +kernel⟩
theorem sc__law_rows : FnScope ["many", "arity", "found", "k", "longer", "row", "place"] ["many", "arity"] (defScope s__law_rows) := ⟨rfl, rfl, rfl, by decide +kernel, rfl, by decide +kernel, by decide +kernel⟩
theorem sc__law_operation : FnScope ["source", "many", "pick", "every", "row", "place"] ["source", "many"] (defScope s__law_operation) := ⟨rfl, rfl, rfl, by decide +kernel, rfl, by decide +kernel, by decide +kernel⟩
theorem sc__law_algebra : FnScope ["source", "most", "signs", "many", "found", "due", "names", "pair", "k", "drawn", "n"] ["source", "most", "signs"] (defScope s__law_algebra) := ⟨rfl, rfl, rfl, by decide +kernel, rfl, by decide +kernel, by decide +kernel⟩
theorem sc__law_told : FnScope ["algebra", "found", "k", "values", "place"] ["algebra"] (defScope s__law_told) := ⟨rfl, rfl, rfl, by decide +kernel, rfl, by decide +kernel, by decide +kernel⟩
theorem sc__law_made : FnScope ["algebra"] ["algebra"] (defScope s__law_made) := ⟨rfl, rfl, rfl, by decide +kernel, rfl, by decide +kernel, by decide +kernel⟩
theorem sc__law_at : FnScope ["algebra", "k", "row", "spot", "place"] ["algebra", "k", "row"] (defScope s__law_at) := ⟨rfl, rfl, rfl, by decide +kernel, rfl, by decide +kernel, by decide +kernel⟩
theorem sc__law_term : FnScope ["source", "algebra", "names", "deep", "signs", "low", "pair", "bits", "k"] ["source", "algebra", "names", "deep"] (defScope s__law_term) := ⟨rfl, rfl, rfl, by decide +kernel, rfl, by decide +kernel, by decide +kernel⟩
theorem sc__law_worked : FnScope ["algebra", "term", "values", "words", "row", "pair", "bit"] ["algebra", "term", "values"] (defScope s__law_worked) := ⟨rfl, rfl, rfl, by decide +kernel, rfl, by decide +kernel, by decide +kernel⟩
theorem sc__law_unknowns : FnScope ["term", "found", "bit", "name"] ["term"] (defScope s__law_unknowns) := ⟨rfl, rfl, rfl, by decide +kernel, rfl, by decide +kernel, by decide +kernel⟩
theorem sc__law_depth : FnScope ["term", "bit"] ["term"] (defScope s__law_depth) := ⟨rfl, rfl, rfl, by decide +kernel, rfl, by decide +kernel, by decide +kernel⟩
theorem sc__law_said : FnScope ["made", "left", "right", "said"] ["made", "left", "right"] (defScope s__law_said) := ⟨rfl, rfl, rfl, by decide +kernel, rfl, by decide +kernel, by decide +kernel⟩
theorem sc__law_due : FnScope ["algebra", "left", "right", "members", "names", "row", "values", "told", "k", "name"] ["algebra", "left", "right"] (defScope s__law_due) := ⟨rfl, rfl, rfl, by decide +kernel, rfl, by decide +kernel, by decide +kernel⟩
theorem sc_law : FnScope ["script", "source", "algebra", "made", "names", "k", "left", "right", "due", "found", "images", "name", "sides", "pair"] ["script"] (defScope s_law) := ⟨rfl, rfl, rfl, by decide +kernel, rfl, by decide +kernel, by decide +kernel⟩
theorem sc_Algebra_init : FnScope ["self", "members", "operations", "names", "signs", "operation", "sign", "name"] ["self", "members", "operations"] (defScope s_Algebra_init) := ⟨rfl, rfl, rfl, by decide +kernel, rfl, by decide +kernel, by decide +kernel⟩
theorem sc_Algebra_lay : FnScope ["self", "names", "operations", "sign", "arity", "values", "place", "name", "row", "value"] ["self", "names", "operations"] (defScope s_Algebra_lay) := ⟨rfl, rfl, rfl, by decide +kernel, rfl, by decide +kernel, by decide +kernel⟩
theorem sc_Algebra_members : FnScope ["self"] ["self"] (defScope s_Algebra_members) := ⟨rfl, rfl, rfl, by decide +kernel, rfl, by decide +kernel, by decide +kernel⟩
theorem sc_Algebra_need : FnScope ["self", "name"] ["self", "name"] (defScope s_Algebra_need) := ⟨rfl, rfl, rfl, by decide +kernel, rfl, by decide +kernel, by decide +kernel⟩
theorem sc_Algebra_value : FnScope ["self", "sign", "arguments", "name"] ["self", "sign", "arguments"] (defScope s_Algebra_value) := ⟨rfl, rfl, rfl, by decide +kernel, rfl, by decide +kernel, by decide +kernel⟩
theorem sc_Algebra___contains__ : FnScope ["self", "name"] ["self", "name"] (defScope s_Algebra___contains__) := ⟨rfl, rfl, rfl, by decide +kernel, rfl, by decide +kernel, by decide +kernel⟩
theorem sc_Algebra___len__ : FnScope ["self"] ["self"] (defScope s_Algebra___len__) := ⟨rfl, rfl, rfl, by decide +kernel, rfl, by decide +kernel, by decide +kernel⟩
theorem sc_Algebra___eq__ : FnScope ["self", "other"] ["self", "other"] (defScope s_Algebra___eq__) := ⟨rfl, rfl, rfl, by decide +kernel, rfl, by decide +kernel, by decide +kernel⟩
abbrev FunT (K : PySem.W.Frag) (x : Str) (st : Stmt) (f : Addr) (fd : FuncData) : Prop := FunD K x x (defArgs st) (defBody st) (defScope st) [] [] f fd
abbrev FunM (K : PySem.W.Frag) (x q : Str) (st : Stmt) (f : Addr) (fd : FuncData) : Prop := FunD K x q (defArgs st) (defBody st) (defScope st) [] [] f fd
def okc_Algebra (K : PySem.W.Frag) (C : Addr) : Prop := C = He.ga K "Algebra"
/-- what the module's names are -/
structure Mg (K : PySem.W.Frag) (mg : Str → Option Value) : Prop where
  len : mg "len" = none
  int : mg "int" = none
  abs : mg "abs" = none
  str : mg "str" = none
  tuple : mg "tuple" = none
  list : mg "list" = none
  isinstance : mg "isinstance" = none
  range : mg "range" = none
  zip : mg "zip" = none
  enumerate : mg "enumerate" = none
  all : mg "all" = none
  any : mg "any" = none
  sum : mg "sum" = none
  max : mg "max" = none
  min : mg "min" = none
  bool : mg "bool" = none
  super : mg "super" = none
  LETTERS : GV mg "LETTERS" (.str (mkS letters))
  CHARACTERS : GV mg "CHARACTERS" (.str (mkS chars))
  MOST_MEMBERS : GV mg "MOST_MEMBERS" (.int 6)
  MOST_SIGNS : GV mg "MOST_SIGNS" (.int 5)
  MOST_ARITY : GV mg "MOST_ARITY" (.int 2)
  g_EqualkinError : mg "EqualkinError" = some (.ref (He.ga K "EqualkinError"))
  g_BadAlgebra : mg "BadAlgebra" = some (.ref (He.ga K "BadAlgebra"))
  g_BadCount : mg "BadCount" = some (.ref (He.ga K "BadCount"))
  g_BadTerm : mg "BadTerm" = some (.ref (He.ga K "BadTerm"))
  g_NameMissing : mg "NameMissing" = some (.ref (He.ga K "NameMissing"))
  g_UnknownMember : mg "UnknownMember" = some (.ref (He.ga K "UnknownMember"))
  g_UnknownSign : mg "UnknownSign" = some (.ref (He.ga K "UnknownSign"))
  g_Algebra : mg "Algebra" = some (.ref (He.ga K "Algebra"))
  xm_BadAlgebra_BadTerm : PySem.W.exmOne K (.ref (He.ga K "BadAlgebra")) (.ref (He.ga K "BadTerm")) = some false
  xm_BadCount_BadTerm : PySem.W.exmOne K (.ref (He.ga K "BadCount")) (.ref (He.ga K "BadTerm")) = some false
  xm_BadTerm_BadTerm : PySem.W.exmOne K (.ref (He.ga K "BadTerm")) (.ref (He.ga K "BadTerm")) = some true
  xm_UnknownMember_BadTerm : PySem.W.exmOne K (.ref (He.ga K "UnknownMember")) (.ref (He.ga K "BadTerm")) = some false
  xm_UnknownSign_BadTerm : PySem.W.exmOne K (.ref (He.ga K "UnknownSign")) (.ref (He.ga K "BadTerm")) = some false
  xf_BadAlgebra : XfC K (He.ga K "BadAlgebra")
  xf_BadCount : XfC K (He.ga K "BadCount")
  xf_BadTerm : XfC K (He.ga K "BadTerm")
  xn_UnknownMember_name : PySem.W.findIn K (.ref (He.ga K "UnknownMember")) "name" = some none
  xf_UnknownMember : XfC K (He.ga K "UnknownMember")
  xn_UnknownSign_name : PySem.W.findIn K (.ref (He.ga K "UnknownSign")) "name" = some none
  xf_UnknownSign : XfC K (He.ga K "UnknownSign")
  ti_Algebra : TyIns K (He.ga K "Algebra")
  na_Algebra_order : L2.NoAttr K (He.ga K "Algebra") "order"
  na_Algebra_places : L2.NoAttr K (He.ga K "Algebra") "places"
  na_Algebra_signature : L2.NoAttr K (He.ga K "Algebra") "signature"
  na_Algebra_arities : L2.NoAttr K (He.ga K "Algebra") "arities"
  na_Algebra_rows : L2.NoAttr K (He.ga K "Algebra") "rows"
  na_Algebra_tables : L2.NoAttr K (He.ga K "Algebra") "tables"
  na_Algebra_whole : L2.NoAttr K (He.ga K "Algebra") "whole"
  nf_Algebra_Algebra : PySem.W.notFirst K (He.ga K "Algebra") (.ref (He.ga K "Algebra")) = true
  ki_Algebra_Algebra : PySem.W.kitOne K (.ref (He.ga K "Algebra")) (.ref (He.ga K "Algebra")) = some true
  kt_NoneType_Algebra : PySem.W.kitOne K (.type "NoneType") (.ref (He.ga K "Algebra")) = some false
  kt_bool_Algebra : PySem.W.kitOne K (.type "bool") (.ref (He.ga K "Algebra")) = some false
  kt_int_Algebra : PySem.W.kitOne K (.type "int") (.ref (He.ga K "Algebra")) = some false
  kt_str_Algebra : PySem.W.kitOne K (.type "str") (.ref (He.ga K "Algebra")) = some false
  kt_list_Algebra : PySem.W.kitOne K (.type "list") (.ref (He.ga K "Algebra")) = some false
  kt_tuple_Algebra : PySem.W.kitOne K (.type "tuple") (.ref (He.ga K "Algebra")) = some false
  kt_dict_Algebra : PySem.W.kitOne K (.type "dict") (.ref (He.ga K "Algebra")) = some false
section
variable {K : PySem.W.Frag} {mg : Str → Option Value}
theorem Mg.fl_Algebra_order (m : Mg K mg) : ∀ C, okc_Algebra K C → L2.Cls K C ∧ L2.NoAttr K C "order" := by
  intro C h
  rcases h with rfl
  · exact ⟨m.ti_Algebra.cls, m.na_Algebra_order⟩
theorem Mg.fl_Algebra_places (m : Mg K mg) : ∀ C, okc_Algebra K C → L2.Cls K C ∧ L2.NoAttr K C "places" := by
  intro C h
  rcases h with rfl
  · exact ⟨m.ti_Algebra.cls, m.na_Algebra_places⟩
theorem Mg.fl_Algebra_signature (m : Mg K mg) : ∀ C, okc_Algebra K C → L2.Cls K C ∧ L2.NoAttr K C "signature" := by
  intro C h
  rcases h with rfl
  · exact ⟨m.ti_Algebra.cls, m.na_Algebra_signature⟩
theorem Mg.fl_Algebra_arities (m : Mg K mg) : ∀ C, okc_Algebra K C → L2.Cls K C ∧ L2.NoAttr K C "arities" := by
  intro C h
  rcases h with rfl
  · exact ⟨m.ti_Algebra.cls, m.na_Algebra_arities⟩
theorem Mg.fl_Algebra_rows (m : Mg K mg) : ∀ C, okc_Algebra K C → L2.Cls K C ∧ L2.NoAttr K C "rows" := by
  intro C h
  rcases h with rfl
  · exact ⟨m.ti_Algebra.cls, m.na_Algebra_rows⟩
theorem Mg.fl_Algebra_tables (m : Mg K mg) : ∀ C, okc_Algebra K C → L2.Cls K C ∧ L2.NoAttr K C "tables" := by
  intro C h
  rcases h with rfl
  · exact ⟨m.ti_Algebra.cls, m.na_Algebra_tables⟩
theorem Mg.fl_Algebra_whole (m : Mg K mg) : ∀ C, okc_Algebra K C → L2.Cls K C ∧ L2.NoAttr K C "whole" := by
  intro C h
  rcases h with rfl
  · exact ⟨m.ti_Algebra.cls, m.na_Algebra_whole⟩
theorem Mg.nf_Algebra (m : Mg K mg) : ∀ C C', okc_Algebra K C → okc_Algebra K C' → PySem.W.notFirst K C (.ref C') = true := by
  intro C C' h h'
  rcases h with rfl <;> rcases h' with rfl
  · exact m.nf_Algebra_Algebra
end
end EK


set_option Elab.async false
set_option linter.all false
set_option maxRecDepth 100000
set_option maxHeartbeats 400000
namespace EK
open PySem PySem.Spec PyProof.Rows L2 DL
local macro_rules
  | `(tactic| simp? only [$ls,*]) => `(tactic| simp only [$ls,*, dVar, dC, dOp, dTest, dTru, dAnd, dOr, dNot, dAndV, dOrV, dNotV, dIfE, dNil, dCons, dStar, dTup, dLst, dLstM, dFrz, dNeg, oEq, oNe, dNoO, dSoO, dSl, dNext, dSeq, dBreak, dCont, dExpr, dRet, dRetN, dIf, gNm, gNl, gCn, gTp, dAsg, dSet, dAug, dIter, dRng1, dRng2, dYes, dCallB, f1, dIsi, dJoinAt, dFmt, dJs, dJoined, dCall, dstart, rget, rset, dwipe, gSb, dApp, dPop, fMax2, fMin2, dNever, dPairs, dDispG, dDisp, dDispM, dNewK, dNewT, keyD, if_true, if_false, decide_eq_true_eq, Bool.false_eq_true, List.map_cons, List.map_nil, List.length_cons, List.length_nil, List.cons_append, List.nil_append, Nat.reduceAdd, Nat.reduceSub, List.reduceReplicate, e_vw_non, e_vw_bl, e_vw_int, e_vw_str, e_vw_scr, e_vw_lst, e_vw_tup, e_vw_dic, e_vw_dit, e_vw_obj, e_vw_ty, e_flat_non, e_isn_non, e_ty_non, e_flat_bl, e_isn_bl, e_ty_bl, e_flat_int, e_isn_int, e_ty_int, e_flat_str, e_isn_str, e_ty_str, e_flat_scr, e_isn_scr, e_ty_scr, e_flat_lst, e_isn_lst, e_ty_lst, e_flat_tup, e_isn_tup, e_ty_tup, e_flat_dic, e_isn_dic, e_ty_dic, e_flat_dit, e_isn_dit, e_flat_obj, e_isn_obj, e_flat_ty, e_isn_ty, e_add_ii, e_add_ss, e_add_ll, e_add_tt, e_iadd_ii, e_iadd_ss, e_sub_ii, e_mul_ii, e_mul_li, e_mul_si, e_fdiv_ii, e_mod_ii, e_pow_ii, e_deq_nn, e_deq_ii, e_deq_ss, e_deq_bb, e_deq_tt, e_deq_ll, e_deq_st, e_deq_ts, e_deql_n, e_deql_c, e_deql_nc, e_deql_cn, e_isN, e_ix_l, e_ix_t, e_ix_c, e_ix_s, e_ix_d, e_ix_dt, e_in_l, e_in_t, e_in_s, e_in_d, e_in_dt, e_sl_l, e_sl_s, e_len_lst, e_len_tup, e_len_s, e_len_c, e_len_d, e_int_i, e_abs_i, e_str_i, e_tup_l, e_tup_t, e_oLst0_l, e_oLst0_t, e_oLst0M_l, e_oLst0M_t, e_set_l, e_set_d, e_set_t, e_key_i, e_key_s, e_isT_non_bool, e_isT_non_int, e_isT_non_str, e_isT_non_list, e_isT_non_tuple, e_isT_non_dict, e_isT_bool_bool, e_isT_bool_int, e_isT_bool_str, e_isT_bool_list, e_isT_bool_tuple, e_isT_bool_dict, e_isT_int_bool, e_isT_int_int, e_isT_int_str, e_isT_int_list, e_isT_int_tuple, e_isT_int_dict, e_isT_str_bool, e_isT_str_int, e_isT_str_str, e_isT_str_list, e_isT_str_tuple, e_isT_str_dict, e_isT_list_bool, e_isT_list_int, e_isT_list_str, e_isT_list_list, e_isT_list_tuple, e_isT_list_dict, e_isT_tuple_bool, e_isT_tuple_int, e_isT_tuple_str, e_isT_tuple_list, e_isT_tuple_tuple, e_isT_tuple_dict, e_isT_dict_bool, e_isT_dict_int, e_isT_dict_str, e_isT_dict_list, e_isT_dict_tuple, e_isT_dict_dict, e_lt, e_le, e_gt, e_ge, e_fld, e_meth, e_inO, e_lenO, e_eqO, e_S1, e_S2, e_S3, e_S4, dChain, dPar, dIsi2, dMake, dRaise, dX0, dXN, dTryM, dMix, Bool.not_true, Bool.not_false, eq_self, true_and, and_true, true_or, and_self, e_mulM_li, e_addM_ll, dFrzE, Bool.false_bne, Bool.true_bne, dGet, dGet1, dDpop, dIdx, e_dic0, e_dic0M, e_same, sl1, dkey_s, e_cxK, dXf, e_sameP, e_addT, dFrzO, oFrz, dClr, e_lstD])
  | `(tactic| simp? only) => `(tactic| simp? only [eq_self])
section
variable {P : Program} {w : World} {K : PySem.W.Frag} {mg : Str → Option Value} {base : Heap}
/-! ### names, words -/
def anyD (x : D) (M : Mp) : Prop := (∃ s, x = .str s ∧ s.length ≤ 1000000) ∨ (∃ t, tyN (vw M x) = some t ∧ t ≠ .str)
theorem anyD_s {s : Cd} {M : Mp} (h : s.length ≤ 1000000) : anyD (.str s) M := .inl ⟨s, rfl, h⟩
theorem no_str {x : D} {M : Mp} {t : TN} (e : tyN (vw M x) = some t) (h : t ≠ .str) : isMem x = false ∧ isWord x = false := by
  cases x with
  | str s => cases e; exact absurd rfl h
  | _ => exact ⟨rfl, rfl⟩
theorem isT_str {t : TN} (h : t ≠ .str) : isT t .str = false := by cases t <;> first | rfl | exact absurd rfl h
def S_is_member_name (K : PySem.W.Frag) : DSp := S1 fun x M Q _ => anyD x M ∧ Q (.bl (isMem x)) M
theorem ok_is_member_name (m : Mg K mg) {f : Addr} {fd : FuncData}  (Fd : FunT K "is_member_name" s_is_member_name f fd) (h : mg "is_member_name" = some (.ref f)) : Fn P w K mg base 1 "is_member_name" ["name"] (S_is_member_name K) := by
  refine ⟨f, fd, ?_, h, Fd.kp, Fd.bindsN fun _ _ _ _ _ _ us hl => match us, hl with | [_], _ => rfl⟩
  refine dfn Fd sc_is_member_name (fun ds M Q E h => by obtain ⟨_, rfl, _⟩ := S1.of h; rfl) fun cdv A outer s H E Ed hr => ⟨_, (dss_cons (ds_if (DW.dt (dw_or (dt_not (dt_isi .str (by decide) rfl m.isinstance rfl m.str boot_str (vr 0))) (dw_or1 (dt_not (dt_chain (f := oLe) (f' := oLe) op_le od_cmp op_le od_cmp de_int (de_len rfl m.len (vr 0)) de_int))))) (dss_one (ds_ret de_bl)) dss_nil) (dss_one (ds_ret (de_all rfl rfl m.all (de_lc rfl sc_is_member_name.nd (di_seq (vr 0)) (blkOk_by (own := [("character", 1)]) (N := ["name", "character"]) (sc := defScope s_is_member_name) (by decide +kernel)) (fun _ _ _ _ _ => (gN 1 sc_is_member_name.nd)) (fun _ _ _ _ _ => dts_nil) (fun _ _ _ _ _ => (de_in (Rm65 hr) (vr 1) (gS chars m.CHARACTERS))) (by decide)))))), fun ds M Q cl h => ?_⟩
  obtain ⟨a0, rfl, h⟩ := S1.of h

  obtain ⟨hx, q⟩ := h
  simp? only
  rcases hx with ⟨s, rfl, hs⟩ | ⟨t, e, ht⟩
  · simp? only
    refine ⟨szl hs, ?_⟩
    have fin : ¬ (1 ≤ s.length ∧ s.length ≤ 12) → ∃ M'', DL.Sub M'' M ∧ Q (.bl false) M'' := fun hn => ⟨M, cl, by
      have : isMem (.str s) = false := by
        simp only [isMem, Bool.and_eq_false_iff, decide_eq_false_iff_not]; omega
      rwa [this] at q⟩
    by_cases h1 : 1 ≤ s.length
    · rw [if_pos (by first | omega | (simp; omega))]
      by_cases h2 : s.length ≤ 12
      · rw [if_neg (by first | omega | (simp; omega))]
        refine dLc_map s (fun c => .str [c]) (fun c => .bl (decide (c ∈ chars))) (fun R h => by simpa only [dVar, dC, dOp, dTest, dTru, dAnd, dOr, dNot, dAndV, dOrV, dNotV, dIfE, dNil, dCons, dStar, dTup, dLst, dLstM, dFrz, dNeg, oEq, oNe, dNoO, dSoO, dSl, dNext, dSeq, dBreak, dCont, dExpr, dRet, dRetN, dIf, gNm, gNl, gCn, gTp, dAsg, dSet, dAug, dIter, dRng1, dRng2, dYes, dCallB, f1, dIsi, dJoinAt, dFmt, dJs, dJoined, dCall, dstart, rget, rset, dwipe, gSb, dApp, dPop, fMax2, fMin2, dNever, dPairs, dDispG, dDisp, dDispM, dNewK, dNewT, keyD, if_true, if_false, decide_eq_true_eq, Bool.false_eq_true, List.map_cons, List.map_nil, List.length_cons, List.length_nil, List.cons_append, List.nil_append, Nat.reduceAdd, Nat.reduceSub, List.reduceReplicate, e_vw_non, e_vw_bl, e_vw_int, e_vw_str, e_vw_scr, e_vw_lst, e_vw_tup, e_vw_dic, e_vw_dit, e_vw_obj, e_vw_ty, e_flat_non, e_isn_non, e_ty_non, e_flat_bl, e_isn_bl, e_ty_bl, e_flat_int, e_isn_int, e_ty_int, e_flat_str, e_isn_str, e_ty_str, e_flat_scr, e_isn_scr, e_ty_scr, e_flat_lst, e_isn_lst, e_ty_lst, e_flat_tup, e_isn_tup, e_ty_tup, e_flat_dic, e_isn_dic, e_ty_dic, e_flat_dit, e_isn_dit, e_flat_obj, e_isn_obj, e_flat_ty, e_isn_ty, e_add_ii, e_add_ss, e_add_ll, e_add_tt, e_iadd_ii, e_iadd_ss, e_sub_ii, e_mul_ii, e_mul_li, e_mul_si, e_fdiv_ii, e_mod_ii, e_pow_ii, e_deq_nn, e_deq_ii, e_deq_ss, e_deq_bb, e_deq_tt, e_deq_ll, e_deq_st, e_deq_ts, e_deql_n, e_deql_c, e_deql_nc, e_deql_cn, e_isN, e_ix_l, e_ix_t, e_ix_c, e_ix_s, e_ix_d, e_ix_dt, e_in_l, e_in_t, e_in_s, e_in_d, e_in_dt, e_sl_l, e_sl_s, e_len_lst, e_len_tup, e_len_s, e_len_c, e_len_d, e_int_i, e_abs_i, e_str_i, e_tup_l, e_tup_t, e_oLst0_l, e_oLst0_t, e_oLst0M_l, e_oLst0M_t, e_set_l, e_set_d, e_set_t, e_key_i, e_key_s, e_isT_non_bool, e_isT_non_int, e_isT_non_str, e_isT_non_list, e_isT_non_tuple, e_isT_non_dict, e_isT_bool_bool, e_isT_bool_int, e_isT_bool_str, e_isT_bool_list, e_isT_bool_tuple, e_isT_bool_dict, e_isT_int_bool, e_isT_int_int, e_isT_int_str, e_isT_int_list, e_isT_int_tuple, e_isT_int_dict, e_isT_str_bool, e_isT_str_int, e_isT_str_str, e_isT_str_list, e_isT_str_tuple, e_isT_str_dict, e_isT_list_bool, e_isT_list_int, e_isT_list_str, e_isT_list_list, e_isT_list_tuple, e_isT_list_dict, e_isT_tuple_bool, e_isT_tuple_int, e_isT_tuple_str, e_isT_tuple_list, e_isT_tuple_tuple, e_isT_tuple_dict, e_isT_dict_bool, e_isT_dict_int, e_isT_dict_str, e_isT_dict_list, e_isT_dict_tuple, e_isT_dict_dict, e_lt, e_le, e_gt, e_ge, e_fld, e_meth, e_inO, e_lenO, e_eqO, e_S1, e_S2, e_S3, e_S4, dChain, dPar, dIsi2, dMake, dRaise, dX0, dXN, dTryM, dMix, Bool.not_true, Bool.not_false, eq_self, true_and, and_true, true_or, and_self, e_mulM_li, e_addM_ll, dFrzE, Bool.false_bne, Bool.true_bne, dGet, dGet1, dDpop, dIdx, e_dic0, e_dic0M, e_same, sl1, dkey_s, e_cxK, dXf, e_sameP, e_addT, dFrzO, oFrz, dClr, e_lstD] using h) (by omega) (fun i c e R h => by simpa only [dVar, dC, dOp, dTest, dTru, dAnd, dOr, dNot, dAndV, dOrV, dNotV, dIfE, dNil, dCons, dStar, dTup, dLst, dLstM, dFrz, dNeg, oEq, oNe, dNoO, dSoO, dSl, dNext, dSeq, dBreak, dCont, dExpr, dRet, dRetN, dIf, gNm, gNl, gCn, gTp, dAsg, dSet, dAug, dIter, dRng1, dRng2, dYes, dCallB, f1, dIsi, dJoinAt, dFmt, dJs, dJoined, dCall, dstart, rget, rset, dwipe, gSb, dApp, dPop, fMax2, fMin2, dNever, dPairs, dDispG, dDisp, dDispM, dNewK, dNewT, keyD, if_true, if_false, decide_eq_true_eq, Bool.false_eq_true, List.map_cons, List.map_nil, List.length_cons, List.length_nil, List.cons_append, List.nil_append, Nat.reduceAdd, Nat.reduceSub, List.reduceReplicate, e_vw_non, e_vw_bl, e_vw_int, e_vw_str, e_vw_scr, e_vw_lst, e_vw_tup, e_vw_dic, e_vw_dit, e_vw_obj, e_vw_ty, e_flat_non, e_isn_non, e_ty_non, e_flat_bl, e_isn_bl, e_ty_bl, e_flat_int, e_isn_int, e_ty_int, e_flat_str, e_isn_str, e_ty_str, e_flat_scr, e_isn_scr, e_ty_scr, e_flat_lst, e_isn_lst, e_ty_lst, e_flat_tup, e_isn_tup, e_ty_tup, e_flat_dic, e_isn_dic, e_ty_dic, e_flat_dit, e_isn_dit, e_flat_obj, e_isn_obj, e_flat_ty, e_isn_ty, e_add_ii, e_add_ss, e_add_ll, e_add_tt, e_iadd_ii, e_iadd_ss, e_sub_ii, e_mul_ii, e_mul_li, e_mul_si, e_fdiv_ii, e_mod_ii, e_pow_ii, e_deq_nn, e_deq_ii, e_deq_ss, e_deq_bb, e_deq_tt, e_deq_ll, e_deq_st, e_deq_ts, e_deql_n, e_deql_c, e_deql_nc, e_deql_cn, e_isN, e_ix_l, e_ix_t, e_ix_c, e_ix_s, e_ix_d, e_ix_dt, e_in_l, e_in_t, e_in_s, e_in_d, e_in_dt, e_sl_l, e_sl_s, e_len_lst, e_len_tup, e_len_s, e_len_c, e_len_d, e_int_i, e_abs_i, e_str_i, e_tup_l, e_tup_t, e_oLst0_l, e_oLst0_t, e_oLst0M_l, e_oLst0M_t, e_set_l, e_set_d, e_set_t, e_key_i, e_key_s, e_isT_non_bool, e_isT_non_int, e_isT_non_str, e_isT_non_list, e_isT_non_tuple, e_isT_non_dict, e_isT_bool_bool, e_isT_bool_int, e_isT_bool_str, e_isT_bool_list, e_isT_bool_tuple, e_isT_bool_dict, e_isT_int_bool, e_isT_int_int, e_isT_int_str, e_isT_int_list, e_isT_int_tuple, e_isT_int_dict, e_isT_str_bool, e_isT_str_int, e_isT_str_str, e_isT_str_list, e_isT_str_tuple, e_isT_str_dict, e_isT_list_bool, e_isT_list_int, e_isT_list_str, e_isT_list_list, e_isT_list_tuple, e_isT_list_dict, e_isT_tuple_bool, e_isT_tuple_int, e_isT_tuple_str, e_isT_tuple_list, e_isT_tuple_tuple, e_isT_tuple_dict, e_isT_dict_bool, e_isT_dict_int, e_isT_dict_str, e_isT_dict_list, e_isT_dict_tuple, e_isT_dict_dict, e_lt, e_le, e_gt, e_ge, e_fld, e_meth, e_inO, e_lenO, e_eqO, e_S1, e_S2, e_S3, e_S4, dChain, dPar, dIsi2, dMake, dRaise, dX0, dXN, dTryM, dMix, Bool.not_true, Bool.not_false, eq_self, true_and, and_true, true_or, and_self, e_mulM_li, e_addM_ll, dFrzE, Bool.false_bne, Bool.true_bne, dGet, dGet1, dDpop, dIdx, e_dic0, e_dic0M, e_same, sl1, dkey_s, e_cxK, dXf, e_sameP, e_addT, dFrzO, oFrz, dClr, e_lstD, Bool.false_bne] using h) ?_
        simp? only
        refine ⟨s.map fun c => decide (c ∈ chars), by rw [List.map_map]; rfl, M, cl, ?_⟩
        have : isMem (.str s) = (s.map fun c => decide (c ∈ chars)).all id := by
          simp only [isMem, List.all_map]
          rw [decide_eq_true h1, decide_eq_true h2]; rfl
        rwa [this] at q
      · rw [if_pos (by first | omega | (simp; omega))]
        exact fin (by omega)
    · rw [if_neg (by first | omega | (simp; omega))]
      exact fin (by omega)
  · rw [e]
    simp? only [isT_str ht]
    rw [(no_str e ht).1] at q
    exact ⟨M, cl, q⟩
def S_is_word (K : PySem.W.Frag) : DSp := S1 fun x M Q _ => anyD x M ∧ Q (.bl (isWord x)) M
theorem ok_is_word (m : Mg K mg) {f : Addr} {fd : FuncData} (F_is_member_name : Fn P w K mg base 1 "is_member_name" ["name"] (S_is_member_name K)) (Fd : FunT K "is_word" s_is_word f fd) (h : mg "is_word" = some (.ref f)) : Fn P w K mg base 2 "is_word" ["name"] (S_is_word K) := by
  refine ⟨f, fd, ?_, h, Fd.kp, Fd.bindsN fun _ _ _ _ _ _ us hl => match us, hl with | [_], _ => rfl⟩
  refine dfn Fd sc_is_word (fun ds M Q E h => by obtain ⟨_, rfl, _⟩ := S1.of h; rfl) fun cdv A outer s H E Ed hr => ⟨_, (dss_one (ds_ret (de_and (cF F_is_member_name hr (by omega) rfl (fun σ => passAt (takes_of rfl rfl rfl rfl) σ) (da_cons (vr 0) da_nil)) (de_one (de_in (Rm65 hr) (de_ix (Rm1 hr) (vr 0) de_int) (gS letters m.LETTERS)))))), fun ds M Q cl h => ?_⟩
  obtain ⟨a0, rfl, h⟩ := S1.of h

  obtain ⟨hx, q⟩ := h
  simp? only
  refine ⟨hx, ?_⟩
  rcases hx with ⟨s, rfl, hs⟩ | ⟨t, e, ht⟩
  · by_cases hm : isMem (.str s) = true
    · have : ∃ c r, s = c :: r := by
        cases s with
        | nil => simp [isMem] at hm
        | cons c r => exact ⟨c, r, rfl⟩
      obtain ⟨c, r, rfl⟩ := this
      simp? only [hm]
      refine ⟨szl hs, c, atI0, M, cl, ?_⟩
      have e : isWord (.str (c :: r)) = decide (c ∈ letters) := by
        simp only [isWord, hm, Bool.true_and]
      rwa [e] at q
    · have hm : isMem (.str s) = false := by simpa using hm
      simp? only [hm]
      simp only [isWord, hm, Bool.false_and] at q
      exact ⟨M, cl, q⟩
  · rw [(no_str e ht).2] at q
    simp? only [(no_str e ht).1]
    exact ⟨M, cl, q⟩
def S_tuples_of (K : PySem.W.Frag) : DSp := S2 fun x y M Q _ => ∃ xs n, (x = .lst xs ∨ x = .tup xs ∨ ∃ s : Cd, x = .str s ∧ xs = s.map fun c => .str [c]) ∧ y = .int (n : Nat) ∧ (xs.length + 1) ^ n ≤ 1000000 ∧ n ≤ 10 ∧ Q (.lst ((tuplesOf xs n).map .tup)) M
theorem ok_tuples_of (m : Mg K mg) {f : Addr} {fd : FuncData}  (Fd : FunT K "tuples_of" s_tuples_of f fd) (h : mg "tuples_of" = some (.ref f)) : Fn P w K mg base 1 "tuples_of" ["things", "many"] (S_tuples_of K) := by
  refine ⟨f, fd, ?_, h, Fd.kp, Fd.bindsN fun _ _ _ _ _ _ us hl => match us, hl with | [_, _], _ => rfl⟩
  refine dfn Fd sc_tuples_of (fun ds M Q E h => by obtain ⟨_, _, rfl, _⟩ := S2.of h; rfl) fun cdv A outer s H E Ed hr => ⟨_, (dss_cons (sSet 2 sc_tuples_of.nd (de_lst (da_cons (de_tup da_nil) da_nil))) (dss_cons (dFor1 (passes_of rfl) (di_range1 rfl m.range (vr 1)) (gN 3 sc_tuples_of.nd) (dss_one (ds_setLc2 (i := 2) (own1 := [5]) rfl sc_tuples_of.nd rfl rfl (sw_true rfl rfl rfl (by decide +kernel)) (di_seq (vr 2)) (blkOk_by (own := [("row", 4), ("thing", 5)]) (N := ["things", "many", "found", "number", "row", "thing"]) (sc := defScope s_tuples_of) (by decide +kernel)) (by decide) (fun _ _ _ _ _ => (gN 4 sc_tuples_of.nd)) (fun _ _ _ _ _ => dts_nil) (fun _ _ _ _ _ => (di_seq (vr 0))) (fun _ _ _ _ _ => (gN 5 sc_tuples_of.nd)) (fun _ _ _ _ _ => dts_nil) (fun _ _ _ _ _ => (de_tup (da_star (vr 4) (da_cons (vr 5) da_nil)))) (by decide) (by decide)))) (dss_one (ds_ret (vr 2))))), fun ds M Q cl h => ?_⟩
  obtain ⟨a0, a1, rfl, h⟩ := S2.of h

  obtain ⟨xs, n, hx, rfl, hz, hn, q⟩ := h
  simp? only
  refine ⟨szl (by omega), szl (by omega), ?_⟩
  have hle : ∀ i, i ≤ n → (xs.length + 1) ^ i ≤ 1000000 := fun i hi => Nat.le_trans (Nat.pow_le_pow_right (by omega) hi) hz
  have hti : ∀ (o3 o4 o5 o6 o7 : Option D) (M' : Mp) (R1 : List D → Mp → Prop), R1 xs M' → dIter (dVar 0) [some a0, o3, o4, o5, o6, o7] M' R1 := by
    intro o3 o4 o5 o6 o7 M' R1 hR
    rcases hx with rfl | rfl | ⟨s, rfl, rfl⟩ <;> simpa only [dVar, dC, dOp, dTest, dTru, dAnd, dOr, dNot, dAndV, dOrV, dNotV, dIfE, dNil, dCons, dStar, dTup, dLst, dLstM, dFrz, dNeg, oEq, oNe, dNoO, dSoO, dSl, dNext, dSeq, dBreak, dCont, dExpr, dRet, dRetN, dIf, gNm, gNl, gCn, gTp, dAsg, dSet, dAug, dIter, dRng1, dRng2, dYes, dCallB, f1, dIsi, dJoinAt, dFmt, dJs, dJoined, dCall, dstart, rget, rset, dwipe, gSb, dApp, dPop, fMax2, fMin2, dNever, dPairs, dDispG, dDisp, dDispM, dNewK, dNewT, keyD, if_true, if_false, decide_eq_true_eq, Bool.false_eq_true, List.map_cons, List.map_nil, List.length_cons, List.length_nil, List.cons_append, List.nil_append, Nat.reduceAdd, Nat.reduceSub, List.reduceReplicate, e_vw_non, e_vw_bl, e_vw_int, e_vw_str, e_vw_scr, e_vw_lst, e_vw_tup, e_vw_dic, e_vw_dit, e_vw_obj, e_vw_ty, e_flat_non, e_isn_non, e_ty_non, e_flat_bl, e_isn_bl, e_ty_bl, e_flat_int, e_isn_int, e_ty_int, e_flat_str, e_isn_str, e_ty_str, e_flat_scr, e_isn_scr, e_ty_scr, e_flat_lst, e_isn_lst, e_ty_lst, e_flat_tup, e_isn_tup, e_ty_tup, e_flat_dic, e_isn_dic, e_ty_dic, e_flat_dit, e_isn_dit, e_flat_obj, e_isn_obj, e_flat_ty, e_isn_ty, e_add_ii, e_add_ss, e_add_ll, e_add_tt, e_iadd_ii, e_iadd_ss, e_sub_ii, e_mul_ii, e_mul_li, e_mul_si, e_fdiv_ii, e_mod_ii, e_pow_ii, e_deq_nn, e_deq_ii, e_deq_ss, e_deq_bb, e_deq_tt, e_deq_ll, e_deq_st, e_deq_ts, e_deql_n, e_deql_c, e_deql_nc, e_deql_cn, e_isN, e_ix_l, e_ix_t, e_ix_c, e_ix_s, e_ix_d, e_ix_dt, e_in_l, e_in_t, e_in_s, e_in_d, e_in_dt, e_sl_l, e_sl_s, e_len_lst, e_len_tup, e_len_s, e_len_c, e_len_d, e_int_i, e_abs_i, e_str_i, e_tup_l, e_tup_t, e_oLst0_l, e_oLst0_t, e_oLst0M_l, e_oLst0M_t, e_set_l, e_set_d, e_set_t, e_key_i, e_key_s, e_isT_non_bool, e_isT_non_int, e_isT_non_str, e_isT_non_list, e_isT_non_tuple, e_isT_non_dict, e_isT_bool_bool, e_isT_bool_int, e_isT_bool_str, e_isT_bool_list, e_isT_bool_tuple, e_isT_bool_dict, e_isT_int_bool, e_isT_int_int, e_isT_int_str, e_isT_int_list, e_isT_int_tuple, e_isT_int_dict, e_isT_str_bool, e_isT_str_int, e_isT_str_str, e_isT_str_list, e_isT_str_tuple, e_isT_str_dict, e_isT_list_bool, e_isT_list_int, e_isT_list_str, e_isT_list_list, e_isT_list_tuple, e_isT_list_dict, e_isT_tuple_bool, e_isT_tuple_int, e_isT_tuple_str, e_isT_tuple_list, e_isT_tuple_tuple, e_isT_tuple_dict, e_isT_dict_bool, e_isT_dict_int, e_isT_dict_str, e_isT_dict_list, e_isT_dict_tuple, e_isT_dict_dict, e_lt, e_le, e_gt, e_ge, e_fld, e_meth, e_inO, e_lenO, e_eqO, e_S1, e_S2, e_S3, e_S4, dChain, dPar, dIsi2, dMake, dRaise, dX0, dXN, dTryM, dMix, Bool.not_true, Bool.not_false, eq_self, true_and, and_true, true_or, and_self, e_mulM_li, e_addM_ll, dFrzE, Bool.false_bne, Bool.true_bne, dGet, dGet1, dDpop, dIdx, e_dic0, e_dic0M, e_same, sl1, dkey_s, e_cxK, dXf, e_sameP, e_addT, dFrzO, oFrz, dClr, e_lstD] using hR
  refine dFor_inv (List.range n) (fun i => .int (i : Nat)) (fun i ρ M' => M' = M ∧ ∃ o1 o2 o3, ρ = [some a0, some (.int (n : Nat)), some (.lst ((tuplesOf xs i).map .tup)), o1, o2, o3]) (fun R hR => ?_) ⟨rfl, none, none, none, rfl⟩ ?_ ?_
  · simp? only [rngD_nat]
    exact ⟨by omega, by omega, hR⟩
  · rintro i x ρ M' hi ⟨rfl, o1, o2, o3, rfl⟩
    obtain ⟨rfl, hlt⟩ := getR hi
    simp? only
    have hz' := hle (x + 1) hlt
    have hl : ((tuplesOf xs x).flatMap fun _ => xs).length ≤ 1000000 := by
      have e : ((tuplesOf xs x).flatMap fun _ => xs).length = (tuplesOf xs (x + 1)).length := by
        simp only [tuplesOf]
        induction tuplesOf xs x with
        | nil => rfl
        | cons y ys ih => simp only [List.flatMap_cons, List.length_append, List.length_map, ih]
      rw [e, tuplesOf_length]
      exact Nat.le_trans (Nat.pow_le_pow_left (by omega) _) hz'
    refine dLc2_map (tuplesOf xs x) .tup (fun _ => xs) (fun _ y => y) (fun row y => .tup (row ++ [y])) (fun R hR => by simpa only [dVar, dC, dOp, dTest, dTru, dAnd, dOr, dNot, dAndV, dOrV, dNotV, dIfE, dNil, dCons, dStar, dTup, dLst, dLstM, dFrz, dNeg, oEq, oNe, dNoO, dSoO, dSl, dNext, dSeq, dBreak, dCont, dExpr, dRet, dRetN, dIf, gNm, gNl, gCn, gTp, dAsg, dSet, dAug, dIter, dRng1, dRng2, dYes, dCallB, f1, dIsi, dJoinAt, dFmt, dJs, dJoined, dCall, dstart, rget, rset, dwipe, gSb, dApp, dPop, fMax2, fMin2, dNever, dPairs, dDispG, dDisp, dDispM, dNewK, dNewT, keyD, if_true, if_false, decide_eq_true_eq, Bool.false_eq_true, List.map_cons, List.map_nil, List.length_cons, List.length_nil, List.cons_append, List.nil_append, Nat.reduceAdd, Nat.reduceSub, List.reduceReplicate, e_vw_non, e_vw_bl, e_vw_int, e_vw_str, e_vw_scr, e_vw_lst, e_vw_tup, e_vw_dic, e_vw_dit, e_vw_obj, e_vw_ty, e_flat_non, e_isn_non, e_ty_non, e_flat_bl, e_isn_bl, e_ty_bl, e_flat_int, e_isn_int, e_ty_int, e_flat_str, e_isn_str, e_ty_str, e_flat_scr, e_isn_scr, e_ty_scr, e_flat_lst, e_isn_lst, e_ty_lst, e_flat_tup, e_isn_tup, e_ty_tup, e_flat_dic, e_isn_dic, e_ty_dic, e_flat_dit, e_isn_dit, e_flat_obj, e_isn_obj, e_flat_ty, e_isn_ty, e_add_ii, e_add_ss, e_add_ll, e_add_tt, e_iadd_ii, e_iadd_ss, e_sub_ii, e_mul_ii, e_mul_li, e_mul_si, e_fdiv_ii, e_mod_ii, e_pow_ii, e_deq_nn, e_deq_ii, e_deq_ss, e_deq_bb, e_deq_tt, e_deq_ll, e_deq_st, e_deq_ts, e_deql_n, e_deql_c, e_deql_nc, e_deql_cn, e_isN, e_ix_l, e_ix_t, e_ix_c, e_ix_s, e_ix_d, e_ix_dt, e_in_l, e_in_t, e_in_s, e_in_d, e_in_dt, e_sl_l, e_sl_s, e_len_lst, e_len_tup, e_len_s, e_len_c, e_len_d, e_int_i, e_abs_i, e_str_i, e_tup_l, e_tup_t, e_oLst0_l, e_oLst0_t, e_oLst0M_l, e_oLst0M_t, e_set_l, e_set_d, e_set_t, e_key_i, e_key_s, e_isT_non_bool, e_isT_non_int, e_isT_non_str, e_isT_non_list, e_isT_non_tuple, e_isT_non_dict, e_isT_bool_bool, e_isT_bool_int, e_isT_bool_str, e_isT_bool_list, e_isT_bool_tuple, e_isT_bool_dict, e_isT_int_bool, e_isT_int_int, e_isT_int_str, e_isT_int_list, e_isT_int_tuple, e_isT_int_dict, e_isT_str_bool, e_isT_str_int, e_isT_str_str, e_isT_str_list, e_isT_str_tuple, e_isT_str_dict, e_isT_list_bool, e_isT_list_int, e_isT_list_str, e_isT_list_list, e_isT_list_tuple, e_isT_list_dict, e_isT_tuple_bool, e_isT_tuple_int, e_isT_tuple_str, e_isT_tuple_list, e_isT_tuple_tuple, e_isT_tuple_dict, e_isT_dict_bool, e_isT_dict_int, e_isT_dict_str, e_isT_dict_list, e_isT_dict_tuple, e_isT_dict_dict, e_lt, e_le, e_gt, e_ge, e_fld, e_meth, e_inO, e_lenO, e_eqO, e_S1, e_S2, e_S3, e_S4, dChain, dPar, dIsi2, dMake, dRaise, dX0, dXN, dTryM, dMix, Bool.not_true, Bool.not_false, eq_self, true_and, and_true, true_or, and_self, e_mulM_li, e_addM_ll, dFrzE, Bool.false_bne, Bool.true_bne, dGet, dGet1, dDpop, dIdx, e_dic0, e_dic0M, e_same, sl1, dkey_s, e_cxK, dXf, e_sameP, e_addT, dFrzO, oFrz, dClr, e_lstD] using hR) hl (fun i row hr M'' _ R hR => ?_) ?_
    · simp? only
      refine hR _ (fun R1 h1 => hti _ _ _ _ _ _ _ (by simpa using h1)) fun j y hy M3 _ R2 h2 => ?_
      simp? only
      refine ⟨?_, h2⟩
      have := (tuplesOf_mem.mp (List.mem_of_getElem? hr)).1
      simp only [List.length_append, this, List.length_cons, List.length_nil]
      exact szl (by omega)
    · refine ⟨by trivial, some (.int (x : Nat)), o2, o3, ?_⟩
      have e : ((tuplesOf xs x).flatMap fun row => xs.map fun y => D.tup (row ++ [y])) = (tuplesOf xs (x + 1)).map .tup := by
        simp only [tuplesOf, List.map_flatMap, List.map_map]; rfl
      rw [e]
  · rintro ρ M' ⟨rfl, o1, o2, o3, rfl⟩
    rw [List.length_range]
    simp? only
    exact ⟨M', cl, q⟩
end
end EK


set_option Elab.async false
set_option linter.all false
set_option maxRecDepth 100000
set_option maxHeartbeats 400000
namespace EK
open PySem PySem.Spec PyProof.Rows L2 DL
local macro_rules
  | `(tactic| simp? only [$ls,*]) => `(tactic| simp only [$ls,*, dVar, dC, dOp, dTest, dTru, dAnd, dOr, dNot, dAndV, dOrV, dNotV, dIfE, dNil, dCons, dStar, dTup, dLst, dLstM, dFrz, dNeg, oEq, oNe, dNoO, dSoO, dSl, dNext, dSeq, dBreak, dCont, dExpr, dRet, dRetN, dIf, gNm, gNl, gCn, gTp, dAsg, dSet, dAug, dIter, dRng1, dRng2, dYes, dCallB, f1, dIsi, dJoinAt, dFmt, dJs, dJoined, dCall, dstart, rget, rset, dwipe, gSb, dApp, dPop, fMax2, fMin2, dNever, dPairs, dDispG, dDisp, dDispM, dNewK, dNewT, keyD, if_true, if_false, decide_eq_true_eq, Bool.false_eq_true, List.map_cons, List.map_nil, List.length_cons, List.length_nil, List.cons_append, List.nil_append, Nat.reduceAdd, Nat.reduceSub, List.reduceReplicate, e_vw_non, e_vw_bl, e_vw_int, e_vw_str, e_vw_scr, e_vw_lst, e_vw_tup, e_vw_dic, e_vw_dit, e_vw_obj, e_vw_ty, e_flat_non, e_isn_non, e_ty_non, e_flat_bl, e_isn_bl, e_ty_bl, e_flat_int, e_isn_int, e_ty_int, e_flat_str, e_isn_str, e_ty_str, e_flat_scr, e_isn_scr, e_ty_scr, e_flat_lst, e_isn_lst, e_ty_lst, e_flat_tup, e_isn_tup, e_ty_tup, e_flat_dic, e_isn_dic, e_ty_dic, e_flat_dit, e_isn_dit, e_flat_obj, e_isn_obj, e_flat_ty, e_isn_ty, e_add_ii, e_add_ss, e_add_ll, e_add_tt, e_iadd_ii, e_iadd_ss, e_sub_ii, e_mul_ii, e_mul_li, e_mul_si, e_fdiv_ii, e_mod_ii, e_pow_ii, e_deq_nn, e_deq_ii, e_deq_ss, e_deq_bb, e_deq_tt, e_deq_ll, e_deq_st, e_deq_ts, e_deql_n, e_deql_c, e_deql_nc, e_deql_cn, e_isN, e_ix_l, e_ix_t, e_ix_c, e_ix_s, e_ix_d, e_ix_dt, e_in_l, e_in_t, e_in_s, e_in_d, e_in_dt, e_sl_l, e_sl_s, e_len_lst, e_len_tup, e_len_s, e_len_c, e_len_d, e_int_i, e_abs_i, e_str_i, e_tup_l, e_tup_t, e_oLst0_l, e_oLst0_t, e_oLst0M_l, e_oLst0M_t, e_set_l, e_set_d, e_set_t, e_key_i, e_key_s, e_isT_non_bool, e_isT_non_int, e_isT_non_str, e_isT_non_list, e_isT_non_tuple, e_isT_non_dict, e_isT_bool_bool, e_isT_bool_int, e_isT_bool_str, e_isT_bool_list, e_isT_bool_tuple, e_isT_bool_dict, e_isT_int_bool, e_isT_int_int, e_isT_int_str, e_isT_int_list, e_isT_int_tuple, e_isT_int_dict, e_isT_str_bool, e_isT_str_int, e_isT_str_str, e_isT_str_list, e_isT_str_tuple, e_isT_str_dict, e_isT_list_bool, e_isT_list_int, e_isT_list_str, e_isT_list_list, e_isT_list_tuple, e_isT_list_dict, e_isT_tuple_bool, e_isT_tuple_int, e_isT_tuple_str, e_isT_tuple_list, e_isT_tuple_tuple, e_isT_tuple_dict, e_isT_dict_bool, e_isT_dict_int, e_isT_dict_str, e_isT_dict_list, e_isT_dict_tuple, e_isT_dict_dict, e_lt, e_le, e_gt, e_ge, e_fld, e_meth, e_inO, e_lenO, e_eqO, e_S1, e_S2, e_S3, e_S4, dChain, dPar, dIsi2, dMake, dRaise, dX0, dXN, dTryM, dMix, Bool.not_true, Bool.not_false, eq_self, true_and, and_true, true_or, and_self, e_mulM_li, e_addM_ll, dFrzE, Bool.false_bne, Bool.true_bne, dGet, dGet1, dDpop, dIdx, e_dic0, e_dic0M, e_same, sl1, dkey_s, e_cxK, dXf, e_sameP, e_addT, dFrzO, oFrz, dClr, e_lstD])
  | `(tactic| simp? only) => `(tactic| simp? only [eq_self])
section
variable {P : Program} {w : World} {K : PySem.W.Frag} {mg : Str → Option Value} {base : Heap}
def isOp (mem : List Cd) (s a : D) (vs : List D) : Bool := isWord s && (match a with
  | .int k => decide (0 ≤ k) && (decide (k ≤ 2) && (decide (vs.length = mem.length ^ k.toNat) && vs.all fun v => (sL mem).any fun y => deq y v))
  | _ => false)
def S_is_operation (K : PySem.W.Frag) : DSp := S2 fun x y M Q _ => ∃ mem s a v vs, x = .lst (sL mem) ∧ (vw M y = .lst [s, a, v] ∨ vw M y = .tup [s, a, v]) ∧ anyD s M ∧ (∃ t, tyN a = some t) ∧ (v = .lst vs ∨ v = .tup vs) ∧ vs.all flatD = true ∧ vs.length ≤ 100000 ∧ mem.length ≤ 100 ∧ Q (.bl (isOp mem s a vs)) M
theorem ok_is_operation (m : Mg K mg) {f : Addr} {fd : FuncData} (F_is_word : Fn P w K mg base 2 "is_word" ["name"] (S_is_word K)) (F_tuples_of : Fn P w K mg base 1 "tuples_of" ["things", "many"] (S_tuples_of K)) (Fd : FunT K "is_operation" s_is_operation f fd) (h : mg "is_operation" = some (.ref f)) : Fn P w K mg base 3 "is_operation" ["members", "operation"] (S_is_operation K) := by
  refine ⟨f, fd, ?_, h, Fd.kp, Fd.bindsN fun _ _ _ _ _ _ us hl => match us, hl with | [_, _], _ => rfl⟩
  refine dfn Fd sc_is_operation (fun ds M Q E h => by obtain ⟨_, _, rfl, _⟩ := S2.of h; rfl) fun cdv A outer s H E Ed hr => ⟨_, (dss_cons (ds_if (DW.dt (dw_or (dt_not (dt_isi2 .list .tuple (by decide) (by decide) rfl m.isinstance rfl m.list boot_list rfl m.tuple boot_tuple (vr 1))) (dw_or (dt_ne (Rm64 hr) (de_len rfl m.len (vr 1)) de_int) (dw_or1 (dt_not (dt_of (cF F_is_word hr (by omega) rfl (fun σ => passAt (takes_of rfl rfl rfl rfl) σ) (da_cons (de_ix (Rm1 hr) (vr 1) de_int) da_nil)))))))) (dss_one (ds_ret de_bl)) dss_nil) (dss_cons (ds_par (i := 2) (j := 3) rfl sc_is_operation.nd rfl rfl (by decide) rfl rfl (de_ix (Rm1 hr) (vr 1) de_int) (de_ix (Rm1 hr) (vr 1) de_int) rfl) (dss_cons (ds_if (DW.dt (dw_or (dt_not (dt_isi .int (by decide) rfl m.isinstance rfl m.int boot_int (vr 2))) (dw_or (dt_isi .bool (by decide) rfl m.isinstance rfl m.bool boot_bool (vr 2)) (dw_or1 (dt_not (dt_chain (f := oLe) (f' := oLe) op_le od_cmp op_le od_cmp de_int (vr 2) (gI 2 m.MOST_ARITY))))))) (dss_one (ds_ret de_bl)) dss_nil) (dss_cons (ds_if (DW.dt (dw_or (dt_not (dt_isi2 .list .tuple (by decide) (by decide) rfl m.isinstance rfl m.list boot_list rfl m.tuple boot_tuple (vr 3))) (dw_or1 (dt_ne (Rm64 hr) (de_len rfl m.len (vr 3)) (de_len rfl m.len (cF F_tuples_of hr (by omega) rfl (fun σ => passAt (takes_of rfl rfl rfl rfl) σ) (da_cons (vr 0) (da_cons (vr 2) da_nil)))))))) (dss_one (ds_ret de_bl)) dss_nil) (dss_one (ds_ret (de_all rfl rfl m.all (de_lc rfl sc_is_operation.nd (di_seq (vr 3)) (blkOk_by (own := [("value", 4)]) (N := ["members", "operation", "arity", "values", "value"]) (sc := defScope s_is_operation) (by decide +kernel)) (fun _ _ _ _ _ => (gN 4 sc_is_operation.nd)) (fun _ _ _ _ _ => dts_nil) (fun _ _ _ _ _ => (de_in (Rm65 hr) (vr 4) (vr 0))) (by decide))))))))), fun ds M Q cl h => ?_⟩
  obtain ⟨a0, a1, rfl, h⟩ := S2.of h

  obtain ⟨mem, s, a, v, vs, rfl, hy, hs, ⟨t, ht⟩, hv, hf, hz, hl, q⟩ := h
  simp? only
  have fin : isOp mem s a vs = false → ∃ M'', DL.Sub M'' M ∧ Q (.bl false) M'' := fun e => ⟨M, cl, e ▸ q⟩
  rcases hy with hy | hy <;> rcases hv with rfl | rfl <;>
  · simp? only [hy]
    refine ⟨_, rfl, ?_⟩
    rw [if_neg (by decide)]
    rw [if_neg (by simp [e_deq_ii])]
    refine ⟨_, atI0, hs, ?_⟩
    simp? only
    by_cases hw : isWord s = true
    · rw [if_neg (by simp [hw])]
      simp? only [hy]
      refine ⟨_, atI_n (j := 1) rfl rfl, _, atI_n (j := 2) rfl rfl, ?_⟩
      have va : vw M a = a := by cases a <;> first | rfl | cases ht
      simp only [va, ht]
      by_cases hi : t = .int
      · subst hi
        have : ∃ k, a = .int k := by cases a <;> first | exact ⟨_, rfl⟩ | cases ht
        obtain ⟨k, rfl⟩ := this
        simp? only
        have fin2 : ¬ (0 ≤ k ∧ k ≤ 2) → isOp mem s (.int k) vs = false := fun hn => by
          simp only [isOp, Bool.and_eq_false_iff, decide_eq_false_iff_not]; omega
        by_cases k0 : 0 ≤ k
        · rw [if_pos k0]
          by_cases k2 : k ≤ 2
          · rw [if_neg (by simp [k2])]
            refine ⟨_, rfl, ?_⟩
            rw [if_neg (by decide)]
            have hk : (k.toNat : Int) = k := Int.toNat_of_nonneg k0
            have hkn : k.toNat ≤ 2 := by omega
            have hpow : (mem.length + 1) ^ k.toNat ≤ 1000000 := by
              have h1 : (mem.length + 1) ^ k.toNat ≤ 101 ^ k.toNat := Nat.pow_le_pow_left (by omega) _
              have h2 : 101 ^ k.toNat ≤ 101 ^ 2 := Nat.pow_le_pow_right (by omega) hkn
              omega
            refine ⟨sL mem, k.toNat, .inl rfl, by rw [hk], by rw [sL, List.length_map]; exact hpow, by omega, ?_⟩
            simp? only
            rw [List.length_map, tuplesOf_length, sL, List.length_map]
            by_cases hlen : vs.length = mem.length ^ k.toNat
            · rw [if_neg (by simp; exact_mod_cast hlen)]
              refine dLc_map vs id (fun v => .bl ((sL mem).any fun y => deq y v)) (fun R hR => by simpa only [dVar, dC, dOp, dTest, dTru, dAnd, dOr, dNot, dAndV, dOrV, dNotV, dIfE, dNil, dCons, dStar, dTup, dLst, dLstM, dFrz, dNeg, oEq, oNe, dNoO, dSoO, dSl, dNext, dSeq, dBreak, dCont, dExpr, dRet, dRetN, dIf, gNm, gNl, gCn, gTp, dAsg, dSet, dAug, dIter, dRng1, dRng2, dYes, dCallB, f1, dIsi, dJoinAt, dFmt, dJs, dJoined, dCall, dstart, rget, rset, dwipe, gSb, dApp, dPop, fMax2, fMin2, dNever, dPairs, dDispG, dDisp, dDispM, dNewK, dNewT, keyD, if_true, if_false, decide_eq_true_eq, Bool.false_eq_true, List.map_cons, List.map_nil, List.length_cons, List.length_nil, List.cons_append, List.nil_append, Nat.reduceAdd, Nat.reduceSub, List.reduceReplicate, e_vw_non, e_vw_bl, e_vw_int, e_vw_str, e_vw_scr, e_vw_lst, e_vw_tup, e_vw_dic, e_vw_dit, e_vw_obj, e_vw_ty, e_flat_non, e_isn_non, e_ty_non, e_flat_bl, e_isn_bl, e_ty_bl, e_flat_int, e_isn_int, e_ty_int, e_flat_str, e_isn_str, e_ty_str, e_flat_scr, e_isn_scr, e_ty_scr, e_flat_lst, e_isn_lst, e_ty_lst, e_flat_tup, e_isn_tup, e_ty_tup, e_flat_dic, e_isn_dic, e_ty_dic, e_flat_dit, e_isn_dit, e_flat_obj, e_isn_obj, e_flat_ty, e_isn_ty, e_add_ii, e_add_ss, e_add_ll, e_add_tt, e_iadd_ii, e_iadd_ss, e_sub_ii, e_mul_ii, e_mul_li, e_mul_si, e_fdiv_ii, e_mod_ii, e_pow_ii, e_deq_nn, e_deq_ii, e_deq_ss, e_deq_bb, e_deq_tt, e_deq_ll, e_deq_st, e_deq_ts, e_deql_n, e_deql_c, e_deql_nc, e_deql_cn, e_isN, e_ix_l, e_ix_t, e_ix_c, e_ix_s, e_ix_d, e_ix_dt, e_in_l, e_in_t, e_in_s, e_in_d, e_in_dt, e_sl_l, e_sl_s, e_len_lst, e_len_tup, e_len_s, e_len_c, e_len_d, e_int_i, e_abs_i, e_str_i, e_tup_l, e_tup_t, e_oLst0_l, e_oLst0_t, e_oLst0M_l, e_oLst0M_t, e_set_l, e_set_d, e_set_t, e_key_i, e_key_s, e_isT_non_bool, e_isT_non_int, e_isT_non_str, e_isT_non_list, e_isT_non_tuple, e_isT_non_dict, e_isT_bool_bool, e_isT_bool_int, e_isT_bool_str, e_isT_bool_list, e_isT_bool_tuple, e_isT_bool_dict, e_isT_int_bool, e_isT_int_int, e_isT_int_str, e_isT_int_list, e_isT_int_tuple, e_isT_int_dict, e_isT_str_bool, e_isT_str_int, e_isT_str_str, e_isT_str_list, e_isT_str_tuple, e_isT_str_dict, e_isT_list_bool, e_isT_list_int, e_isT_list_str, e_isT_list_list, e_isT_list_tuple, e_isT_list_dict, e_isT_tuple_bool, e_isT_tuple_int, e_isT_tuple_str, e_isT_tuple_list, e_isT_tuple_tuple, e_isT_tuple_dict, e_isT_dict_bool, e_isT_dict_int, e_isT_dict_str, e_isT_dict_list, e_isT_dict_tuple, e_isT_dict_dict, e_lt, e_le, e_gt, e_ge, e_fld, e_meth, e_inO, e_lenO, e_eqO, e_S1, e_S2, e_S3, e_S4, dChain, dPar, dIsi2, dMake, dRaise, dX0, dXN, dTryM, dMix, Bool.not_true, Bool.not_false, eq_self, true_and, and_true, true_or, and_self, e_mulM_li, e_addM_ll, dFrzE, Bool.false_bne, Bool.true_bne, dGet, dGet1, dDpop, dIdx, e_dic0, e_dic0M, e_same, sl1, dkey_s, e_cxK, dXf, e_sameP, e_addT, dFrzO, oFrz, dClr, e_lstD, List.map_id] using hR) (by omega) (fun i v hi R hR => ?_) ?_
              · have fv := List.all_eq_true.mp hf v (List.mem_of_getElem? hi)
                have vv : vw M v = v := by cases v <;> first | rfl | cases fv
                simp? only [id_eq, vv]
                exact ⟨.inl ⟨fv, all_flat_str mem⟩, hR⟩
              · simp? only
                refine ⟨vs.map fun v => (sL mem).any fun y => deq y v, by rw [List.map_map]; rfl, M, cl, ?_⟩
                have e : isOp mem s (.int k) vs = (vs.map fun v => (sL mem).any fun y => deq y v).all id := by
                  simp only [isOp, hw, decide_eq_true k0, decide_eq_true k2, decide_eq_true hlen, Bool.true_and, List.all_map]; rfl
                rwa [e] at q
            · rw [if_pos (by simp; exact_mod_cast hlen)]
              exact fin (by simp [isOp, hlen])
          · rw [if_pos (by simp; omega)]
            exact fin (fin2 (by omega))
        · rw [if_neg k0]
          exact fin (fin2 (by omega))
      · have hni : isOp mem s a vs = false := by
          cases a with
          | int k => cases ht; exact absurd rfl hi
          | _ => simp [isOp]
        by_cases hb : t = .bool
        · subst hb
          simp? only
          exact fin hni
        · have : isT t .int = false := by cases t <;> first | rfl | exact absurd rfl hi | exact absurd rfl hb
          simp? only [this]
          exact fin hni
    · rw [if_pos (by simpa using hw)]
      exact fin (by simp [isOp, hw])
end
end EK


set_option Elab.async false
set_option linter.all false
set_option maxRecDepth 100000
set_option maxHeartbeats 400000
namespace EK
open PySem PySem.Spec PyProof.Rows L2 DL
local macro_rules
  | `(tactic| simp? only [$ls,*]) => `(tactic| simp only [$ls,*, dVar, dC, dOp, dTest, dTru, dAnd, dOr, dNot, dAndV, dOrV, dNotV, dIfE, dNil, dCons, dStar, dTup, dLst, dLstM, dFrz, dNeg, oEq, oNe, dNoO, dSoO, dSl, dNext, dSeq, dBreak, dCont, dExpr, dRet, dRetN, dIf, gNm, gNl, gCn, gTp, dAsg, dSet, dAug, dIter, dRng1, dRng2, dYes, dCallB, f1, dIsi, dJoinAt, dFmt, dJs, dJoined, dCall, dstart, rget, rset, dwipe, gSb, dApp, dPop, fMax2, fMin2, dNever, dPairs, dDispG, dDisp, dDispM, dNewK, dNewT, keyD, if_true, if_false, decide_eq_true_eq, Bool.false_eq_true, List.map_cons, List.map_nil, List.length_cons, List.length_nil, List.cons_append, List.nil_append, Nat.reduceAdd, Nat.reduceSub, List.reduceReplicate, e_vw_non, e_vw_bl, e_vw_int, e_vw_str, e_vw_scr, e_vw_lst, e_vw_tup, e_vw_dic, e_vw_dit, e_vw_obj, e_vw_ty, e_flat_non, e_isn_non, e_ty_non, e_flat_bl, e_isn_bl, e_ty_bl, e_flat_int, e_isn_int, e_ty_int, e_flat_str, e_isn_str, e_ty_str, e_flat_scr, e_isn_scr, e_ty_scr, e_flat_lst, e_isn_lst, e_ty_lst, e_flat_tup, e_isn_tup, e_ty_tup, e_flat_dic, e_isn_dic, e_ty_dic, e_flat_dit, e_isn_dit, e_flat_obj, e_isn_obj, e_flat_ty, e_isn_ty, e_add_ii, e_add_ss, e_add_ll, e_add_tt, e_iadd_ii, e_iadd_ss, e_sub_ii, e_mul_ii, e_mul_li, e_mul_si, e_fdiv_ii, e_mod_ii, e_pow_ii, e_deq_nn, e_deq_ii, e_deq_ss, e_deq_bb, e_deq_tt, e_deq_ll, e_deq_st, e_deq_ts, e_deql_n, e_deql_c, e_deql_nc, e_deql_cn, e_isN, e_ix_l, e_ix_t, e_ix_c, e_ix_s, e_ix_d, e_ix_dt, e_in_l, e_in_t, e_in_s, e_in_d, e_in_dt, e_sl_l, e_sl_s, e_len_lst, e_len_tup, e_len_s, e_len_c, e_len_d, e_int_i, e_abs_i, e_str_i, e_tup_l, e_tup_t, e_oLst0_l, e_oLst0_t, e_oLst0M_l, e_oLst0M_t, e_set_l, e_set_d, e_set_t, e_key_i, e_key_s, e_isT_non_bool, e_isT_non_int, e_isT_non_str, e_isT_non_list, e_isT_non_tuple, e_isT_non_dict, e_isT_bool_bool, e_isT_bool_int, e_isT_bool_str, e_isT_bool_list, e_isT_bool_tuple, e_isT_bool_dict, e_isT_int_bool, e_isT_int_int, e_isT_int_str, e_isT_int_list, e_isT_int_tuple, e_isT_int_dict, e_isT_str_bool, e_isT_str_int, e_isT_str_str, e_isT_str_list, e_isT_str_tuple, e_isT_str_dict, e_isT_list_bool, e_isT_list_int, e_isT_list_str, e_isT_list_list, e_isT_list_tuple, e_isT_list_dict, e_isT_tuple_bool, e_isT_tuple_int, e_isT_tuple_str, e_isT_tuple_list, e_isT_tuple_tuple, e_isT_tuple_dict, e_isT_dict_bool, e_isT_dict_int, e_isT_dict_str, e_isT_dict_list, e_isT_dict_tuple, e_isT_dict_dict, e_lt, e_le, e_gt, e_ge, e_fld, e_meth, e_inO, e_lenO, e_eqO, e_S1, e_S2, e_S3, e_S4, dChain, dPar, dIsi2, dMake, dRaise, dX0, dXN, dTryM, dMix, Bool.not_true, Bool.not_false, eq_self, true_and, and_true, true_or, and_self, e_mulM_li, e_addM_ll, dFrzE, Bool.false_bne, Bool.true_bne, dGet, dGet1, dDpop, dIdx, e_dic0, e_dic0M, e_same, sl1, dkey_s, e_cxK, dXf, e_sameP, e_addT, dFrzO, oFrz, dClr, e_lstD])
  | `(tactic| simp? only) => `(tactic| simp? only [eq_self])
section
variable {P : Program} {w : World} {K : PySem.W.Frag} {mg : Str → Option Value} {base : Heap}
def sqD (b : Bool) (xs : List D) : D := if b then .tup xs else .lst xs
def Alg.tolB (A : Alg) (b : Bool) : List D := A.ops.map fun o => .tup [.str o.sg, .int (o.ar : Int), sqD b (A.valD o)]
theorem dput_len {f : Str} {v : D} : ∀ {fs : List (Str × D)} {n : Nat}, fs.length ≤ n → (dputF f v fs).length ≤ n + 1
  | [], n, _ => by simp [dputF]
  | (g, u) :: r, n, h => by
    unfold dputF
    split
    · simp only [List.length_cons] at h ⊢; omega
    · cases n with
      | zero => simp at h
      | succ n =>
        have := dput_len (f := f) (v := v) (fs := r) (n := n) (by simpa using h)
        simp only [List.length_cons]; omega
theorem lt1000 {n k : Nat} (h : n ≤ k) (hk : k < 1000 := by decide) : n < 1000 := Nat.lt_of_le_of_lt h hk
theorem valD_len (A : Alg) (o : Op) : (A.valD o).length = o.vs.length := by simp [Alg.valD, sL]
def S_Algebra_lay (K : PySem.W.Frag) : DSp := S3 fun x y z M Q _ => ∃ (a C : Addr) (A : Alg) (b c : Bool), x = .ref a ∧ M a = some (.ins C []) ∧ okc_Algebra K C ∧ y = .lst (sL A.mem) ∧ z = sqD c (A.tolB b) ∧ A.Ok ∧ Q .non (mset M a (.ins C A.objF))
theorem ok_Algebra_lay (m : Mg K mg) {f : Addr} {fd : FuncData} (F_tuples_of : Fn P w K mg base 1 "tuples_of" ["things", "many"] (S_tuples_of K)) (Fd : FunM K "lay" "Algebra.lay" s_Algebra_lay f fd) (hC : ∀ C, okc_Algebra K C → L2.Cls K C ∧ L2.Meth K C "lay" f) : Mt P w K mg base 2 (okc_Algebra K) "lay" ["self", "names", "operations"] (S_Algebra_lay K) := by
  refine ⟨f, fd, ?_, Fd.bindsN fun _ _ _ _ _ _ us hl => match us, hl with | [_, _, _], _ => rfl, hC⟩
  refine dfnG Fd sc_Algebra_lay (fun ds M Q E h => by obtain ⟨_, _, _, rfl, _⟩ := S3.of h; rfl) fun cdv A outer s H E Ed hr => ⟨_, (dss_cons (ds_fld (ok := okc_Algebra K) (f := "order") (fun C hC => m.fl_Algebra_order C hC) (vr 0) (de_tupOf rfl m.tuple (vr 1))) (dss_cons (ds_fld (ok := okc_Algebra K) (f := "places") (fun C hC => m.fl_Algebra_places C hC) (vr 0) (de_dcG (kkK K) (Rm1 hr) rfl sc_Algebra_lay.nd (di_enum rfl m.enumerate (vr 1)) (blkOk_by (own := [("place", 6), ("name", 7)]) (N := ["self", "names", "operations", "sign", "arity", "values", "place", "name", "row", "value"]) (sc := defScope s_Algebra_lay) (by decide +kernel)) (fun _ _ _ _ _ => (dg_tup (n := 2) rfl (dgs_cons (gN 6 sc_Algebra_lay.nd) (dgs_cons (gN 7 sc_Algebra_lay.nd) dgs_nil)))) (fun _ _ _ _ _ => dts_nil) (fun _ _ _ _ _ => (vr 7)) (fun _ _ _ _ _ => (vr 6)) (by decide))) (dss_cons (ds_fld (ok := okc_Algebra K) (f := "signature") (fun C hC => m.fl_Algebra_signature C hC) (vr 0) (de_tupOf rfl m.tuple (de_lc rfl sc_Algebra_lay.nd (di_seq (vr 2)) (blkOk_by (own := [("sign", 3), ("arity", 4), ("values", 5)]) (N := ["self", "names", "operations", "sign", "arity", "values", "place", "name", "row", "value"]) (sc := defScope s_Algebra_lay) (by decide +kernel)) (fun _ _ _ _ _ => (dg_tup (n := 3) rfl (dgs_cons (gN 3 sc_Algebra_lay.nd) (dgs_cons (gN 4 sc_Algebra_lay.nd) (dgs_cons (gN 5 sc_Algebra_lay.nd) dgs_nil))))) (fun _ _ _ _ _ => dts_nil) (fun _ _ _ _ _ => (de_tup (da_cons (vr 3) (da_cons (vr 4) da_nil)))) (by decide)))) (dss_cons (ds_fld (ok := okc_Algebra K) (f := "arities") (fun C hC => m.fl_Algebra_arities C hC) (vr 0) (de_dcG (kkK K) (Rm1 hr) rfl sc_Algebra_lay.nd (di_seq (de_fld (ok := okc_Algebra K) (f := "signature") (fun C hC => m.fl_Algebra_signature C hC) (vr 0))) (blkOk_by (own := [("sign", 3), ("arity", 4)]) (N := ["self", "names", "operations", "sign", "arity", "values", "place", "name", "row", "value"]) (sc := defScope s_Algebra_lay) (by decide +kernel)) (fun _ _ _ _ _ => (dg_tup (n := 2) rfl (dgs_cons (gN 3 sc_Algebra_lay.nd) (dgs_cons (gN 4 sc_Algebra_lay.nd) dgs_nil)))) (fun _ _ _ _ _ => dts_nil) (fun _ _ _ _ _ => (vr 3)) (fun _ _ _ _ _ => (vr 4)) (by decide))) (dss_cons (ds_fld (ok := okc_Algebra K) (f := "rows") (fun C hC => m.fl_Algebra_rows C hC) (vr 0) (de_tupOf rfl m.tuple (de_lc rfl sc_Algebra_lay.nd (di_seq (vr 2)) (blkOk_by (own := [("sign", 3), ("arity", 4), ("values", 5)]) (N := ["self", "names", "operations", "sign", "arity", "values", "place", "name", "row", "value"]) (sc := defScope s_Algebra_lay) (by decide +kernel)) (fun _ _ _ _ _ => (dg_tup (n := 3) rfl (dgs_cons (gN 3 sc_Algebra_lay.nd) (dgs_cons (gN 4 sc_Algebra_lay.nd) (dgs_cons (gN 5 sc_Algebra_lay.nd) dgs_nil))))) (fun _ _ _ _ _ => dts_nil) (fun _ _ _ _ _ => (de_tup (da_cons (vr 3) (da_cons (vr 4) (da_cons (de_tupOf rfl m.tuple (vr 5)) da_nil))))) (by decide)))) (dss_cons (ds_fld (ok := okc_Algebra K) (f := "tables") (fun C hC => m.fl_Algebra_tables C hC) (vr 0) de_newK) (dss_cons (dFor1 (passes_of rfl) (di_seq (de_fld (ok := okc_Algebra K) (f := "rows") (fun C hC => m.fl_Algebra_rows C hC) (vr 0))) (dg_tup (n := 3) rfl (dgs_cons (gN 3 sc_Algebra_lay.nd) (dgs_cons (gN 4 sc_Algebra_lay.nd) (dgs_cons (gN 5 sc_Algebra_lay.nd) dgs_nil)))) (dss_one (ds_asg (de_dcG (kkT K) (Rm1 hr) rfl sc_Algebra_lay.nd (di_zip rfl m.zip (cF F_tuples_of hr (by omega) rfl (fun σ => passAt (takes_of rfl rfl rfl rfl) σ) (da_cons (vr 1) (da_cons (vr 4) da_nil))) (vr 5)) (blkOk_by (own := [("row", 8), ("value", 9)]) (N := ["self", "names", "operations", "sign", "arity", "values", "place", "name", "row", "value"]) (sc := defScope s_Algebra_lay) (by decide +kernel)) (fun _ _ _ _ _ => (dg_tup (n := 2) rfl (dgs_cons (gN 8 sc_Algebra_lay.nd) (dgs_cons (gN 9 sc_Algebra_lay.nd) dgs_nil)))) (fun _ _ _ _ _ => dts_nil) (fun _ _ _ _ _ => (vr 8)) (fun _ _ _ _ _ => (vr 9)) (by decide)) (gSub (Rm1 hr) (de_fld (ok := okc_Algebra K) (f := "tables") (fun C hC => m.fl_Algebra_tables C hC) (vr 0)) (vr 3))))) (dss_one (ds_fld (ok := okc_Algebra K) (f := "whole") (fun C hC => m.fl_Algebra_whole C hC) (vr 0) (de_tup (da_cons (de_fld (ok := okc_Algebra K) (f := "order") (fun C hC => m.fl_Algebra_order C hC) (vr 0)) (da_cons (de_fld (ok := okc_Algebra K) (f := "rows") (fun C hC => m.fl_Algebra_rows C hC) (vr 0)) da_nil)))))))))))), fun ds M Q cl h => ?_⟩
  obtain ⟨a0, a1, a2, rfl, h⟩ := S3.of h

  obtain ⟨a, C, A, b, c, rfl, ea, hC, rfl, rfl, ok, q⟩ := h
  simp? only [dFldS]
  refine ⟨a, C, [], rfl, ea, hC, by decide, ?_⟩
  have hn : A.mem.length ≤ 100 := ok.le
  have hops : ∀ {d : D}, d = sqD c (A.tolB b) → ∀ (o1 o2 o3 o4 o5 o6 o7 o8 : Option D) (M' : Mp) (R : List D → Mp → Prop), R (A.tolB b) M' → dIter (dVar 2) [o1, o2, some d, o3, o4, o5, o6, o7, o8, o8] M' R := by
    rintro d rfl o1 o2 o3 o4 o5 o6 o7 o8 M' R hR
    cases c <;> simpa only [sqD, if_true, if_false, dVar, dC, dOp, dTest, dTru, dAnd, dOr, dNot, dAndV, dOrV, dNotV, dIfE, dNil, dCons, dStar, dTup, dLst, dLstM, dFrz, dNeg, oEq, oNe, dNoO, dSoO, dSl, dNext, dSeq, dBreak, dCont, dExpr, dRet, dRetN, dIf, gNm, gNl, gCn, gTp, dAsg, dSet, dAug, dIter, dRng1, dRng2, dYes, dCallB, f1, dIsi, dJoinAt, dFmt, dJs, dJoined, dCall, dstart, rget, rset, dwipe, gSb, dApp, dPop, fMax2, fMin2, dNever, dPairs, dDispG, dDisp, dDispM, dNewK, dNewT, keyD, if_true, if_false, decide_eq_true_eq, Bool.false_eq_true, List.map_cons, List.map_nil, List.length_cons, List.length_nil, List.cons_append, List.nil_append, Nat.reduceAdd, Nat.reduceSub, List.reduceReplicate, e_vw_non, e_vw_bl, e_vw_int, e_vw_str, e_vw_scr, e_vw_lst, e_vw_tup, e_vw_dic, e_vw_dit, e_vw_obj, e_vw_ty, e_flat_non, e_isn_non, e_ty_non, e_flat_bl, e_isn_bl, e_ty_bl, e_flat_int, e_isn_int, e_ty_int, e_flat_str, e_isn_str, e_ty_str, e_flat_scr, e_isn_scr, e_ty_scr, e_flat_lst, e_isn_lst, e_ty_lst, e_flat_tup, e_isn_tup, e_ty_tup, e_flat_dic, e_isn_dic, e_ty_dic, e_flat_dit, e_isn_dit, e_flat_obj, e_isn_obj, e_flat_ty, e_isn_ty, e_add_ii, e_add_ss, e_add_ll, e_add_tt, e_iadd_ii, e_iadd_ss, e_sub_ii, e_mul_ii, e_mul_li, e_mul_si, e_fdiv_ii, e_mod_ii, e_pow_ii, e_deq_nn, e_deq_ii, e_deq_ss, e_deq_bb, e_deq_tt, e_deq_ll, e_deq_st, e_deq_ts, e_deql_n, e_deql_c, e_deql_nc, e_deql_cn, e_isN, e_ix_l, e_ix_t, e_ix_c, e_ix_s, e_ix_d, e_ix_dt, e_in_l, e_in_t, e_in_s, e_in_d, e_in_dt, e_sl_l, e_sl_s, e_len_lst, e_len_tup, e_len_s, e_len_c, e_len_d, e_int_i, e_abs_i, e_str_i, e_tup_l, e_tup_t, e_oLst0_l, e_oLst0_t, e_oLst0M_l, e_oLst0M_t, e_set_l, e_set_d, e_set_t, e_key_i, e_key_s, e_isT_non_bool, e_isT_non_int, e_isT_non_str, e_isT_non_list, e_isT_non_tuple, e_isT_non_dict, e_isT_bool_bool, e_isT_bool_int, e_isT_bool_str, e_isT_bool_list, e_isT_bool_tuple, e_isT_bool_dict, e_isT_int_bool, e_isT_int_int, e_isT_int_str, e_isT_int_list, e_isT_int_tuple, e_isT_int_dict, e_isT_str_bool, e_isT_str_int, e_isT_str_str, e_isT_str_list, e_isT_str_tuple, e_isT_str_dict, e_isT_list_bool, e_isT_list_int, e_isT_list_str, e_isT_list_list, e_isT_list_tuple, e_isT_list_dict, e_isT_tuple_bool, e_isT_tuple_int, e_isT_tuple_str, e_isT_tuple_list, e_isT_tuple_tuple, e_isT_tuple_dict, e_isT_dict_bool, e_isT_dict_int, e_isT_dict_str, e_isT_dict_list, e_isT_dict_tuple, e_isT_dict_dict, e_lt, e_le, e_gt, e_ge, e_fld, e_meth, e_inO, e_lenO, e_eqO, e_S1, e_S2, e_S3, e_S4, dChain, dPar, dIsi2, dMake, dRaise, dX0, dXN, dTryM, dMix, Bool.not_true, Bool.not_false, eq_self, true_and, and_true, true_or, and_self, e_mulM_li, e_addM_ll, dFrzE, Bool.false_bne, Bool.true_bne, dGet, dGet1, dDpop, dIdx, e_dic0, e_dic0M, e_same, sl1, dkey_s, e_cxK, dXf, e_sameP, e_addT, dFrzO, oFrz, dClr, e_lstD] using hR
  refine dDc_nodup A.mem.zipIdx (fun p => .tup [.int (p.2 : Nat), .str p.1]) (fun p => .str p.1) (fun p => .inr p.1) (fun p => .int (p.2 : Nat)) (fun R hR => ?_) (by rw [List.length_zipIdx]; omega) ?_ (fun _ => rfl) (fun i p hp R2 h2 => ?_) ?_
  · simp? only [dEnum]
    exact ⟨_, rfl, by rw [sL, enumD_map]; exact hR⟩
  · exact inr_nodup (f := fun p : Cd × Nat => p.1) (by rw [zipIdx_fst]; exact ok.nd)
  · simp? only; exact h2
  have l1 := dput_len (f := "order") (v := D.tup (sL A.mem)) (fs := []) (n := 0) (Nat.le_refl _)
  refine ⟨a, C, _, rfl, mset_same, hC, lt1000 l1, ?_⟩
  rw [mset_mset]
  refine dLc_map A.ops (fun o => .tup [.str o.sg, .int (o.ar : Int), sqD b (A.valD o)]) Op.sigD (fun R hR => hops rfl _ _ _ _ _ _ _ _ _ _ hR) (by have := ok.lo; omega) (fun i o ho R hR => ?_) ?_
  · simp? only; exact ⟨szl (by omega), hR⟩
  simp? only
  have l2 := dput_len (f := "places") (v := (kkK K).tree (List.map (fun x => (Sum.inr x.fst, D.int ↑x.snd)) A.mem.zipIdx)) l1
  refine ⟨a, C, _, rfl, mset_same, hC, lt1000 l2, ?_⟩
  rw [mset_mset]
  have l3 := dput_len (f := "signature") (v := D.tup (List.map Op.sigD A.ops)) l2
  refine dDc_nodup A.ops Op.sigD (fun o => .str o.sg) (fun o => .inr o.sg) (fun o => .int (o.ar : Nat)) (fun R hR => ?_) (by have := ok.lo; omega) (inr_nodup ok.sn) (fun _ => rfl) (fun i o ho R2 h2 => ?_) ?_
  · simp? only
    refine fld_r mset_same rfl hC ?_
    exact hR
  · simp? only [Op.sigD]; exact h2
  refine ⟨a, C, _, rfl, mset_same, hC, lt1000 l3, ?_⟩
  rw [mset_mset]
  have l4 := dput_len (f := "arities") (v := (kkK K).tree (A.ops.map fun o => (Sum.inr o.sg, D.int (o.ar : Nat)))) l3
  refine dLc_map A.ops (fun o => .tup [.str o.sg, .int (o.ar : Int), sqD b (A.valD o)]) A.rowD (fun R hR => hops rfl _ _ _ _ _ _ _ _ _ _ hR) (by have := ok.lo; omega) (fun i o ho R hR => ?_) ?_
  · cases b <;> simp? only [sqD, if_true, if_false] <;> exact ⟨szl (by omega), hR⟩
  simp? only
  refine ⟨a, C, _, rfl, mset_same, hC, lt1000 l4, fun t ht => ?_⟩
  rw [mset_mset] at ht ⊢
  have nat : a ≠ t := fun e => by subst e; rw [mset_same] at ht; cases ht
  have l5 := dput_len (f := "rows") (v := D.tup (List.map A.rowD A.ops)) l4
  refine ⟨a, C, _, rfl, by rw [mset_ne nat, mset_same], hC, lt1000 l5, ?_⟩
  generalize hfs : dputF ("tables" : Str) (D.ref t) _ = fsT
  have k1 : fsT.lookup ("rows" : Str) = some A.rowsD := by rw [← hfs]; rfl
  have k2 : fsT.lookup ("tables" : Str) = some (.ref t) := by rw [← hfs]; rfl
  have k3 : fsT.lookup ("order" : Str) = some A.ordD := by rw [← hfs]; rfl
  have l6 : fsT.length ≤ 6 := by rw [← hfs]; exact dput_len l5
  have k4 : dputF ("tables" : Str) (.dic A.tabsL) (dputF ("whole" : Str) A.whoD fsT) = A.objF := by rw [← hfs]; rfl
  have k5 : (dputF ("whole" : Str) A.whoD fsT).lookup ("tables" : Str) = some (.ref t) := by rw [← hfs]; rfl
  clear hfs l1 l2 l3 l4 l5
  have hMt : M t = none := by rw [mset_ne (Ne.symm nat)] at ht; exact ht
  have st : ∀ {o : MO}, mset (mset (mset M a o) t (MO.dic [])) a (MO.ins C fsT) = mset (mset M a (.ins C fsT)) t (.dic []) := by
    intro o
    funext x
    unfold mset
    by_cases hx : x = a
    · subst hx; simp [nat]
    · simp [hx]
  rw [st]
  refine dFor_inv A.ops A.rowD (fun i ρ M' => M' = mset (mset M a (.ins C fsT)) t (.dic ((A.ops.take i).map fun o => (.inr o.sg, .dit (A.tabL o)))) ∧ ∃ o3 o4 o5, ρ = [some (.ref a), some (.lst (sL A.mem)), some (sqD c (A.tolB b)), o3, o4, o5, none, none, none, none]) (fun R hR => ?_) ⟨rfl, _, _, _, rfl⟩ ?_ ?_
  · simp? only
    refine fld_r (by rw [mset_ne nat, mset_same]) k1 hC ?_
    exact hR
  · rintro i o ρ M' hi ⟨rfl, o3, o4, o5, rfl⟩
    have hoo := ok.op o (List.mem_of_getElem? hi)
    simp? only [Alg.rowD]
    have hle : (tuplesOf A.mem o.ar).length ≤ 10000 := by
      rw [tuplesOf_length]
      have h1 : A.mem.length ^ o.ar ≤ 100 ^ o.ar := Nat.pow_le_pow_left hn _
      have h2 : 100 ^ o.ar ≤ 100 ^ 2 := Nat.pow_le_pow_right (by omega) hoo.ar
      omega
    have hsz : ((sL A.mem).length + 1) ^ o.ar ≤ 1000000 := by
      have h1 : ((sL A.mem).length + 1) ^ o.ar ≤ 101 ^ o.ar := Nat.pow_le_pow_left (by simp [sL]; omega) _
      have h2 : 101 ^ o.ar ≤ 101 ^ 2 := Nat.pow_le_pow_right (by omega) hoo.ar
      omega
    refine dDc_nodup ((tuplesOf A.mem o.ar).zip (o.vs.map A.nm)) (fun p => .tup [.tup (sL p.1), .str p.2]) (fun p => .tup (sL p.1)) (fun p => p.1.map Sum.inr) (fun p => .str p.2) (fun R hR => ?_) (by rw [List.length_zip]; omega) ?_ (fun p => dkeys_str p.1) (fun i p hp R2 h2 => ?_) ?_
    · simp? only [dZip]
      refine ⟨sL A.mem, o.ar, .inl rfl, rfl, hsz, by have := hoo.ar; omega, ?_⟩
      refine ⟨.l, .t, _, _, rfl, rfl, ?_⟩
      have e : zipD ((tuplesOf (sL A.mem) o.ar).map .tup) (A.valD o) = ((tuplesOf A.mem o.ar).zip (o.vs.map A.nm)).map fun p => .tup [.tup (sL p.1), .str p.2] := by
        rw [sL, tuplesOf_map, List.map_map]
        exact zipD_map (fun r => D.tup (sL r)) D.str _ _
      rw [e]; exact hR
    · have e : ((tuplesOf A.mem o.ar).zip (o.vs.map A.nm)).map (fun p => p.1.map (Sum.inr : Cd → DK)) = (((tuplesOf A.mem o.ar).zip (o.vs.map A.nm)).map (·.1)).map (List.map Sum.inr) := by rw [List.map_map]; rfl
      rw [e]
      refine mapinr_nodup (List.Nodup.sublist ?_ (tuplesOf_nodup ok.nd o.ar))
      rw [List.map_fst_zip]
      · exact List.Sublist.refl _
      · rw [tuplesOf_length, List.length_map, hoo.len]; exact Nat.le_refl _
    · simp? only; exact h2
    · refine fld_r (by rw [mset_ne nat, mset_same]) k2 hC ?_
      refine ⟨t, _, rfl, mset_same, ?_⟩
      simp? only
      refine ⟨_, rfl, by rw [List.length_map, List.length_take]; have := ok.lo; exact szl' (by omega), ?_⟩
      refine ⟨?_, _, _, _, rfl⟩
      rw [mset_mset, dpu_new]
      · rw [List.take_add_one, hi, Option.toList_some, List.map_append]; rfl
      · rw [List.map_map]
        intro hm
        obtain ⟨o', ho', e⟩ := List.mem_map.mp hm
        have e : o'.sg = o.sg := by injection e
        have := nodup_take ok.sn (i := i) (x := o.sg) (by rw [List.getElem?_map, hi]; rfl)
        exact this (by rw [← List.map_take, ← e]; exact List.mem_map_of_mem ho')
  · rintro ρ M' ⟨rfl, o3, o4, o5, rfl⟩
    rw [List.take_length]
    simp? only [dFldS]
    refine fld_r (by rw [mset_ne nat, mset_same]) k3 hC ?_
    refine fld_r (by rw [mset_ne nat, mset_same]) k1 hC ?_
    refine ⟨szl (by omega), a, C, fsT, rfl, by rw [mset_ne nat, mset_same], hC, lt1000 l6, ?_⟩
    refine ⟨mset M a (.ins C A.objF), ?_, q⟩
    have g := Gh.fld (K := K) (a := a) (t := t) (C := C) (f := "tables") (d := .dic A.tabsL) (M := mset (mset (mset M a (.ins C fsT)) t (.dic A.tabsL)) a (.ins C (dputF "whole" A.whoD fsT))) mset_same k5 (by rw [mset_ne (Ne.symm nat), mset_same]) rfl nat
    rw [k4] at g
    have e : mset (mdel (mset (mset (mset M a (.ins C fsT)) t (.dic A.tabsL)) a (.ins C (dputF "whole" A.whoD fsT))) t) a (.ins C A.objF) = mset M a (.ins C A.objF) := by
      funext x
      unfold mset mdel
      by_cases hx : x = a
      · simp [hx]
      · by_cases hx2 : x = t
        · subst hx2; simp [hx, hMt]
        · simp [hx, hx2]
    rw [e] at g
    exact g
end
end EK


set_option Elab.async false
set_option linter.all false
set_option maxRecDepth 100000
set_option maxHeartbeats 400000
namespace EK
open PySem PySem.Spec PyProof.Rows L2 DL
local macro_rules
  | `(tactic| simp? only [$ls,*]) => `(tactic| simp only [$ls,*, dVar, dC, dOp, dTest, dTru, dAnd, dOr, dNot, dAndV, dOrV, dNotV, dIfE, dNil, dCons, dStar, dTup, dLst, dLstM, dFrz, dNeg, oEq, oNe, dNoO, dSoO, dSl, dNext, dSeq, dBreak, dCont, dExpr, dRet, dRetN, dIf, gNm, gNl, gCn, gTp, dAsg, dSet, dAug, dIter, dRng1, dRng2, dYes, dCallB, f1, dIsi, dJoinAt, dFmt, dJs, dJoined, dCall, dstart, rget, rset, dwipe, gSb, dApp, dPop, fMax2, fMin2, dNever, dPairs, dDispG, dDisp, dDispM, dNewK, dNewT, keyD, if_true, if_false, decide_eq_true_eq, Bool.false_eq_true, List.map_cons, List.map_nil, List.length_cons, List.length_nil, List.cons_append, List.nil_append, Nat.reduceAdd, Nat.reduceSub, List.reduceReplicate, e_vw_non, e_vw_bl, e_vw_int, e_vw_str, e_vw_scr, e_vw_lst, e_vw_tup, e_vw_dic, e_vw_dit, e_vw_obj, e_vw_ty, e_flat_non, e_isn_non, e_ty_non, e_flat_bl, e_isn_bl, e_ty_bl, e_flat_int, e_isn_int, e_ty_int, e_flat_str, e_isn_str, e_ty_str, e_flat_scr, e_isn_scr, e_ty_scr, e_flat_lst, e_isn_lst, e_ty_lst, e_flat_tup, e_isn_tup, e_ty_tup, e_flat_dic, e_isn_dic, e_ty_dic, e_flat_dit, e_isn_dit, e_flat_obj, e_isn_obj, e_flat_ty, e_isn_ty, e_add_ii, e_add_ss, e_add_ll, e_add_tt, e_iadd_ii, e_iadd_ss, e_sub_ii, e_mul_ii, e_mul_li, e_mul_si, e_fdiv_ii, e_mod_ii, e_pow_ii, e_deq_nn, e_deq_ii, e_deq_ss, e_deq_bb, e_deq_tt, e_deq_ll, e_deq_st, e_deq_ts, e_deql_n, e_deql_c, e_deql_nc, e_deql_cn, e_isN, e_ix_l, e_ix_t, e_ix_c, e_ix_s, e_ix_d, e_ix_dt, e_in_l, e_in_t, e_in_s, e_in_d, e_in_dt, e_sl_l, e_sl_s, e_len_lst, e_len_tup, e_len_s, e_len_c, e_len_d, e_int_i, e_abs_i, e_str_i, e_tup_l, e_tup_t, e_oLst0_l, e_oLst0_t, e_oLst0M_l, e_oLst0M_t, e_set_l, e_set_d, e_set_t, e_key_i, e_key_s, e_isT_non_bool, e_isT_non_int, e_isT_non_str, e_isT_non_list, e_isT_non_tuple, e_isT_non_dict, e_isT_bool_bool, e_isT_bool_int, e_isT_bool_str, e_isT_bool_list, e_isT_bool_tuple, e_isT_bool_dict, e_isT_int_bool, e_isT_int_int, e_isT_int_str, e_isT_int_list, e_isT_int_tuple, e_isT_int_dict, e_isT_str_bool, e_isT_str_int, e_isT_str_str, e_isT_str_list, e_isT_str_tuple, e_isT_str_dict, e_isT_list_bool, e_isT_list_int, e_isT_list_str, e_isT_list_list, e_isT_list_tuple, e_isT_list_dict, e_isT_tuple_bool, e_isT_tuple_int, e_isT_tuple_str, e_isT_tuple_list, e_isT_tuple_tuple, e_isT_tuple_dict, e_isT_dict_bool, e_isT_dict_int, e_isT_dict_str, e_isT_dict_list, e_isT_dict_tuple, e_isT_dict_dict, e_lt, e_le, e_gt, e_ge, e_fld, e_meth, e_inO, e_lenO, e_eqO, e_S1, e_S2, e_S3, e_S4, dChain, dPar, dIsi2, dMake, dRaise, dX0, dXN, dTryM, dMix, Bool.not_true, Bool.not_false, eq_self, true_and, and_true, true_or, and_self, e_mulM_li, e_addM_ll, dFrzE, Bool.false_bne, Bool.true_bne, dGet, dGet1, dDpop, dIdx, e_dic0, e_dic0M, e_same, sl1, dkey_s, e_cxK, dXf, e_sameP, e_addT, dFrzO, oFrz, dClr, e_lstD])
  | `(tactic| simp? only) => `(tactic| simp? only [eq_self])
section
variable {P : Program} {w : World} {K : PySem.W.Frag} {mg : Str → Option Value} {base : Heap}
structure Alg.Good (A : Alg) : Prop where
  ok : A.Ok
  le : A.n ≤ 6
  lo : A.ops.length ≤ 5
  wd : ∀ m ∈ A.mem, isMem (.str m) = true
  sg : ∀ o ∈ A.ops, isWord (.str o.sg) = true
/-! what an object's fields are -/
section
variable {ok : Addr → Prop} {M : Mp} {Q : D → Mp → Prop} {C : Addr} {A : Alg}
theorem o_order (h : ok C) : fldAt ok "order" (A.obj C) M Q ↔ Q A.ordD M := ⟨fun ⟨_, _, e, _, v, l, q⟩ => by cases e; cases (show some A.ordD = some v from l); exact q, fun q => fld_t rfl h q⟩
theorem o_places (h : ok C) : fldAt ok "places" (A.obj C) M Q ↔ Q (.dic A.plcL) M := ⟨fun ⟨_, _, e, _, v, l, q⟩ => by cases e; cases (show some (.dic A.plcL) = some v from l); exact q, fun q => fld_t rfl h q⟩
theorem o_signature (h : ok C) : fldAt ok "signature" (A.obj C) M Q ↔ Q A.sigD M := ⟨fun ⟨_, _, e, _, v, l, q⟩ => by cases e; cases (show some A.sigD = some v from l); exact q, fun q => fld_t rfl h q⟩
theorem o_arities (h : ok C) : fldAt ok "arities" (A.obj C) M Q ↔ Q (.dic A.ariL) M := ⟨fun ⟨_, _, e, _, v, l, q⟩ => by cases e; cases (show some (.dic A.ariL) = some v from l); exact q, fun q => fld_t rfl h q⟩
theorem o_rows (h : ok C) : fldAt ok "rows" (A.obj C) M Q ↔ Q A.rowsD M := ⟨fun ⟨_, _, e, _, v, l, q⟩ => by cases e; cases (show some A.rowsD = some v from l); exact q, fun q => fld_t rfl h q⟩
theorem o_tables (h : ok C) : fldAt ok "tables" (A.obj C) M Q ↔ Q (.dic A.tabsL) M := ⟨fun ⟨_, _, e, _, v, l, q⟩ => by cases e; cases (show some (.dic A.tabsL) = some v from l); exact q, fun q => fld_t rfl h q⟩
theorem o_whole (h : ok C) : fldAt ok "whole" (A.obj C) M Q ↔ Q A.whoD M := ⟨fun ⟨_, _, e, _, v, l, q⟩ => by cases e; cases (show some A.whoD = some v from l); exact q, fun q => fld_t rfl h q⟩
theorem o_vw : vw M (A.obj C) = A.obj C := rfl
theorem o_is {m : Str} (h : ok C) (hm : A.objF.lookup m = none) : isO ok m M (A.obj C) := isO_t hm h
theorem o_ex (h : ok C) : ∃ C' fs, vw M (A.obj C) = .obj C' fs ∧ ok C' := ⟨_, _, rfl, h⟩
end
theorem raise1 {d : D} {f : Str} {okD : D → Prop} {R : List (Str × D) → Mp → Prop} {M : Mp} (h : okD d) (cl : DL.Sub M M) (q : R [(f, d)] M) :
    (∃ d' r, [d] = d' :: r ∧ okD d') ∧ (∀ (j : Nat) (g : Str) (b : Bool) (y : D), [(f, false)][j]? = some (g, b) → [d][j]? = some y → okXD b y) ∧ ∃ M'', DL.Sub M'' M ∧ R (exD [(f, false)] [d]) M'' :=
  ⟨⟨d, [], rfl, h⟩, fun j g b y e _ => by
    cases j with
    | zero => cases e; exact fun z => by cases z
    | succ j => simp at e, M, cl, q⟩
theorem sL_len {a : List Cd} : (sL a).length = a.length := by simp [sL]
theorem any_f {α : Type} (f : α → Bool) (xs : List α) (h : ∀ x ∈ xs, f x = false) : (xs.map f).any id = false := by
  rw [List.any_eq_false]
  intro b hb
  obtain ⟨x, hx, rfl⟩ := List.mem_map.mp hb
  simp [h x hx]
theorem oAny_f {α : Type} {f : α → Bool} {xs : List α} {M : Mp} {Q : D → Mp → Prop} (h : ∀ x ∈ xs, f x = false) (q : Q (.bl false) M) : oAny (.lst (xs.map fun x => .bl (f x))) M Q :=
  ⟨xs.map f, by rw [List.map_map]; rfl, by rw [any_f f xs h]; exact q⟩
theorem oAll_b {α : Type} {f : α → Bool} {xs : List α} {M : Mp} {Q : D → Mp → Prop} (q : Q (.bl (xs.all f)) M) : oAll (.lst (xs.map fun x => .bl (f x))) M Q :=
  ⟨xs.map f, by rw [List.map_map]; rfl, by rw [List.all_map]; exact q⟩
theorem oAny_b {α : Type} {f : α → Bool} {xs : List α} {M : Mp} {Q : D → Mp → Prop} (q : Q (.bl (xs.any f)) M) : oAny (.lst (xs.map fun x => .bl (f x))) M Q :=
  ⟨xs.map f, by rw [List.map_map]; rfl, by rw [List.any_map]; exact q⟩
theorem isOp_ok {A : Alg} (g : A.Good) {o : Op} (ho : o ∈ A.ops) : isOp A.mem (.str o.sg) (.int (o.ar : Int)) (A.valD o) = true := by
  have hoo := g.ok.op o ho
  simp only [isOp, g.sg o ho, Bool.true_and, Bool.and_eq_true, decide_eq_true_eq, Int.toNat_natCast, valD_len]
  refine ⟨by omega, by have := hoo.ar; omega, hoo.len, List.all_eq_true.mpr fun v hv => ?_⟩
  obtain ⟨x, hx, rfl⟩ := List.mem_map.mp hv
  obtain ⟨i, hi, rfl⟩ := List.mem_map.mp hx
  rw [sL, any_deq_str, List.contains_iff_mem]
  exact nm_mem (hoo.lt i hi)
def S_Algebra_init (K : PySem.W.Frag) : DSp := S3 fun x y z M Q _ => ∃ (a C : Addr) (A : Alg) (b c d : Bool), x = .ref a ∧ M a = some (.ins C []) ∧ okc_Algebra K C ∧ y = sqD d (sL A.mem) ∧ z = sqD c (A.tolB b) ∧ A.Good ∧ Q .non (mset M a (.ins C A.objF))
theorem ok_Algebra_init {x : Str} {C : Addr} (m : Mg K mg) {f : Addr} {fd : FuncData} (F_is_member_name : Fn P w K mg base 1 "is_member_name" ["name"] (S_is_member_name K)) (F_is_operation : Fn P w K mg base 3 "is_operation" ["members", "operation"] (S_is_operation K)) (M_Algebra_lay : Mt P w K mg base 2 (okc_Algebra K) "lay" ["self", "names", "operations"] (S_Algebra_lay K)) (Fd : FunM K "__init__" "Algebra.__init__" s_Algebra_init f fd) (hM : L2.Mk K C f) (hg : mg x = some (.ref C)) : Nw P w K mg base 4 x C ["self", "members", "operations"] (S_Algebra_init K) := by
  refine ⟨f, fd, hM, ?_, Fd.bindsN fun _ _ _ _ _ _ us hl => match us, hl with | [_, _, _], _ => rfl, hg⟩
  refine dfn Fd sc_Algebra_init (fun ds M Q E h => by obtain ⟨_, _, _, rfl, _⟩ := S3.of h; rfl) fun cdv A outer s H E Ed hr => ⟨_, (dss_cons (sSet 3 sc_Algebra_init.nd (de_lstOf rfl m.list (vr 1))) (dss_cons (ds_if (DW.dt (dw_or (dt_not (dt_chain (f := oLe) (f' := oLe) op_le od_cmp op_le od_cmp de_int (de_len rfl m.len (vr 3)) (gI 6 m.MOST_MEMBERS))) (dw_or1 (dt_of (de_any rfl rfl m.any (de_lc rfl sc_Algebra_init.nd (di_seq (vr 3)) (blkOk_by (own := [("name", 7)]) (N := ["self", "members", "operations", "names", "signs", "operation", "sign", "name"]) (sc := defScope s_Algebra_init) (by decide +kernel)) (fun _ _ _ _ _ => (gN 7 sc_Algebra_init.nd)) (fun _ _ _ _ _ => dts_nil) (fun _ _ _ _ _ => (de_not (cF F_is_member_name hr (by omega) rfl no_pass (da_cons (vr 7) da_nil)))) (by decide))))))) (dss_one ds_never) dss_nil) (dss_cons (ds_if (DW.dt (dw_or (dt_of (de_any rfl rfl m.any (de_lc rfl sc_Algebra_init.nd (di_seq (vr 3)) (blkOk_by (own := [("name", 7)]) (N := ["self", "members", "operations", "names", "signs", "operation", "sign", "name"]) (sc := defScope s_Algebra_init) (by decide +kernel)) (fun _ _ _ _ _ => (gN 7 sc_Algebra_init.nd)) (fun _ _ _ _ _ => dts_nil) (fun _ _ _ _ _ => (de_gt (de_cnt (vr 3) (vr 7)) de_int)) (by decide)))) (dw_or1 (dt_gt (de_len rfl m.len (vr 2)) (gI 5 m.MOST_SIGNS))))) (dss_one ds_never) dss_nil) (dss_cons (ds_if (dt_of (de_any rfl rfl m.any (de_lc rfl sc_Algebra_init.nd (di_seq (vr 2)) (blkOk_by (own := [("operation", 5)]) (N := ["self", "members", "operations", "names", "signs", "operation", "sign", "name"]) (sc := defScope s_Algebra_init) (by decide +kernel)) (fun _ _ _ _ _ => (gN 5 sc_Algebra_init.nd)) (fun _ _ _ _ _ => dts_nil) (fun _ _ _ _ _ => (de_not (cF F_is_operation hr (by omega) rfl no_pass (da_cons (vr 3) (da_cons (vr 5) da_nil))))) (by decide)))) (dss_one ds_never) dss_nil) (dss_cons (sSet 4 sc_Algebra_init.nd (de_lc rfl sc_Algebra_init.nd (di_seq (vr 2)) (blkOk_by (own := [("operation", 5)]) (N := ["self", "members", "operations", "names", "signs", "operation", "sign", "name"]) (sc := defScope s_Algebra_init) (by decide +kernel)) (fun _ _ _ _ _ => (gN 5 sc_Algebra_init.nd)) (fun _ _ _ _ _ => dts_nil) (fun _ _ _ _ _ => (de_ix (Rm1 hr) (vr 5) de_int)) (by decide))) (dss_cons (ds_if (dt_of (de_any rfl rfl m.any (de_lc rfl sc_Algebra_init.nd (di_seq (vr 4)) (blkOk_by (own := [("sign", 6)]) (N := ["self", "members", "operations", "names", "signs", "operation", "sign", "name"]) (sc := defScope s_Algebra_init) (by decide +kernel)) (fun _ _ _ _ _ => (gN 6 sc_Algebra_init.nd)) (fun _ _ _ _ _ => dts_nil) (fun _ _ _ _ _ => (de_gt (de_cnt (vr 4) (vr 6)) de_int)) (by decide)))) (dss_one ds_never) dss_nil) (dss_one (ds_expr (cM M_Algebra_lay hr (by omega) (fun σ => passAt (takes_of rfl rfl rfl rfl) σ) (vr 0) (da_cons (vr 3) (da_cons (vr 2) da_nil))))))))))), fun ds M Q cl h => ?_⟩
  obtain ⟨a0, a1, a2, rfl, h⟩ := S3.of h

  obtain ⟨a, C, A, b, c, d, rfl, ea, hC, rfl, rfl, g, q⟩ := h
  simp? only
  have ok := g.ok
  have hn : A.mem.length ≤ 6 := g.le
  have hn1 : 1 ≤ A.mem.length := List.length_pos_iff.mpr ok.ne
  have hlo := g.lo
  have hd : ∀ R : D → Mp → Prop, R (.lst (sL A.mem)) M → oLst0 (vw M (sqD d (sL A.mem))) M R := fun R hR => by cases d <;> exact hR
  refine hd _ ?_
  simp? only [sL_len]
  rw [if_pos (by omega), if_neg (by simp; omega)]
  refine dLc_map A.mem D.str (fun x => .bl (!isMem (.str x))) (fun R hR => by simp? only; exact hR) (by omega) (fun i x hi R hR => ?_) ?_
  · simp? only
    exact ⟨anyD_s (by have := (ok.wd x (List.mem_of_getElem? hi)).1; omega), hR⟩
  simp? only
  refine oAny_f (fun x hx => by simp [g.wd x hx]) ?_
  simp? only
  refine dLc_map A.mem D.str (fun x => .bl (decide ((1 : Int) < (A.mem.count x : Nat)))) (fun R hR => by simp? only; exact hR) (by omega) (fun i x hi R hR => ?_) ?_
  · simp? only [dCnt]
    exact ⟨⟨_, rfl⟩, A.mem, x, rfl, rfl, hR⟩
  simp? only
  refine oAny_f (fun x hx => by rw [ok.nd.count, if_pos hx]; rfl) ?_
  simp? only
  have hc : ∀ R : D → Mp → Prop, R (.int (A.ops.length : Nat)) M → oLen (vw M (sqD c (A.tolB b))) M R := fun R hR => by cases c <;> simpa [sqD, oLen, Alg.tolB, vw] using hR
  refine hc _ ?_
  simp? only
  rw [if_neg (by omega)]
  have hops : ∀ (o1 o2 o3 o4 o5 o6 o7 : Option D) (M' : Mp) (R : List D → Mp → Prop), R (A.tolB b) M' → dIter (dVar 2) [o1, o2, some (sqD c (A.tolB b)), o3, o4, o5, o6, o7] M' R := by
    intro o1 o2 o3 o4 o5 o6 o7 M' R hR
    cases c <;> (simp? only [sqD, if_true, if_false]; exact hR)
  refine dLc_map A.ops (fun o => .tup [.str o.sg, .int (o.ar : Int), sqD b (A.valD o)]) (fun o => .bl (!isOp A.mem (.str o.sg) (.int (o.ar : Int)) (A.valD o))) (fun R hR => hops _ _ _ _ _ _ _ _ _ hR) (by omega) (fun i o hi R hR => ?_) ?_
  · have ho := List.mem_of_getElem? hi
    have hoo := ok.op o ho
    simp? only
    refine ⟨A.mem, .str o.sg, .int (o.ar : Int), sqD b (A.valD o), A.valD o, rfl, .inr rfl, anyD_s (by have := hoo.wd.1; omega), ⟨_, rfl⟩, by cases b <;> simp [sqD], all_flat_str _, ?_, by omega, hR⟩
    rw [valD_len, hoo.len]
    have h1 : A.n ^ o.ar ≤ 6 ^ o.ar := Nat.pow_le_pow_left hn _
    have h2 : 6 ^ o.ar ≤ 6 ^ 2 := Nat.pow_le_pow_right (by omega) hoo.ar
    omega
  simp? only
  refine oAny_f (fun o ho => by rw [isOp_ok g ho]; rfl) ?_
  simp? only
  refine dLc_map A.ops (fun o => .tup [.str o.sg, .int (o.ar : Int), sqD b (A.valD o)]) (fun o => .str o.sg) (fun R hR => hops _ _ _ _ _ _ _ _ _ hR) (by omega) (fun i o hi R hR => ?_) ?_
  · simp? only; exact ⟨_, atI0, hR⟩
  refine dLc_map (A.ops.map (·.sg)) D.str (fun x => .bl (decide ((1 : Int) < ((A.ops.map (·.sg)).count x : Nat)))) (fun R hR => by simp? only; rw [List.map_map] at hR; exact hR) (by rw [List.length_map]; omega) (fun i x hi R hR => ?_) ?_
  · simp? only [dCnt]
    exact ⟨⟨_, rfl⟩, A.ops.map (·.sg), x, by rw [List.map_map]; rfl, rfl, hR⟩
  simp? only
  refine oAny_f (fun x hx => by rw [ok.sn.count, if_pos hx]; rfl) ?_
  simp? only
  exact ⟨isO_r ea rfl hC, a, C, A, b, c, rfl, ea, hC, rfl, rfl, ok, _, cl.set (by rw [ea]; simp) (by simp), q⟩
def S_Algebra_members (K : PySem.W.Frag) : DSp := S1 fun x M Q _ => ∃ (C : Addr) (A : Alg), x = A.obj C ∧ okc_Algebra K C ∧ Q (.lst (sL A.mem)) M
theorem ok_Algebra_members (m : Mg K mg) {f : Addr} {fd : FuncData}  (Fd : FunM K "members" "Algebra.members" s_Algebra_members f fd) (hC : ∀ C, okc_Algebra K C → L2.Cls K C ∧ L2.Meth K C "members" f) : Mt P w K mg base 1 (okc_Algebra K) "members" ["self"] (S_Algebra_members K) := by
  refine ⟨f, fd, ?_, Fd.bindsN fun _ _ _ _ _ _ us hl => match us, hl with | [_], _ => rfl, hC⟩
  refine dfn Fd sc_Algebra_members (fun ds M Q E h => by obtain ⟨_, rfl, _⟩ := S1.of h; rfl) fun cdv A outer s H E Ed hr => ⟨_, (dss_one (ds_ret (de_lstOf rfl m.list (de_fld (ok := okc_Algebra K) (f := "order") (fun C hC => m.fl_Algebra_order C hC) (vr 0))))), fun ds M Q cl h => ?_⟩
  obtain ⟨a0, rfl, h⟩ := S1.of h

  obtain ⟨C, A, rfl, hC, q⟩ := h
  simp? only
  rw [o_order hC]
  simp? only [Alg.ordD]
  exact ⟨M, cl, q⟩
def S_Algebra_need (K : PySem.W.Frag) : DSp := S2 fun x y M Q E => ∃ (C : Addr) (A : Alg) (s : Cd), x = A.obj C ∧ okc_Algebra K C ∧ A.Ok ∧ y = .str s ∧ Wrd s ∧ (s ∈ A.mem → Q .non M) ∧ (s ∉ A.mem → E (He.ga K "UnknownMember") [("name", .str s)] M)
theorem ok_Algebra_need (m : Mg K mg) {f : Addr} {fd : FuncData} (X_UnknownMember : EXN P w K mg base "UnknownMember" (He.ga K "UnknownMember") [("name", false)] okTxt) (Fd : FunM K "need" "Algebra.need" s_Algebra_need f fd) (hC : ∀ C, okc_Algebra K C → L2.Cls K C ∧ L2.Meth K C "need" f) : Mt P w K mg base 3 (okc_Algebra K) "need" ["self", "name"] (S_Algebra_need K) := by
  refine ⟨f, fd, ?_, Fd.bindsN fun _ _ _ _ _ _ us hl => match us, hl with | [_, _], _ => rfl, hC⟩
  refine dfn Fd sc_Algebra_need (fun ds M Q E h => by obtain ⟨_, _, rfl, _⟩ := S2.of h; rfl) fun cdv A outer s H E Ed hr => ⟨_, (dss_one (ds_if (dt_notIn (Rm65 hr) (vr 1) (de_fld (ok := okc_Algebra K) (f := "places") (fun C hC => m.fl_Algebra_places C hC) (vr 0))) (dss_one (rzN X_UnknownMember (by decide) okTxt_D hr (by omega) (takes_of rfl rfl rfl rfl) rfl rfl (da_cons (vr 1) da_nil))) dss_nil)), fun ds M Q cl h => ?_⟩
  obtain ⟨a0, a1, rfl, h⟩ := S2.of h

  obtain ⟨C, A, s, rfl, hC, ok, rfl, hw, h1, h2⟩ := h
  simp? only
  rw [o_places hC]
  simp? only [dfind_s]
  refine ⟨_, rfl, ?_⟩
  rw [plc_iff ok]
  by_cases hs : s ∈ A.mem
  · simp? only [decide_eq_true hs]
    exact ⟨M, cl, h1 hs⟩
  · simp? only [decide_eq_false hs]
    exact raise1 ⟨s, rfl, by have := hw.1; omega, hw.2⟩ cl (h2 hs)
def S_Algebra___contains__ (K : PySem.W.Frag) : DSp := S2 fun x y M Q _ => ∃ (C : Addr) (A : Alg) (s : Cd), x = A.obj C ∧ okc_Algebra K C ∧ A.Ok ∧ y = .str s ∧ Q (.bl (decide (s ∈ A.mem))) M
theorem ok_Algebra___contains__ (m : Mg K mg) {f : Addr} {fd : FuncData}  (Fd : FunM K "__contains__" "Algebra.__contains__" s_Algebra___contains__ f fd) (hC : ∀ C, okc_Algebra K C → L2.Cls K C ∧ L2.Meth K C "__contains__" f) : Mt P w K mg base 1 (okc_Algebra K) "__contains__" ["self", "name"] (S_Algebra___contains__ K) := by
  refine ⟨f, fd, ?_, Fd.bindsN fun _ _ _ _ _ _ us hl => match us, hl with | [_, _], _ => rfl, hC⟩
  refine dfn Fd sc_Algebra___contains__ (fun ds M Q E h => by obtain ⟨_, _, rfl, _⟩ := S2.of h; rfl) fun cdv A outer s H E Ed hr => ⟨_, (dss_one (ds_ret (de_in (Rm65 hr) (vr 1) (de_fld (ok := okc_Algebra K) (f := "places") (fun C hC => m.fl_Algebra_places C hC) (vr 0))))), fun ds M Q cl h => ?_⟩
  obtain ⟨a0, a1, rfl, h⟩ := S2.of h

  obtain ⟨C, A, s, rfl, hC, ok, rfl, q⟩ := h
  simp? only
  rw [o_places hC]
  simp? only [dfind_s]
  exact ⟨_, rfl, M, cl, by rw [plc_iff ok]; exact q⟩
def S_Algebra___len__ (K : PySem.W.Frag) : DSp := S1 fun x M Q _ => ∃ (C : Addr) (A : Alg), x = A.obj C ∧ okc_Algebra K C ∧ Q (.int (A.n : Nat)) M
theorem ok_Algebra___len__ (m : Mg K mg) {f : Addr} {fd : FuncData}  (Fd : FunM K "__len__" "Algebra.__len__" s_Algebra___len__ f fd) (hC : ∀ C, okc_Algebra K C → L2.Cls K C ∧ L2.Meth K C "__len__" f) : Mt P w K mg base 1 (okc_Algebra K) "__len__" ["self"] (S_Algebra___len__ K) := by
  refine ⟨f, fd, ?_, Fd.bindsN fun _ _ _ _ _ _ us hl => match us, hl with | [_], _ => rfl, hC⟩
  refine dfn Fd sc_Algebra___len__ (fun ds M Q E h => by obtain ⟨_, rfl, _⟩ := S1.of h; rfl) fun cdv A outer s H E Ed hr => ⟨_, (dss_one (ds_ret (de_len rfl m.len (de_fld (ok := okc_Algebra K) (f := "order") (fun C hC => m.fl_Algebra_order C hC) (vr 0))))), fun ds M Q cl h => ?_⟩
  obtain ⟨a0, rfl, h⟩ := S1.of h

  obtain ⟨C, A, rfl, hC, q⟩ := h
  simp? only
  rw [o_order hC]
  simp? only [Alg.ordD, sL, List.length_map]
  exact ⟨M, cl, q⟩
def S_Algebra___eq__ (K : PySem.W.Frag) : DSp := S2 fun x y M Q _ => ∃ (C C' : Addr) (A B : Alg), x = A.obj C ∧ y = B.obj C' ∧ okc_Algebra K C ∧ okc_Algebra K C' ∧ A.Ok ∧ B.Ok ∧ Q (.bl (deq A.whoD B.whoD)) M
theorem ok_Algebra___eq__ (m : Mg K mg) {f : Addr} {fd : FuncData}  (Fd : FunM K "__eq__" "Algebra.__eq__" s_Algebra___eq__ f fd) (hC : ∀ C, okc_Algebra K C → L2.Cls K C ∧ L2.Meth K C "__eq__" f) : Mt P w K mg base 1 (okc_Algebra K) "__eq__" ["self", "other"] (S_Algebra___eq__ K) := by
  refine ⟨f, fd, ?_, Fd.bindsN fun _ _ _ _ _ _ us hl => match us, hl with | [_, _], _ => rfl, hC⟩
  refine dfn Fd sc_Algebra___eq__ (fun ds M Q E h => by obtain ⟨_, _, rfl, _⟩ := S2.of h; rfl) fun cdv A outer s H E Ed hr => ⟨_, (dss_one (ds_ret (de_and (de_isiO rfl m.isinstance rfl m.g_Algebra (vr 1)) (de_one (de_eq (Rm64 hr) (de_fld (ok := okc_Algebra K) (f := "whole") (fun C hC => m.fl_Algebra_whole C hC) (vr 0)) (de_fld (ok := okc_Algebra K) (f := "whole") (fun C hC => m.fl_Algebra_whole C hC) (vr 1))))))), fun ds M Q cl h => ?_⟩
  obtain ⟨a0, a1, rfl, h⟩ := S2.of h

  obtain ⟨C, C', A, B, rfl, rfl, hC, hC', oa, ob, q⟩ := h
  simp? only [dIsiO]
  have hT : TyIns K C' ∧ PySem.W.kitOne K (.ref C') (.ref (He.ga K "Algebra")) = some true := by
    rcases hC' with rfl
    · exact ⟨m.ti_Algebra, m.ki_Algebra_Algebra⟩
  refine .inl ⟨C', B.objF, true, rfl, hT.1, hT.2, ?_⟩
  rw [if_pos rfl, o_whole hC, o_whole hC']
  exact ⟨.inr ⟨who_ok oa, who_ok ob⟩, M, cl, q⟩
def S_Algebra_value (K : PySem.W.Frag) : DSp := S3 fun x y z M Q E => ∃ (C : Addr) (A : Alg) (s : Cd) (args : List Cd) (b : Bool), x = A.obj C ∧ okc_Algebra K C ∧ A.Ok ∧ y = .str s ∧ Wrd s ∧ z = sqD b (sL args) ∧ (∀ x ∈ args, Wrd x) ∧ args.length ≤ 100 ∧ (match A.value s args with
  | .val v => Q (.str v) M
  | .sign => E (He.ga K "UnknownSign") [("name", .str s)] M
  | .count => E (He.ga K "BadCount") [] M
  | .mem x => E (He.ga K "UnknownMember") [("name", .str x)] M)
theorem ok_Algebra_value (m : Mg K mg) {f : Addr} {fd : FuncData} (X_UnknownSign : EXN P w K mg base "UnknownSign" (He.ga K "UnknownSign") [("name", false)] okTxt) (X_BadCount : EX0 P w K mg base "BadCount" (He.ga K "BadCount")) (M_Algebra_need : Mt P w K mg base 3 (okc_Algebra K) "need" ["self", "name"] (S_Algebra_need K)) (Fd : FunM K "value" "Algebra.value" s_Algebra_value f fd) (hC : ∀ C, okc_Algebra K C → L2.Cls K C ∧ L2.Meth K C "value" f) : Mt P w K mg base 4 (okc_Algebra K) "value" ["self", "sign", "arguments"] (S_Algebra_value K) := by
  refine ⟨f, fd, ?_, Fd.bindsN fun _ _ _ _ _ _ us hl => match us, hl with | [_, _, _], _ => rfl, hC⟩
  refine dfn Fd sc_Algebra_value (fun ds M Q E h => by obtain ⟨_, _, _, rfl, _⟩ := S3.of h; rfl) fun cdv A outer s H E Ed hr => ⟨_, (dss_cons (ds_if (dt_notIn (Rm65 hr) (vr 1) (de_fld (ok := okc_Algebra K) (f := "arities") (fun C hC => m.fl_Algebra_arities C hC) (vr 0))) (dss_one (rzN X_UnknownSign (by decide) okTxt_D hr (by omega) (takes_of rfl rfl rfl rfl) rfl rfl (da_cons (vr 1) da_nil))) dss_nil) (dss_cons (ds_if (dt_ne (Rm64 hr) (de_len rfl m.len (vr 2)) (de_ix (Rm1 hr) (de_fld (ok := okc_Algebra K) (f := "arities") (fun C hC => m.fl_Algebra_arities C hC) (vr 0)) (vr 1))) (dss_one (rz0 X_BadCount hr (by omega) (takes_of rfl rfl rfl rfl) rfl rfl)) dss_nil) (dss_cons (dFor1 (passes_of rfl) (di_seq (vr 2)) (gN 3 sc_Algebra_value.nd) (dss_one (ds_expr (cM M_Algebra_need hr (by omega) (fun σ => passAt (takes_of rfl rfl rfl rfl) σ) (vr 0) (da_cons (vr 3) da_nil))))) (dss_one (ds_ret (de_ix (Rm1 hr) (de_ix (Rm1 hr) (de_fld (ok := okc_Algebra K) (f := "tables") (fun C hC => m.fl_Algebra_tables C hC) (vr 0)) (vr 1)) (de_tupOf rfl m.tuple (vr 2)))))))), fun ds M Q cl h => ?_⟩
  obtain ⟨a0, a1, a2, rfl, h⟩ := S3.of h

  obtain ⟨C, A, s, args, b, rfl, hC, ok, rfl, hs, rfl, hw, hz, q⟩ := h
  simp? only
  rw [o_arities hC]
  simp? only [dfind_s]
  refine ⟨_, rfl, ?_⟩
  rw [ari_iff ok]
  have okd : okTxtD (.str s) := ⟨s, rfl, by have := hs.1; omega, hs.2⟩
  cases ho : A.op? s with
  | none =>
    have hn := op?_none ho
    simp only [Alg.value, ho] at q
    simp? only [decide_eq_false hn]
    exact raise1 okd cl q
  | some o =>
    obtain ⟨hm, rfl⟩ := op?_some ho
    simp only [Alg.value, ho] at q
    have hin : o.sg ∈ A.ops.map (·.sg) := List.mem_map_of_mem hm
    simp? only [decide_eq_true hin]
    have hvw : vw M (sqD b (sL args)) = sqD b (sL args) := by cases b <;> rfl
    have hlen : ∀ R : D → Mp → Prop, R (.int (args.length : Nat)) M → oLen (sqD b (sL args)) M R := fun R hR => by cases b <;> simpa [sqD, sL, oLen] using hR
    rw [hvw]
    refine hlen _ ?_
    rw [o_arities hC]
    simp? only
    refine ⟨_, by rw [dfind_s, ari_look ok hm], ?_⟩
    simp? only
    by_cases hl : args.length = o.ar
    · rw [if_neg (by simp [hl])]
      rw [if_pos hl] at q
      refine gen_nx (t := dFor _ _ _) fun R hR => ?_
      refine dFor_inv args D.str (fun i ρ M' => M' = M ∧ (∀ x ∈ args.take i, x ∈ A.mem) ∧ ∃ o3, ρ = [some (A.obj C), some (.str o.sg), some (sqD b (sL args)), o3]) (fun R hR => ?_) ⟨rfl, by simp, _, rfl⟩ ?_ ?_
      · cases b <;> (simp? only [sqD, if_true, if_false]; exact hR)
      · rintro i x ρ M' hi ⟨rfl, hx, o3, rfl⟩
        have hxm := List.mem_of_getElem? hi
        simp? only [dExpr]
        refine ⟨o_is hC rfl, C, A, x, rfl, hC, ok, rfl, hw x hxm, fun hin => ⟨rfl, fun y hy => ?_, _, rfl⟩, fun hnin => ?_⟩
        · rw [List.take_add_one, hi, Option.toList_some] at hy
          rcases List.mem_append.mp hy with h | h
          · exact hx y h
          · rw [List.mem_singleton.mp h]; exact hin
        · have e : args.find? (fun x => decide (x ∉ A.mem)) = some x := by
            rw [List.find?_eq_some_iff_getElem]
            obtain ⟨hlt, hget⟩ := List.getElem?_eq_some_iff.mp hi
            refine ⟨by simpa using hnin, i, hlt, hget, fun j hj => ?_⟩
            have := hx args[j] (List.mem_iff_getElem?.mpr ⟨j, by rw [List.getElem?_take_of_lt hj]; exact List.getElem?_eq_getElem _⟩)
            simpa using this
          rw [e] at q
          exact ⟨M', cl, q⟩
      · rintro ρ M' ⟨rfl, hx, o3, rfl⟩
        rw [List.take_length] at hx
        refine hR _ _ ?_
        have e : args.find? (fun x => decide (x ∉ A.mem)) = none := by
          rw [List.find?_eq_none]; intro x hx2; simpa using hx x hx2
        rw [e] at q
        simp? only
        rw [o_tables hC]
        simp? only
        refine ⟨_, by rw [dfind_s, tabs_look ok hm], ?_⟩
        rw [hvw]
        have htup : ∀ R : D → Mp → Prop, R (.tup (sL args)) M' → oTupOf (sqD b (sL args)) M' R := fun R hR => by cases b <;> simpa [sqD, oTupOf] using hR
        refine htup _ ?_
        simp? only
        refine ⟨_, ?_, M', cl, q⟩
        rw [dfind_t, sL, dkeys_str]
        have e2 : args.map Sum.inr = ((args.map A.pl).map A.nm).map (Sum.inr : Cd → DK) := by
          rw [List.map_map, List.map_map]
          apply List.map_congr_left
          intro x hx2
          simp only [Function.comp, nm_pl (hx x hx2)]
        rw [Option.map_some, e2, tab_look ok hm (by rw [List.length_map]; exact hl)]
        intro y hy
        obtain ⟨x, hx2, rfl⟩ := List.mem_map.mp hy
        exact pl_lt (hx x hx2)
    · rw [if_pos (by simp; omega)]
      rw [if_neg hl] at q
      exact ⟨M, cl, q⟩
end
end EK


set_option Elab.async false
set_option linter.all false
set_option maxRecDepth 100000
set_option maxHeartbeats 400000
namespace EK
open PySem PySem.Spec PyProof.Rows L2 DL
section
variable {P : Program} {w : World} {K : PySem.W.Frag} {mg : Str → Option Value} {base : Heap}
/-! the source -/
theorem ok_pkO {f : Addr} {fd : FuncData} (m : Mg K mg) (Fd : FunT K "_law_pick" s__law_pick f fd) : FnOk P w K mg base (L2.CX P w) 1 f fd ["source", "many"] (lift K pkO) := by
  refine dfn Fd sc__law_pick (fun ds M Q E h => ?_) fun cdv A outer s H E Ed hr => ⟨_, (dss_cons (ds_if (dt_lt (vr 1) de_int) (dss_one (ds_ret de_int)) dss_nil) (dss_cons (sSet 2 sc__law_pick.nd (de_ix (Rm1 hr) (vr 0) (de_str [99, 101, 108, 108, 115] (by kernel_rfl)))) (dss_cons (ds_while (passes_of rfl) (DW.dt (dw_and (dt_lt (de_ix (Rm1 hr) (vr 0) (de_str [108, 101, 102, 116] (by kernel_rfl))) de_int) (dw_and1 (dt_gt (de_len rfl m.len (vr 2)) de_int)))) (dss_one (ds_asg (de_pop (vr 2)) (gSub (Rm1 hr) (vr 0) (de_str [108, 101, 102, 116] (by kernel_rfl)))))) (dss_cons (sSet 3 sc__law_pick.nd (de_ix (Rm1 hr) (vr 0) (de_str [108, 101, 102, 116] (by kernel_rfl)))) (dss_cons (ds_if (dt_gt (vr 3) de_int) (dss_cons (ds_asg (de_fdiv (vr 3) (vr 1)) (gSub (Rm1 hr) (vr 0) (de_str [108, 101, 102, 116] (by kernel_rfl)))) (dss_one (ds_ret (de_mod (de_int1 rfl m.int (vr 3)) (vr 1))))) dss_nil) (dss_cons (ds_asg (de_add (de_ix (Rm1 hr) (vr 0) (de_str [116, 117, 114, 110] (by kernel_rfl))) de_int) (gSub (Rm1 hr) (vr 0) (de_str [116, 117, 114, 110] (by kernel_rfl)))) (dss_cons (sSet 4 sc__law_pick.nd (de_ix (Rm1 hr) (vr 0) (de_str [116, 117, 114, 110] (by kernel_rfl)))) (dss_cons (sSet 5 sc__law_pick.nd (de_mod (de_int1 rfl m.int (de_add (de_ix (Rm1 hr) (vr 0) (de_str [109, 105, 120, 101, 100] (by kernel_rfl))) (de_mul (vr 4) de_int))) de_int)) (dss_cons (sSet 5 sc__law_pick.nd (de_mod (de_int1 rfl m.int (de_add (de_mul (vr 5) (vr 5)) (de_mul (vr 4) de_int))) de_int)) (dss_cons (ds_if (dt_gt (vr 1) (de_pow de_int de_int)) (dss_one (sSet 5 sc__law_pick.nd (de_pow (de_int1 rfl m.int (de_add (de_mul (vr 5) de_int) (vr 4))) de_int))) dss_nil) (dss_one (ds_ret (de_mod (de_int1 rfl m.int (de_fdiv (vr 5) de_int)) (vr 1)))))))))))))), fun ds M Q cl h => ?_⟩
  · obtain ⟨_, _, _, _, _, _, _, _, rfl, _⟩ := h; rfl
  · obtain ⟨M0, p, c, l, mx, t, ns, many, rfl, ne, rfl, hz, q⟩ := h
    simp only [dVar, dC, dOp, dTest, dTru, dAnd, dOr, dNot, dAndV, dOrV, dNotV, dIfE, dNil, dCons, dStar, dTup, dLst, dLstM, dFrz, dNeg, oEq, oNe, dNoO, dSoO, dSl, dNext, dSeq, dBreak, dCont, dExpr, dRet, dRetN, dIf, gNm, gNl, gCn, gTp, dAsg, dSet, dAug, dIter, dRng1, dRng2, dYes, dCallB, f1, dIsi, dJoinAt, dFmt, dJs, dJoined, dCall, dstart, rget, rset, dwipe, gSb, dApp, dPop, fMax2, fMin2, dNever, dPairs, dDispG, dDisp, dDispM, dNewK, dNewT, keyD, if_true, if_false, decide_eq_true_eq, Bool.false_eq_true, List.map_cons, List.map_nil, List.length_cons, List.length_nil, List.cons_append, List.nil_append, Nat.reduceAdd, Nat.reduceSub, List.reduceReplicate, e_vw_non, e_vw_bl, e_vw_int, e_vw_str, e_vw_scr, e_vw_lst, e_vw_tup, e_vw_dic, e_vw_dit, e_vw_obj, e_vw_ty, e_flat_non, e_isn_non, e_ty_non, e_flat_bl, e_isn_bl, e_ty_bl, e_flat_int, e_isn_int, e_ty_int, e_flat_str, e_isn_str, e_ty_str, e_flat_scr, e_isn_scr, e_ty_scr, e_flat_lst, e_isn_lst, e_ty_lst, e_flat_tup, e_isn_tup, e_ty_tup, e_flat_dic, e_isn_dic, e_ty_dic, e_flat_dit, e_isn_dit, e_flat_obj, e_isn_obj, e_flat_ty, e_isn_ty, e_add_ii, e_add_ss, e_add_ll, e_add_tt, e_iadd_ii, e_iadd_ss, e_sub_ii, e_mul_ii, e_mul_li, e_mul_si, e_fdiv_ii, e_mod_ii, e_pow_ii, e_deq_nn, e_deq_ii, e_deq_ss, e_deq_bb, e_deq_tt, e_deq_ll, e_deq_st, e_deq_ts, e_deql_n, e_deql_c, e_deql_nc, e_deql_cn, e_isN, e_ix_l, e_ix_t, e_ix_c, e_ix_s, e_ix_d, e_ix_dt, e_in_l, e_in_t, e_in_s, e_in_d, e_in_dt, e_sl_l, e_sl_s, e_len_lst, e_len_tup, e_len_s, e_len_c, e_len_d, e_int_i, e_abs_i, e_str_i, e_tup_l, e_tup_t, e_oLst0_l, e_oLst0_t, e_oLst0M_l, e_oLst0M_t, e_set_l, e_set_d, e_set_t, e_key_i, e_key_s, e_isT_non_bool, e_isT_non_int, e_isT_non_str, e_isT_non_list, e_isT_non_tuple, e_isT_non_dict, e_isT_bool_bool, e_isT_bool_int, e_isT_bool_str, e_isT_bool_list, e_isT_bool_tuple, e_isT_bool_dict, e_isT_int_bool, e_isT_int_int, e_isT_int_str, e_isT_int_list, e_isT_int_tuple, e_isT_int_dict, e_isT_str_bool, e_isT_str_int, e_isT_str_str, e_isT_str_list, e_isT_str_tuple, e_isT_str_dict, e_isT_list_bool, e_isT_list_int, e_isT_list_str, e_isT_list_list, e_isT_list_tuple, e_isT_list_dict, e_isT_tuple_bool, e_isT_tuple_int, e_isT_tuple_str, e_isT_tuple_list, e_isT_tuple_tuple, e_isT_tuple_dict, e_isT_dict_bool, e_isT_dict_int, e_isT_dict_str, e_isT_dict_list, e_isT_dict_tuple, e_isT_dict_dict, e_lt, e_le, e_gt, e_ge, vw_d opn_p]
    split
    · exact ⟨_, cl, q 0 l mx t ns (.inl rfl)⟩
    rename_i hm
    refine ⟨_, fd_cells, ?_⟩
    refine gen_nx (t := dWhile _ _) fun R hR => ?_
    refine ⟨fun k ρ M' => ∃ l1 ns1, k = List.length ns1 ∧ M' = opn M0 p c l1 mx t ns1 ∧ ρ = [some (.ref p), some (.int many), some (.ref c), none, none, none], ⟨_, l, ns, rfl, rfl, rfl⟩, ?_⟩
    rintro k ρ M' ⟨l1, ns1, rfl, rfl, rfl⟩
    simp only [dVar, dC, dOp, dTest, dTru, dAnd, dOr, dNot, dAndV, dOrV, dNotV, dIfE, dNil, dCons, dStar, dTup, dLst, dLstM, dFrz, dNeg, oEq, oNe, dNoO, dSoO, dSl, dNext, dSeq, dBreak, dCont, dExpr, dRet, dRetN, dIf, gNm, gNl, gCn, gTp, dAsg, dSet, dAug, dIter, dRng1, dRng2, dYes, dCallB, f1, dIsi, dJoinAt, dFmt, dJs, dJoined, dCall, dstart, rget, rset, dwipe, gSb, dApp, dPop, fMax2, fMin2, dNever, dPairs, dDispG, dDisp, dDispM, dNewK, dNewT, keyD, if_true, if_false, decide_eq_true_eq, Bool.false_eq_true, List.map_cons, List.map_nil, List.length_cons, List.length_nil, List.cons_append, List.nil_append, Nat.reduceAdd, Nat.reduceSub, List.reduceReplicate, e_vw_non, e_vw_bl, e_vw_int, e_vw_str, e_vw_scr, e_vw_lst, e_vw_tup, e_vw_dic, e_vw_dit, e_vw_obj, e_vw_ty, e_flat_non, e_isn_non, e_ty_non, e_flat_bl, e_isn_bl, e_ty_bl, e_flat_int, e_isn_int, e_ty_int, e_flat_str, e_isn_str, e_ty_str, e_flat_scr, e_isn_scr, e_ty_scr, e_flat_lst, e_isn_lst, e_ty_lst, e_flat_tup, e_isn_tup, e_ty_tup, e_flat_dic, e_isn_dic, e_ty_dic, e_flat_dit, e_isn_dit, e_flat_obj, e_isn_obj, e_flat_ty, e_isn_ty, e_add_ii, e_add_ss, e_add_ll, e_add_tt, e_iadd_ii, e_iadd_ss, e_sub_ii, e_mul_ii, e_mul_li, e_mul_si, e_fdiv_ii, e_mod_ii, e_pow_ii, e_deq_nn, e_deq_ii, e_deq_ss, e_deq_bb, e_deq_tt, e_deq_ll, e_deq_st, e_deq_ts, e_deql_n, e_deql_c, e_deql_nc, e_deql_cn, e_isN, e_ix_l, e_ix_t, e_ix_c, e_ix_s, e_ix_d, e_ix_dt, e_in_l, e_in_t, e_in_s, e_in_d, e_in_dt, e_sl_l, e_sl_s, e_len_lst, e_len_tup, e_len_s, e_len_c, e_len_d, e_int_i, e_abs_i, e_str_i, e_tup_l, e_tup_t, e_oLst0_l, e_oLst0_t, e_oLst0M_l, e_oLst0M_t, e_set_l, e_set_d, e_set_t, e_key_i, e_key_s, e_isT_non_bool, e_isT_non_int, e_isT_non_str, e_isT_non_list, e_isT_non_tuple, e_isT_non_dict, e_isT_bool_bool, e_isT_bool_int, e_isT_bool_str, e_isT_bool_list, e_isT_bool_tuple, e_isT_bool_dict, e_isT_int_bool, e_isT_int_int, e_isT_int_str, e_isT_int_list, e_isT_int_tuple, e_isT_int_dict, e_isT_str_bool, e_isT_str_int, e_isT_str_str, e_isT_str_list, e_isT_str_tuple, e_isT_str_dict, e_isT_list_bool, e_isT_list_int, e_isT_list_str, e_isT_list_list, e_isT_list_tuple, e_isT_list_dict, e_isT_tuple_bool, e_isT_tuple_int, e_isT_tuple_str, e_isT_tuple_list, e_isT_tuple_tuple, e_isT_tuple_dict, e_isT_dict_bool, e_isT_dict_int, e_isT_dict_str, e_isT_dict_list, e_isT_dict_tuple, e_isT_dict_dict, e_lt, e_le, e_gt, e_ge, vw_d opn_p, vw_l (opn_c ne)]
    refine ⟨_, fd_left, ?_⟩
    simp only [dVar, dC, dOp, dTest, dTru, dAnd, dOr, dNot, dAndV, dOrV, dNotV, dIfE, dNil, dCons, dStar, dTup, dLst, dLstM, dFrz, dNeg, oEq, oNe, dNoO, dSoO, dSl, dNext, dSeq, dBreak, dCont, dExpr, dRet, dRetN, dIf, gNm, gNl, gCn, gTp, dAsg, dSet, dAug, dIter, dRng1, dRng2, dYes, dCallB, f1, dIsi, dJoinAt, dFmt, dJs, dJoined, dCall, dstart, rget, rset, dwipe, gSb, dApp, dPop, fMax2, fMin2, dNever, dPairs, dDispG, dDisp, dDispM, dNewK, dNewT, keyD, if_true, if_false, decide_eq_true_eq, Bool.false_eq_true, List.map_cons, List.map_nil, List.length_cons, List.length_nil, List.cons_append, List.nil_append, Nat.reduceAdd, Nat.reduceSub, List.reduceReplicate, e_vw_non, e_vw_bl, e_vw_int, e_vw_str, e_vw_scr, e_vw_lst, e_vw_tup, e_vw_dic, e_vw_dit, e_vw_obj, e_vw_ty, e_flat_non, e_isn_non, e_ty_non, e_flat_bl, e_isn_bl, e_ty_bl, e_flat_int, e_isn_int, e_ty_int, e_flat_str, e_isn_str, e_ty_str, e_flat_scr, e_isn_scr, e_ty_scr, e_flat_lst, e_isn_lst, e_ty_lst, e_flat_tup, e_isn_tup, e_ty_tup, e_flat_dic, e_isn_dic, e_ty_dic, e_flat_dit, e_isn_dit, e_flat_obj, e_isn_obj, e_flat_ty, e_isn_ty, e_add_ii, e_add_ss, e_add_ll, e_add_tt, e_iadd_ii, e_iadd_ss, e_sub_ii, e_mul_ii, e_mul_li, e_mul_si, e_fdiv_ii, e_mod_ii, e_pow_ii, e_deq_nn, e_deq_ii, e_deq_ss, e_deq_bb, e_deq_tt, e_deq_ll, e_deq_st, e_deq_ts, e_deql_n, e_deql_c, e_deql_nc, e_deql_cn, e_isN, e_ix_l, e_ix_t, e_ix_c, e_ix_s, e_ix_d, e_ix_dt, e_in_l, e_in_t, e_in_s, e_in_d, e_in_dt, e_sl_l, e_sl_s, e_len_lst, e_len_tup, e_len_s, e_len_c, e_len_d, e_int_i, e_abs_i, e_str_i, e_tup_l, e_tup_t, e_oLst0_l, e_oLst0_t, e_oLst0M_l, e_oLst0M_t, e_set_l, e_set_d, e_set_t, e_key_i, e_key_s, e_isT_non_bool, e_isT_non_int, e_isT_non_str, e_isT_non_list, e_isT_non_tuple, e_isT_non_dict, e_isT_bool_bool, e_isT_bool_int, e_isT_bool_str, e_isT_bool_list, e_isT_bool_tuple, e_isT_bool_dict, e_isT_int_bool, e_isT_int_int, e_isT_int_str, e_isT_int_list, e_isT_int_tuple, e_isT_int_dict, e_isT_str_bool, e_isT_str_int, e_isT_str_str, e_isT_str_list, e_isT_str_tuple, e_isT_str_dict, e_isT_list_bool, e_isT_list_int, e_isT_list_str, e_isT_list_list, e_isT_list_tuple, e_isT_list_dict, e_isT_tuple_bool, e_isT_tuple_int, e_isT_tuple_str, e_isT_tuple_list, e_isT_tuple_tuple, e_isT_tuple_dict, e_isT_dict_bool, e_isT_dict_int, e_isT_dict_str, e_isT_dict_list, e_isT_dict_tuple, e_isT_dict_dict, e_lt, e_le, e_gt, e_ge, vw_d opn_p, vw_l (opn_c ne), List.length_map]
    have rest : ∀ l1 ns1, R [some (.ref p), some (.int many), some (.ref c), none, none, none] (opn M0 p c l1 mx t ns1) := by
      intro l1 ns1
      have md : ∀ x : Int, ∃ k : Nat, x % many = (k : Int) ∧ (k : Int) < many := fun x => ⟨(x % many).toNat, by
        have := Int.emod_nonneg x (b := many) (by omega); omega, by
        have := Int.emod_nonneg x (b := many) (by omega)
        have := Int.emod_lt_of_pos x (b := many) (by omega); omega⟩
      refine hR _ _ ?_
      simp only [dVar, dC, dOp, dTest, dTru, dAnd, dOr, dNot, dAndV, dOrV, dNotV, dIfE, dNil, dCons, dStar, dTup, dLst, dLstM, dFrz, dNeg, oEq, oNe, dNoO, dSoO, dSl, dNext, dSeq, dBreak, dCont, dExpr, dRet, dRetN, dIf, gNm, gNl, gCn, gTp, dAsg, dSet, dAug, dIter, dRng1, dRng2, dYes, dCallB, f1, dIsi, dJoinAt, dFmt, dJs, dJoined, dCall, dstart, rget, rset, dwipe, gSb, dApp, dPop, fMax2, fMin2, dNever, dPairs, dDispG, dDisp, dDispM, dNewK, dNewT, keyD, if_true, if_false, decide_eq_true_eq, Bool.false_eq_true, List.map_cons, List.map_nil, List.length_cons, List.length_nil, List.cons_append, List.nil_append, Nat.reduceAdd, Nat.reduceSub, List.reduceReplicate, e_vw_non, e_vw_bl, e_vw_int, e_vw_str, e_vw_scr, e_vw_lst, e_vw_tup, e_vw_dic, e_vw_dit, e_vw_obj, e_vw_ty, e_flat_non, e_isn_non, e_ty_non, e_flat_bl, e_isn_bl, e_ty_bl, e_flat_int, e_isn_int, e_ty_int, e_flat_str, e_isn_str, e_ty_str, e_flat_scr, e_isn_scr, e_ty_scr, e_flat_lst, e_isn_lst, e_ty_lst, e_flat_tup, e_isn_tup, e_ty_tup, e_flat_dic, e_isn_dic, e_ty_dic, e_flat_dit, e_isn_dit, e_flat_obj, e_isn_obj, e_flat_ty, e_isn_ty, e_add_ii, e_add_ss, e_add_ll, e_add_tt, e_iadd_ii, e_iadd_ss, e_sub_ii, e_mul_ii, e_mul_li, e_mul_si, e_fdiv_ii, e_mod_ii, e_pow_ii, e_deq_nn, e_deq_ii, e_deq_ss, e_deq_bb, e_deq_tt, e_deq_ll, e_deq_st, e_deq_ts, e_deql_n, e_deql_c, e_deql_nc, e_deql_cn, e_isN, e_ix_l, e_ix_t, e_ix_c, e_ix_s, e_ix_d, e_ix_dt, e_in_l, e_in_t, e_in_s, e_in_d, e_in_dt, e_sl_l, e_sl_s, e_len_lst, e_len_tup, e_len_s, e_len_c, e_len_d, e_int_i, e_abs_i, e_str_i, e_tup_l, e_tup_t, e_oLst0_l, e_oLst0_t, e_oLst0M_l, e_oLst0M_t, e_set_l, e_set_d, e_set_t, e_key_i, e_key_s, e_isT_non_bool, e_isT_non_int, e_isT_non_str, e_isT_non_list, e_isT_non_tuple, e_isT_non_dict, e_isT_bool_bool, e_isT_bool_int, e_isT_bool_str, e_isT_bool_list, e_isT_bool_tuple, e_isT_bool_dict, e_isT_int_bool, e_isT_int_int, e_isT_int_str, e_isT_int_list, e_isT_int_tuple, e_isT_int_dict, e_isT_str_bool, e_isT_str_int, e_isT_str_str, e_isT_str_list, e_isT_str_tuple, e_isT_str_dict, e_isT_list_bool, e_isT_list_int, e_isT_list_str, e_isT_list_list, e_isT_list_tuple, e_isT_list_dict, e_isT_tuple_bool, e_isT_tuple_int, e_isT_tuple_str, e_isT_tuple_list, e_isT_tuple_tuple, e_isT_tuple_dict, e_isT_dict_bool, e_isT_dict_int, e_isT_dict_str, e_isT_dict_list, e_isT_dict_tuple, e_isT_dict_dict, e_lt, e_le, e_gt, e_ge, vw_d opn_p]
      refine ⟨_, fd_left, ?_⟩
      simp only [dVar, dC, dOp, dTest, dTru, dAnd, dOr, dNot, dAndV, dOrV, dNotV, dIfE, dNil, dCons, dStar, dTup, dLst, dLstM, dFrz, dNeg, oEq, oNe, dNoO, dSoO, dSl, dNext, dSeq, dBreak, dCont, dExpr, dRet, dRetN, dIf, gNm, gNl, gCn, gTp, dAsg, dSet, dAug, dIter, dRng1, dRng2, dYes, dCallB, f1, dIsi, dJoinAt, dFmt, dJs, dJoined, dCall, dstart, rget, rset, dwipe, gSb, dApp, dPop, fMax2, fMin2, dNever, dPairs, dDispG, dDisp, dDispM, dNewK, dNewT, keyD, if_true, if_false, decide_eq_true_eq, Bool.false_eq_true, List.map_cons, List.map_nil, List.length_cons, List.length_nil, List.cons_append, List.nil_append, Nat.reduceAdd, Nat.reduceSub, List.reduceReplicate, e_vw_non, e_vw_bl, e_vw_int, e_vw_str, e_vw_scr, e_vw_lst, e_vw_tup, e_vw_dic, e_vw_dit, e_vw_obj, e_vw_ty, e_flat_non, e_isn_non, e_ty_non, e_flat_bl, e_isn_bl, e_ty_bl, e_flat_int, e_isn_int, e_ty_int, e_flat_str, e_isn_str, e_ty_str, e_flat_scr, e_isn_scr, e_ty_scr, e_flat_lst, e_isn_lst, e_ty_lst, e_flat_tup, e_isn_tup, e_ty_tup, e_flat_dic, e_isn_dic, e_ty_dic, e_flat_dit, e_isn_dit, e_flat_obj, e_isn_obj, e_flat_ty, e_isn_ty, e_add_ii, e_add_ss, e_add_ll, e_add_tt, e_iadd_ii, e_iadd_ss, e_sub_ii, e_mul_ii, e_mul_li, e_mul_si, e_fdiv_ii, e_mod_ii, e_pow_ii, e_deq_nn, e_deq_ii, e_deq_ss, e_deq_bb, e_deq_tt, e_deq_ll, e_deq_st, e_deq_ts, e_deql_n, e_deql_c, e_deql_nc, e_deql_cn, e_isN, e_ix_l, e_ix_t, e_ix_c, e_ix_s, e_ix_d, e_ix_dt, e_in_l, e_in_t, e_in_s, e_in_d, e_in_dt, e_sl_l, e_sl_s, e_len_lst, e_len_tup, e_len_s, e_len_c, e_len_d, e_int_i, e_abs_i, e_str_i, e_tup_l, e_tup_t, e_oLst0_l, e_oLst0_t, e_oLst0M_l, e_oLst0M_t, e_set_l, e_set_d, e_set_t, e_key_i, e_key_s, e_isT_non_bool, e_isT_non_int, e_isT_non_str, e_isT_non_list, e_isT_non_tuple, e_isT_non_dict, e_isT_bool_bool, e_isT_bool_int, e_isT_bool_str, e_isT_bool_list, e_isT_bool_tuple, e_isT_bool_dict, e_isT_int_bool, e_isT_int_int, e_isT_int_str, e_isT_int_list, e_isT_int_tuple, e_isT_int_dict, e_isT_str_bool, e_isT_str_int, e_isT_str_str, e_isT_str_list, e_isT_str_tuple, e_isT_str_dict, e_isT_list_bool, e_isT_list_int, e_isT_list_str, e_isT_list_list, e_isT_list_tuple, e_isT_list_dict, e_isT_tuple_bool, e_isT_tuple_int, e_isT_tuple_str, e_isT_tuple_list, e_isT_tuple_tuple, e_isT_tuple_dict, e_isT_dict_bool, e_isT_dict_int, e_isT_dict_str, e_isT_dict_list, e_isT_dict_tuple, e_isT_dict_dict, e_lt, e_le, e_gt, e_ge, vw_d opn_p]
      split
      · refine ⟨⟨by omega, by omega⟩, ?_⟩
        refine ⟨p, _, rfl, opn_p, ?_⟩
        simp only [dVar, dC, dOp, dTest, dTru, dAnd, dOr, dNot, dAndV, dOrV, dNotV, dIfE, dNil, dCons, dStar, dTup, dLst, dLstM, dFrz, dNeg, oEq, oNe, dNoO, dSoO, dSl, dNext, dSeq, dBreak, dCont, dExpr, dRet, dRetN, dIf, gNm, gNl, gCn, gTp, dAsg, dSet, dAug, dIter, dRng1, dRng2, dYes, dCallB, f1, dIsi, dJoinAt, dFmt, dJs, dJoined, dCall, dstart, rget, rset, dwipe, gSb, dApp, dPop, fMax2, fMin2, dNever, dPairs, dDispG, dDisp, dDispM, dNewK, dNewT, keyD, if_true, if_false, decide_eq_true_eq, Bool.false_eq_true, List.map_cons, List.map_nil, List.length_cons, List.length_nil, List.cons_append, List.nil_append, Nat.reduceAdd, Nat.reduceSub, List.reduceReplicate, e_vw_non, e_vw_bl, e_vw_int, e_vw_str, e_vw_scr, e_vw_lst, e_vw_tup, e_vw_dic, e_vw_dit, e_vw_obj, e_vw_ty, e_flat_non, e_isn_non, e_ty_non, e_flat_bl, e_isn_bl, e_ty_bl, e_flat_int, e_isn_int, e_ty_int, e_flat_str, e_isn_str, e_ty_str, e_flat_scr, e_isn_scr, e_ty_scr, e_flat_lst, e_isn_lst, e_ty_lst, e_flat_tup, e_isn_tup, e_ty_tup, e_flat_dic, e_isn_dic, e_ty_dic, e_flat_dit, e_isn_dit, e_flat_obj, e_isn_obj, e_flat_ty, e_isn_ty, e_add_ii, e_add_ss, e_add_ll, e_add_tt, e_iadd_ii, e_iadd_ss, e_sub_ii, e_mul_ii, e_mul_li, e_mul_si, e_fdiv_ii, e_mod_ii, e_pow_ii, e_deq_nn, e_deq_ii, e_deq_ss, e_deq_bb, e_deq_tt, e_deq_ll, e_deq_st, e_deq_ts, e_deql_n, e_deql_c, e_deql_nc, e_deql_cn, e_isN, e_ix_l, e_ix_t, e_ix_c, e_ix_s, e_ix_d, e_ix_dt, e_in_l, e_in_t, e_in_s, e_in_d, e_in_dt, e_sl_l, e_sl_s, e_len_lst, e_len_tup, e_len_s, e_len_c, e_len_d, e_int_i, e_abs_i, e_str_i, e_tup_l, e_tup_t, e_oLst0_l, e_oLst0_t, e_oLst0M_l, e_oLst0M_t, e_set_l, e_set_d, e_set_t, e_key_i, e_key_s, e_isT_non_bool, e_isT_non_int, e_isT_non_str, e_isT_non_list, e_isT_non_tuple, e_isT_non_dict, e_isT_bool_bool, e_isT_bool_int, e_isT_bool_str, e_isT_bool_list, e_isT_bool_tuple, e_isT_bool_dict, e_isT_int_bool, e_isT_int_int, e_isT_int_str, e_isT_int_list, e_isT_int_tuple, e_isT_int_dict, e_isT_str_bool, e_isT_str_int, e_isT_str_str, e_isT_str_list, e_isT_str_tuple, e_isT_str_dict, e_isT_list_bool, e_isT_list_int, e_isT_list_str, e_isT_list_list, e_isT_list_tuple, e_isT_list_dict, e_isT_tuple_bool, e_isT_tuple_int, e_isT_tuple_str, e_isT_tuple_list, e_isT_tuple_tuple, e_isT_tuple_dict, e_isT_dict_bool, e_isT_dict_int, e_isT_dict_str, e_isT_dict_list, e_isT_dict_tuple, e_isT_dict_dict, e_lt, e_le, e_gt, e_ge]
        refine ⟨_, rfl, srcL_len, ?_⟩
        simp only [pu_left, opn_p_set]
        refine ⟨by omega, ?_⟩
        obtain ⟨k, e, hk⟩ := md l1
        rw [e]
        exact ⟨_, opn_cl cl, q k _ _ _ _ (.inr hk)⟩
      · refine ⟨_, fd_turn, p, _, rfl, opn_p, ?_⟩
        simp only [dVar, dC, dOp, dTest, dTru, dAnd, dOr, dNot, dAndV, dOrV, dNotV, dIfE, dNil, dCons, dStar, dTup, dLst, dLstM, dFrz, dNeg, oEq, oNe, dNoO, dSoO, dSl, dNext, dSeq, dBreak, dCont, dExpr, dRet, dRetN, dIf, gNm, gNl, gCn, gTp, dAsg, dSet, dAug, dIter, dRng1, dRng2, dYes, dCallB, f1, dIsi, dJoinAt, dFmt, dJs, dJoined, dCall, dstart, rget, rset, dwipe, gSb, dApp, dPop, fMax2, fMin2, dNever, dPairs, dDispG, dDisp, dDispM, dNewK, dNewT, keyD, if_true, if_false, decide_eq_true_eq, Bool.false_eq_true, List.map_cons, List.map_nil, List.length_cons, List.length_nil, List.cons_append, List.nil_append, Nat.reduceAdd, Nat.reduceSub, List.reduceReplicate, e_vw_non, e_vw_bl, e_vw_int, e_vw_str, e_vw_scr, e_vw_lst, e_vw_tup, e_vw_dic, e_vw_dit, e_vw_obj, e_vw_ty, e_flat_non, e_isn_non, e_ty_non, e_flat_bl, e_isn_bl, e_ty_bl, e_flat_int, e_isn_int, e_ty_int, e_flat_str, e_isn_str, e_ty_str, e_flat_scr, e_isn_scr, e_ty_scr, e_flat_lst, e_isn_lst, e_ty_lst, e_flat_tup, e_isn_tup, e_ty_tup, e_flat_dic, e_isn_dic, e_ty_dic, e_flat_dit, e_isn_dit, e_flat_obj, e_isn_obj, e_flat_ty, e_isn_ty, e_add_ii, e_add_ss, e_add_ll, e_add_tt, e_iadd_ii, e_iadd_ss, e_sub_ii, e_mul_ii, e_mul_li, e_mul_si, e_fdiv_ii, e_mod_ii, e_pow_ii, e_deq_nn, e_deq_ii, e_deq_ss, e_deq_bb, e_deq_tt, e_deq_ll, e_deq_st, e_deq_ts, e_deql_n, e_deql_c, e_deql_nc, e_deql_cn, e_isN, e_ix_l, e_ix_t, e_ix_c, e_ix_s, e_ix_d, e_ix_dt, e_in_l, e_in_t, e_in_s, e_in_d, e_in_dt, e_sl_l, e_sl_s, e_len_lst, e_len_tup, e_len_s, e_len_c, e_len_d, e_int_i, e_abs_i, e_str_i, e_tup_l, e_tup_t, e_oLst0_l, e_oLst0_t, e_oLst0M_l, e_oLst0M_t, e_set_l, e_set_d, e_set_t, e_key_i, e_key_s, e_isT_non_bool, e_isT_non_int, e_isT_non_str, e_isT_non_list, e_isT_non_tuple, e_isT_non_dict, e_isT_bool_bool, e_isT_bool_int, e_isT_bool_str, e_isT_bool_list, e_isT_bool_tuple, e_isT_bool_dict, e_isT_int_bool, e_isT_int_int, e_isT_int_str, e_isT_int_list, e_isT_int_tuple, e_isT_int_dict, e_isT_str_bool, e_isT_str_int, e_isT_str_str, e_isT_str_list, e_isT_str_tuple, e_isT_str_dict, e_isT_list_bool, e_isT_list_int, e_isT_list_str, e_isT_list_list, e_isT_list_tuple, e_isT_list_dict, e_isT_tuple_bool, e_isT_tuple_int, e_isT_tuple_str, e_isT_tuple_list, e_isT_tuple_tuple, e_isT_tuple_dict, e_isT_dict_bool, e_isT_dict_int, e_isT_dict_str, e_isT_dict_list, e_isT_dict_tuple, e_isT_dict_dict, e_lt, e_le, e_gt, e_ge]
        refine ⟨_, rfl, srcL_len, ?_⟩
        simp only [pu_turn, opn_p_set, vw_d opn_p, dVar, dC, dOp, dTest, dTru, dAnd, dOr, dNot, dAndV, dOrV, dNotV, dIfE, dNil, dCons, dStar, dTup, dLst, dLstM, dFrz, dNeg, oEq, oNe, dNoO, dSoO, dSl, dNext, dSeq, dBreak, dCont, dExpr, dRet, dRetN, dIf, gNm, gNl, gCn, gTp, dAsg, dSet, dAug, dIter, dRng1, dRng2, dYes, dCallB, f1, dIsi, dJoinAt, dFmt, dJs, dJoined, dCall, dstart, rget, rset, dwipe, gSb, dApp, dPop, fMax2, fMin2, dNever, dPairs, dDispG, dDisp, dDispM, dNewK, dNewT, keyD, if_true, if_false, decide_eq_true_eq, Bool.false_eq_true, List.map_cons, List.map_nil, List.length_cons, List.length_nil, List.cons_append, List.nil_append, Nat.reduceAdd, Nat.reduceSub, List.reduceReplicate, e_vw_non, e_vw_bl, e_vw_int, e_vw_str, e_vw_scr, e_vw_lst, e_vw_tup, e_vw_dic, e_vw_dit, e_vw_obj, e_vw_ty, e_flat_non, e_isn_non, e_ty_non, e_flat_bl, e_isn_bl, e_ty_bl, e_flat_int, e_isn_int, e_ty_int, e_flat_str, e_isn_str, e_ty_str, e_flat_scr, e_isn_scr, e_ty_scr, e_flat_lst, e_isn_lst, e_ty_lst, e_flat_tup, e_isn_tup, e_ty_tup, e_flat_dic, e_isn_dic, e_ty_dic, e_flat_dit, e_isn_dit, e_flat_obj, e_isn_obj, e_flat_ty, e_isn_ty, e_add_ii, e_add_ss, e_add_ll, e_add_tt, e_iadd_ii, e_iadd_ss, e_sub_ii, e_mul_ii, e_mul_li, e_mul_si, e_fdiv_ii, e_mod_ii, e_pow_ii, e_deq_nn, e_deq_ii, e_deq_ss, e_deq_bb, e_deq_tt, e_deq_ll, e_deq_st, e_deq_ts, e_deql_n, e_deql_c, e_deql_nc, e_deql_cn, e_isN, e_ix_l, e_ix_t, e_ix_c, e_ix_s, e_ix_d, e_ix_dt, e_in_l, e_in_t, e_in_s, e_in_d, e_in_dt, e_sl_l, e_sl_s, e_len_lst, e_len_tup, e_len_s, e_len_c, e_len_d, e_int_i, e_abs_i, e_str_i, e_tup_l, e_tup_t, e_oLst0_l, e_oLst0_t, e_oLst0M_l, e_oLst0M_t, e_set_l, e_set_d, e_set_t, e_key_i, e_key_s, e_isT_non_bool, e_isT_non_int, e_isT_non_str, e_isT_non_list, e_isT_non_tuple, e_isT_non_dict, e_isT_bool_bool, e_isT_bool_int, e_isT_bool_str, e_isT_bool_list, e_isT_bool_tuple, e_isT_bool_dict, e_isT_int_bool, e_isT_int_int, e_isT_int_str, e_isT_int_list, e_isT_int_tuple, e_isT_int_dict, e_isT_str_bool, e_isT_str_int, e_isT_str_str, e_isT_str_list, e_isT_str_tuple, e_isT_str_dict, e_isT_list_bool, e_isT_list_int, e_isT_list_str, e_isT_list_list, e_isT_list_tuple, e_isT_list_dict, e_isT_tuple_bool, e_isT_tuple_int, e_isT_tuple_str, e_isT_tuple_list, e_isT_tuple_tuple, e_isT_tuple_dict, e_isT_dict_bool, e_isT_dict_int, e_isT_dict_str, e_isT_dict_list, e_isT_dict_tuple, e_isT_dict_dict, e_lt, e_le, e_gt, e_ge]
        refine ⟨_, fd_turn, ?_⟩
        simp only [dVar, dC, dOp, dTest, dTru, dAnd, dOr, dNot, dAndV, dOrV, dNotV, dIfE, dNil, dCons, dStar, dTup, dLst, dLstM, dFrz, dNeg, oEq, oNe, dNoO, dSoO, dSl, dNext, dSeq, dBreak, dCont, dExpr, dRet, dRetN, dIf, gNm, gNl, gCn, gTp, dAsg, dSet, dAug, dIter, dRng1, dRng2, dYes, dCallB, f1, dIsi, dJoinAt, dFmt, dJs, dJoined, dCall, dstart, rget, rset, dwipe, gSb, dApp, dPop, fMax2, fMin2, dNever, dPairs, dDispG, dDisp, dDispM, dNewK, dNewT, keyD, if_true, if_false, decide_eq_true_eq, Bool.false_eq_true, List.map_cons, List.map_nil, List.length_cons, List.length_nil, List.cons_append, List.nil_append, Nat.reduceAdd, Nat.reduceSub, List.reduceReplicate, e_vw_non, e_vw_bl, e_vw_int, e_vw_str, e_vw_scr, e_vw_lst, e_vw_tup, e_vw_dic, e_vw_dit, e_vw_obj, e_vw_ty, e_flat_non, e_isn_non, e_ty_non, e_flat_bl, e_isn_bl, e_ty_bl, e_flat_int, e_isn_int, e_ty_int, e_flat_str, e_isn_str, e_ty_str, e_flat_scr, e_isn_scr, e_ty_scr, e_flat_lst, e_isn_lst, e_ty_lst, e_flat_tup, e_isn_tup, e_ty_tup, e_flat_dic, e_isn_dic, e_ty_dic, e_flat_dit, e_isn_dit, e_flat_obj, e_isn_obj, e_flat_ty, e_isn_ty, e_add_ii, e_add_ss, e_add_ll, e_add_tt, e_iadd_ii, e_iadd_ss, e_sub_ii, e_mul_ii, e_mul_li, e_mul_si, e_fdiv_ii, e_mod_ii, e_pow_ii, e_deq_nn, e_deq_ii, e_deq_ss, e_deq_bb, e_deq_tt, e_deq_ll, e_deq_st, e_deq_ts, e_deql_n, e_deql_c, e_deql_nc, e_deql_cn, e_isN, e_ix_l, e_ix_t, e_ix_c, e_ix_s, e_ix_d, e_ix_dt, e_in_l, e_in_t, e_in_s, e_in_d, e_in_dt, e_sl_l, e_sl_s, e_len_lst, e_len_tup, e_len_s, e_len_c, e_len_d, e_int_i, e_abs_i, e_str_i, e_tup_l, e_tup_t, e_oLst0_l, e_oLst0_t, e_oLst0M_l, e_oLst0M_t, e_set_l, e_set_d, e_set_t, e_key_i, e_key_s, e_isT_non_bool, e_isT_non_int, e_isT_non_str, e_isT_non_list, e_isT_non_tuple, e_isT_non_dict, e_isT_bool_bool, e_isT_bool_int, e_isT_bool_str, e_isT_bool_list, e_isT_bool_tuple, e_isT_bool_dict, e_isT_int_bool, e_isT_int_int, e_isT_int_str, e_isT_int_list, e_isT_int_tuple, e_isT_int_dict, e_isT_str_bool, e_isT_str_int, e_isT_str_str, e_isT_str_list, e_isT_str_tuple, e_isT_str_dict, e_isT_list_bool, e_isT_list_int, e_isT_list_str, e_isT_list_list, e_isT_list_tuple, e_isT_list_dict, e_isT_tuple_bool, e_isT_tuple_int, e_isT_tuple_str, e_isT_tuple_list, e_isT_tuple_tuple, e_isT_tuple_dict, e_isT_dict_bool, e_isT_dict_int, e_isT_dict_str, e_isT_dict_list, e_isT_dict_tuple, e_isT_dict_dict, e_lt, e_le, e_gt, e_ge, vw_d opn_p]
        refine ⟨_, fd_mixed, .inr (by decide), ?_⟩
        simp only [dVar, dC, dOp, dTest, dTru, dAnd, dOr, dNot, dAndV, dOrV, dNotV, dIfE, dNil, dCons, dStar, dTup, dLst, dLstM, dFrz, dNeg, oEq, oNe, dNoO, dSoO, dSl, dNext, dSeq, dBreak, dCont, dExpr, dRet, dRetN, dIf, gNm, gNl, gCn, gTp, dAsg, dSet, dAug, dIter, dRng1, dRng2, dYes, dCallB, f1, dIsi, dJoinAt, dFmt, dJs, dJoined, dCall, dstart, rget, rset, dwipe, gSb, dApp, dPop, fMax2, fMin2, dNever, dPairs, dDispG, dDisp, dDispM, dNewK, dNewT, keyD, if_true, if_false, decide_eq_true_eq, Bool.false_eq_true, List.map_cons, List.map_nil, List.length_cons, List.length_nil, List.cons_append, List.nil_append, Nat.reduceAdd, Nat.reduceSub, List.reduceReplicate, e_vw_non, e_vw_bl, e_vw_int, e_vw_str, e_vw_scr, e_vw_lst, e_vw_tup, e_vw_dic, e_vw_dit, e_vw_obj, e_vw_ty, e_flat_non, e_isn_non, e_ty_non, e_flat_bl, e_isn_bl, e_ty_bl, e_flat_int, e_isn_int, e_ty_int, e_flat_str, e_isn_str, e_ty_str, e_flat_scr, e_isn_scr, e_ty_scr, e_flat_lst, e_isn_lst, e_ty_lst, e_flat_tup, e_isn_tup, e_ty_tup, e_flat_dic, e_isn_dic, e_ty_dic, e_flat_dit, e_isn_dit, e_flat_obj, e_isn_obj, e_flat_ty, e_isn_ty, e_add_ii, e_add_ss, e_add_ll, e_add_tt, e_iadd_ii, e_iadd_ss, e_sub_ii, e_mul_ii, e_mul_li, e_mul_si, e_fdiv_ii, e_mod_ii, e_pow_ii, e_deq_nn, e_deq_ii, e_deq_ss, e_deq_bb, e_deq_tt, e_deq_ll, e_deq_st, e_deq_ts, e_deql_n, e_deql_c, e_deql_nc, e_deql_cn, e_isN, e_ix_l, e_ix_t, e_ix_c, e_ix_s, e_ix_d, e_ix_dt, e_in_l, e_in_t, e_in_s, e_in_d, e_in_dt, e_sl_l, e_sl_s, e_len_lst, e_len_tup, e_len_s, e_len_c, e_len_d, e_int_i, e_abs_i, e_str_i, e_tup_l, e_tup_t, e_oLst0_l, e_oLst0_t, e_oLst0M_l, e_oLst0M_t, e_set_l, e_set_d, e_set_t, e_key_i, e_key_s, e_isT_non_bool, e_isT_non_int, e_isT_non_str, e_isT_non_list, e_isT_non_tuple, e_isT_non_dict, e_isT_bool_bool, e_isT_bool_int, e_isT_bool_str, e_isT_bool_list, e_isT_bool_tuple, e_isT_bool_dict, e_isT_int_bool, e_isT_int_int, e_isT_int_str, e_isT_int_list, e_isT_int_tuple, e_isT_int_dict, e_isT_str_bool, e_isT_str_int, e_isT_str_str, e_isT_str_list, e_isT_str_tuple, e_isT_str_dict, e_isT_list_bool, e_isT_list_int, e_isT_list_str, e_isT_list_list, e_isT_list_tuple, e_isT_list_dict, e_isT_tuple_bool, e_isT_tuple_int, e_isT_tuple_str, e_isT_tuple_list, e_isT_tuple_tuple, e_isT_tuple_dict, e_isT_dict_bool, e_isT_dict_int, e_isT_dict_str, e_isT_dict_list, e_isT_dict_tuple, e_isT_dict_dict, e_lt, e_le, e_gt, e_ge]
        refine ⟨by decide, ?_⟩
        refine ⟨.inl ?_, .inr (by decide), by decide, ⟨by decide, by decide, by decide⟩, ?_⟩
        · generalize (mx + (t + 1) * 104729) = z
          have h1 := Int.emod_nonneg z (b := 998244353) (by omega)
          have h2 := Int.emod_lt_of_pos z (b := 998244353) (by omega)
          omega
        rw [if_neg (by show ¬ (10 : Int) ^ 7 < many; omega)]
        refine ⟨⟨by decide, by decide⟩, by omega, ?_⟩
        generalize ((mx + (t + 1) * 104729) % 998244353 * ((mx + (t + 1) * 104729) % 998244353) + (t + 1) * 17) % 2147483647 / 16 = z
        obtain ⟨k, e, hk⟩ := md z
        rw [e]
        exact ⟨_, opn_cl cl, q k _ _ _ _ (.inr hk)⟩
    split
    · split
      · rename_i h0
        have : ∃ ns2 y, ns1 = ns2 ++ [y] := ⟨ns1.dropLast, ns1.getLast (by intro z; subst z; simp at h0), (List.dropLast_concat_getLast _).symm⟩
        obtain ⟨ns2, y, rfl⟩ := this
        refine ⟨c, ns2.map .int, .int y, rfl, by rw [opn_c ne]; simp, ?_⟩
        rw [opn_c_set ne]
        refine ⟨p, _, rfl, opn_p, ?_⟩
        simp only [dVar, dC, dOp, dTest, dTru, dAnd, dOr, dNot, dAndV, dOrV, dNotV, dIfE, dNil, dCons, dStar, dTup, dLst, dLstM, dFrz, dNeg, oEq, oNe, dNoO, dSoO, dSl, dNext, dSeq, dBreak, dCont, dExpr, dRet, dRetN, dIf, gNm, gNl, gCn, gTp, dAsg, dSet, dAug, dIter, dRng1, dRng2, dYes, dCallB, f1, dIsi, dJoinAt, dFmt, dJs, dJoined, dCall, dstart, rget, rset, dwipe, gSb, dApp, dPop, fMax2, fMin2, dNever, dPairs, dDispG, dDisp, dDispM, dNewK, dNewT, keyD, if_true, if_false, decide_eq_true_eq, Bool.false_eq_true, List.map_cons, List.map_nil, List.length_cons, List.length_nil, List.cons_append, List.nil_append, Nat.reduceAdd, Nat.reduceSub, List.reduceReplicate, e_vw_non, e_vw_bl, e_vw_int, e_vw_str, e_vw_scr, e_vw_lst, e_vw_tup, e_vw_dic, e_vw_dit, e_vw_obj, e_vw_ty, e_flat_non, e_isn_non, e_ty_non, e_flat_bl, e_isn_bl, e_ty_bl, e_flat_int, e_isn_int, e_ty_int, e_flat_str, e_isn_str, e_ty_str, e_flat_scr, e_isn_scr, e_ty_scr, e_flat_lst, e_isn_lst, e_ty_lst, e_flat_tup, e_isn_tup, e_ty_tup, e_flat_dic, e_isn_dic, e_ty_dic, e_flat_dit, e_isn_dit, e_flat_obj, e_isn_obj, e_flat_ty, e_isn_ty, e_add_ii, e_add_ss, e_add_ll, e_add_tt, e_iadd_ii, e_iadd_ss, e_sub_ii, e_mul_ii, e_mul_li, e_mul_si, e_fdiv_ii, e_mod_ii, e_pow_ii, e_deq_nn, e_deq_ii, e_deq_ss, e_deq_bb, e_deq_tt, e_deq_ll, e_deq_st, e_deq_ts, e_deql_n, e_deql_c, e_deql_nc, e_deql_cn, e_isN, e_ix_l, e_ix_t, e_ix_c, e_ix_s, e_ix_d, e_ix_dt, e_in_l, e_in_t, e_in_s, e_in_d, e_in_dt, e_sl_l, e_sl_s, e_len_lst, e_len_tup, e_len_s, e_len_c, e_len_d, e_int_i, e_abs_i, e_str_i, e_tup_l, e_tup_t, e_oLst0_l, e_oLst0_t, e_oLst0M_l, e_oLst0M_t, e_set_l, e_set_d, e_set_t, e_key_i, e_key_s, e_isT_non_bool, e_isT_non_int, e_isT_non_str, e_isT_non_list, e_isT_non_tuple, e_isT_non_dict, e_isT_bool_bool, e_isT_bool_int, e_isT_bool_str, e_isT_bool_list, e_isT_bool_tuple, e_isT_bool_dict, e_isT_int_bool, e_isT_int_int, e_isT_int_str, e_isT_int_list, e_isT_int_tuple, e_isT_int_dict, e_isT_str_bool, e_isT_str_int, e_isT_str_str, e_isT_str_list, e_isT_str_tuple, e_isT_str_dict, e_isT_list_bool, e_isT_list_int, e_isT_list_str, e_isT_list_list, e_isT_list_tuple, e_isT_list_dict, e_isT_tuple_bool, e_isT_tuple_int, e_isT_tuple_str, e_isT_tuple_list, e_isT_tuple_tuple, e_isT_tuple_dict, e_isT_dict_bool, e_isT_dict_int, e_isT_dict_str, e_isT_dict_list, e_isT_dict_tuple, e_isT_dict_dict, e_lt, e_le, e_gt, e_ge]
        refine ⟨_, rfl, srcL_len, ?_⟩
        simp only [pu_left, opn_p_set]
        exact ⟨ns2.length, by simp, y, ns2, rfl, rfl, by trivial⟩
      · exact rest l1 ns1
    · exact rest l1 ns1
theorem ok_srO {f : Addr} {fd : FuncData} (m : Mg K mg) (Fd : FunT K "_law_source" s__law_source f fd) : FnOk P w K mg base (L2.CX P w) 1 f fd ["script"] (lift K srO) := by
  refine dfn Fd sc__law_source (fun ds M Q E h => ?_) fun cdv A outer s H E Ed hr => ⟨_, (dss_cons (sSet 1 sc__law_source.nd de_int) (dss_cons (dFor1 (passes_of rfl) (di_seq (vr 0)) (gN 2 sc__law_source.nd) (dss_one (sSet 1 sc__law_source.nd (de_mod (de_int1 rfl m.int (de_add (de_add (de_mul (vr 1) de_int) (de_mul (vr 2) de_int)) de_int)) de_int)))) (dss_cons (sSet 3 sc__law_source.nd (de_lc rfl sc__law_source.nd (di_seq (vr 0)) (blkOk_by (own := [("cell", 2)]) (N := ["script", "mixed", "cell", "cells", "k"]) (sc := defScope s__law_source) (by decide +kernel)) (fun _ _ _ _ _ => (gN 2 sc__law_source.nd)) (fun _ _ _ _ _ => dts_nil) (fun _ _ _ _ _ => (de_abs rfl m.abs (vr 2))) (by decide))) (dss_one (ds_ret (de_dispM (.cons (de_str [99, 101, 108, 108, 115] (by kernel_rfl)) (de_lcM rfl sc__law_source.nd (di_range1 rfl m.range (de_len rfl m.len (vr 3))) (blkOk_by (own := [("k", 4)]) (N := ["script", "mixed", "cell", "cells", "k"]) (sc := defScope s__law_source) (by decide +kernel)) (fun _ _ _ _ _ => (gN 4 sc__law_source.nd)) (fun _ _ _ _ _ => dts_nil) (fun _ _ _ _ _ => (de_ix (Rm1 hr) (vr 3) (de_sub (de_sub (de_len rfl m.len (vr 3)) de_int) (vr 4)))) (by decide)) (.cons (de_str [108, 101, 102, 116] (by kernel_rfl)) de_int (.cons (de_str [109, 105, 120, 101, 100] (by kernel_rfl)) (vr 1) (.cons (de_str [116, 117, 114, 110] (by kernel_rfl)) de_int .nil)))))))))), fun ds M Q cl h => ?_⟩
  · obtain ⟨_, rfl, _⟩ := h; rfl
  · obtain ⟨ns, rfl, hz, q⟩ := h
    simp only [dVar, dC, dOp, dTest, dTru, dAnd, dOr, dNot, dAndV, dOrV, dNotV, dIfE, dNil, dCons, dStar, dTup, dLst, dLstM, dFrz, dNeg, oEq, oNe, dNoO, dSoO, dSl, dNext, dSeq, dBreak, dCont, dExpr, dRet, dRetN, dIf, gNm, gNl, gCn, gTp, dAsg, dSet, dAug, dIter, dRng1, dRng2, dYes, dCallB, f1, dIsi, dJoinAt, dFmt, dJs, dJoined, dCall, dstart, rget, rset, dwipe, gSb, dApp, dPop, fMax2, fMin2, dNever, dPairs, dDispG, dDisp, dDispM, dNewK, dNewT, keyD, if_true, if_false, decide_eq_true_eq, Bool.false_eq_true, List.map_cons, List.map_nil, List.length_cons, List.length_nil, List.cons_append, List.nil_append, Nat.reduceAdd, Nat.reduceSub, List.reduceReplicate, e_vw_non, e_vw_bl, e_vw_int, e_vw_str, e_vw_scr, e_vw_lst, e_vw_tup, e_vw_dic, e_vw_dit, e_vw_obj, e_vw_ty, e_flat_non, e_isn_non, e_ty_non, e_flat_bl, e_isn_bl, e_ty_bl, e_flat_int, e_isn_int, e_ty_int, e_flat_str, e_isn_str, e_ty_str, e_flat_scr, e_isn_scr, e_ty_scr, e_flat_lst, e_isn_lst, e_ty_lst, e_flat_tup, e_isn_tup, e_ty_tup, e_flat_dic, e_isn_dic, e_ty_dic, e_flat_dit, e_isn_dit, e_flat_obj, e_isn_obj, e_flat_ty, e_isn_ty, e_add_ii, e_add_ss, e_add_ll, e_add_tt, e_iadd_ii, e_iadd_ss, e_sub_ii, e_mul_ii, e_mul_li, e_mul_si, e_fdiv_ii, e_mod_ii, e_pow_ii, e_deq_nn, e_deq_ii, e_deq_ss, e_deq_bb, e_deq_tt, e_deq_ll, e_deq_st, e_deq_ts, e_deql_n, e_deql_c, e_deql_nc, e_deql_cn, e_isN, e_ix_l, e_ix_t, e_ix_c, e_ix_s, e_ix_d, e_ix_dt, e_in_l, e_in_t, e_in_s, e_in_d, e_in_dt, e_sl_l, e_sl_s, e_len_lst, e_len_tup, e_len_s, e_len_c, e_len_d, e_int_i, e_abs_i, e_str_i, e_tup_l, e_tup_t, e_oLst0_l, e_oLst0_t, e_oLst0M_l, e_oLst0M_t, e_set_l, e_set_d, e_set_t, e_key_i, e_key_s, e_isT_non_bool, e_isT_non_int, e_isT_non_str, e_isT_non_list, e_isT_non_tuple, e_isT_non_dict, e_isT_bool_bool, e_isT_bool_int, e_isT_bool_str, e_isT_bool_list, e_isT_bool_tuple, e_isT_bool_dict, e_isT_int_bool, e_isT_int_int, e_isT_int_str, e_isT_int_list, e_isT_int_tuple, e_isT_int_dict, e_isT_str_bool, e_isT_str_int, e_isT_str_str, e_isT_str_list, e_isT_str_tuple, e_isT_str_dict, e_isT_list_bool, e_isT_list_int, e_isT_list_str, e_isT_list_list, e_isT_list_tuple, e_isT_list_dict, e_isT_tuple_bool, e_isT_tuple_int, e_isT_tuple_str, e_isT_tuple_list, e_isT_tuple_tuple, e_isT_tuple_dict, e_isT_dict_bool, e_isT_dict_int, e_isT_dict_str, e_isT_dict_list, e_isT_dict_tuple, e_isT_dict_dict, e_lt, e_le, e_gt, e_ge]
    refine gen_nx (t := dFor _ _ _) fun R hR => ?_
    simp only [dFor, dVar, dC, dOp, dTest, dTru, dAnd, dOr, dNot, dAndV, dOrV, dNotV, dIfE, dNil, dCons, dStar, dTup, dLst, dLstM, dFrz, dNeg, oEq, oNe, dNoO, dSoO, dSl, dNext, dSeq, dBreak, dCont, dExpr, dRet, dRetN, dIf, gNm, gNl, gCn, gTp, dAsg, dSet, dAug, dIter, dRng1, dRng2, dYes, dCallB, f1, dIsi, dJoinAt, dFmt, dJs, dJoined, dCall, dstart, rget, rset, dwipe, gSb, dApp, dPop, fMax2, fMin2, dNever, dPairs, dDispG, dDisp, dDispM, dNewK, dNewT, keyD, if_true, if_false, decide_eq_true_eq, Bool.false_eq_true, List.map_cons, List.map_nil, List.length_cons, List.length_nil, List.cons_append, List.nil_append, Nat.reduceAdd, Nat.reduceSub, List.reduceReplicate, e_vw_non, e_vw_bl, e_vw_int, e_vw_str, e_vw_scr, e_vw_lst, e_vw_tup, e_vw_dic, e_vw_dit, e_vw_obj, e_vw_ty, e_flat_non, e_isn_non, e_ty_non, e_flat_bl, e_isn_bl, e_ty_bl, e_flat_int, e_isn_int, e_ty_int, e_flat_str, e_isn_str, e_ty_str, e_flat_scr, e_isn_scr, e_ty_scr, e_flat_lst, e_isn_lst, e_ty_lst, e_flat_tup, e_isn_tup, e_ty_tup, e_flat_dic, e_isn_dic, e_ty_dic, e_flat_dit, e_isn_dit, e_flat_obj, e_isn_obj, e_flat_ty, e_isn_ty, e_add_ii, e_add_ss, e_add_ll, e_add_tt, e_iadd_ii, e_iadd_ss, e_sub_ii, e_mul_ii, e_mul_li, e_mul_si, e_fdiv_ii, e_mod_ii, e_pow_ii, e_deq_nn, e_deq_ii, e_deq_ss, e_deq_bb, e_deq_tt, e_deq_ll, e_deq_st, e_deq_ts, e_deql_n, e_deql_c, e_deql_nc, e_deql_cn, e_isN, e_ix_l, e_ix_t, e_ix_c, e_ix_s, e_ix_d, e_ix_dt, e_in_l, e_in_t, e_in_s, e_in_d, e_in_dt, e_sl_l, e_sl_s, e_len_lst, e_len_tup, e_len_s, e_len_c, e_len_d, e_int_i, e_abs_i, e_str_i, e_tup_l, e_tup_t, e_oLst0_l, e_oLst0_t, e_oLst0M_l, e_oLst0M_t, e_set_l, e_set_d, e_set_t, e_key_i, e_key_s, e_isT_non_bool, e_isT_non_int, e_isT_non_str, e_isT_non_list, e_isT_non_tuple, e_isT_non_dict, e_isT_bool_bool, e_isT_bool_int, e_isT_bool_str, e_isT_bool_list, e_isT_bool_tuple, e_isT_bool_dict, e_isT_int_bool, e_isT_int_int, e_isT_int_str, e_isT_int_list, e_isT_int_tuple, e_isT_int_dict, e_isT_str_bool, e_isT_str_int, e_isT_str_str, e_isT_str_list, e_isT_str_tuple, e_isT_str_dict, e_isT_list_bool, e_isT_list_int, e_isT_list_str, e_isT_list_list, e_isT_list_tuple, e_isT_list_dict, e_isT_tuple_bool, e_isT_tuple_int, e_isT_tuple_str, e_isT_tuple_list, e_isT_tuple_tuple, e_isT_tuple_dict, e_isT_dict_bool, e_isT_dict_int, e_isT_dict_str, e_isT_dict_list, e_isT_dict_tuple, e_isT_dict_dict, e_lt, e_le, e_gt, e_ge]
    refine ⟨fun i ρ M' => M' = M ∧ ∃ x y, ρ = [some (.scr ns), some (.int x), y, none, none], ⟨rfl, 11, none, rfl⟩, ?_, ?_⟩
    · rintro i d ρ M' hi ⟨rfl, x, y, rfl⟩
      rw [List.getElem?_map] at hi
      cases e : ns[i]? with
      | none => rw [e] at hi; cases hi
      | some n =>
        rw [e] at hi; cases hi
        simp only [dVar, dC, dOp, dTest, dTru, dAnd, dOr, dNot, dAndV, dOrV, dNotV, dIfE, dNil, dCons, dStar, dTup, dLst, dLstM, dFrz, dNeg, oEq, oNe, dNoO, dSoO, dSl, dNext, dSeq, dBreak, dCont, dExpr, dRet, dRetN, dIf, gNm, gNl, gCn, gTp, dAsg, dSet, dAug, dIter, dRng1, dRng2, dYes, dCallB, f1, dIsi, dJoinAt, dFmt, dJs, dJoined, dCall, dstart, rget, rset, dwipe, gSb, dApp, dPop, fMax2, fMin2, dNever, dPairs, dDispG, dDisp, dDispM, dNewK, dNewT, keyD, if_true, if_false, decide_eq_true_eq, Bool.false_eq_true, List.map_cons, List.map_nil, List.length_cons, List.length_nil, List.cons_append, List.nil_append, Nat.reduceAdd, Nat.reduceSub, List.reduceReplicate, e_vw_non, e_vw_bl, e_vw_int, e_vw_str, e_vw_scr, e_vw_lst, e_vw_tup, e_vw_dic, e_vw_dit, e_vw_obj, e_vw_ty, e_flat_non, e_isn_non, e_ty_non, e_flat_bl, e_isn_bl, e_ty_bl, e_flat_int, e_isn_int, e_ty_int, e_flat_str, e_isn_str, e_ty_str, e_flat_scr, e_isn_scr, e_ty_scr, e_flat_lst, e_isn_lst, e_ty_lst, e_flat_tup, e_isn_tup, e_ty_tup, e_flat_dic, e_isn_dic, e_ty_dic, e_flat_dit, e_isn_dit, e_flat_obj, e_isn_obj, e_flat_ty, e_isn_ty, e_add_ii, e_add_ss, e_add_ll, e_add_tt, e_iadd_ii, e_iadd_ss, e_sub_ii, e_mul_ii, e_mul_li, e_mul_si, e_fdiv_ii, e_mod_ii, e_pow_ii, e_deq_nn, e_deq_ii, e_deq_ss, e_deq_bb, e_deq_tt, e_deq_ll, e_deq_st, e_deq_ts, e_deql_n, e_deql_c, e_deql_nc, e_deql_cn, e_isN, e_ix_l, e_ix_t, e_ix_c, e_ix_s, e_ix_d, e_ix_dt, e_in_l, e_in_t, e_in_s, e_in_d, e_in_dt, e_sl_l, e_sl_s, e_len_lst, e_len_tup, e_len_s, e_len_c, e_len_d, e_int_i, e_abs_i, e_str_i, e_tup_l, e_tup_t, e_oLst0_l, e_oLst0_t, e_oLst0M_l, e_oLst0M_t, e_set_l, e_set_d, e_set_t, e_key_i, e_key_s, e_isT_non_bool, e_isT_non_int, e_isT_non_str, e_isT_non_list, e_isT_non_tuple, e_isT_non_dict, e_isT_bool_bool, e_isT_bool_int, e_isT_bool_str, e_isT_bool_list, e_isT_bool_tuple, e_isT_bool_dict, e_isT_int_bool, e_isT_int_int, e_isT_int_str, e_isT_int_list, e_isT_int_tuple, e_isT_int_dict, e_isT_str_bool, e_isT_str_int, e_isT_str_str, e_isT_str_list, e_isT_str_tuple, e_isT_str_dict, e_isT_list_bool, e_isT_list_int, e_isT_list_str, e_isT_list_list, e_isT_list_tuple, e_isT_list_dict, e_isT_tuple_bool, e_isT_tuple_int, e_isT_tuple_str, e_isT_tuple_list, e_isT_tuple_tuple, e_isT_tuple_dict, e_isT_dict_bool, e_isT_dict_int, e_isT_dict_str, e_isT_dict_list, e_isT_dict_tuple, e_isT_dict_dict, e_lt, e_le, e_gt, e_ge]
        exact ⟨.inr (by decide), .inr (by decide), by decide, trivial, _, _, rfl⟩
    · rintro ρ M' ⟨rfl, x, y, rfl⟩
      refine hR _ _ ?_
      simp only [dLc, dLcM, dLcG, dVar, dC, dOp, dTest, dTru, dAnd, dOr, dNot, dAndV, dOrV, dNotV, dIfE, dNil, dCons, dStar, dTup, dLst, dLstM, dFrz, dNeg, oEq, oNe, dNoO, dSoO, dSl, dNext, dSeq, dBreak, dCont, dExpr, dRet, dRetN, dIf, gNm, gNl, gCn, gTp, dAsg, dSet, dAug, dIter, dRng1, dRng2, dYes, dCallB, f1, dIsi, dJoinAt, dFmt, dJs, dJoined, dCall, dstart, rget, rset, dwipe, gSb, dApp, dPop, fMax2, fMin2, dNever, dPairs, dDispG, dDisp, dDispM, dNewK, dNewT, keyD, if_true, if_false, decide_eq_true_eq, Bool.false_eq_true, List.map_cons, List.map_nil, List.length_cons, List.length_nil, List.cons_append, List.nil_append, Nat.reduceAdd, Nat.reduceSub, List.reduceReplicate, e_vw_non, e_vw_bl, e_vw_int, e_vw_str, e_vw_scr, e_vw_lst, e_vw_tup, e_vw_dic, e_vw_dit, e_vw_obj, e_vw_ty, e_flat_non, e_isn_non, e_ty_non, e_flat_bl, e_isn_bl, e_ty_bl, e_flat_int, e_isn_int, e_ty_int, e_flat_str, e_isn_str, e_ty_str, e_flat_scr, e_isn_scr, e_ty_scr, e_flat_lst, e_isn_lst, e_ty_lst, e_flat_tup, e_isn_tup, e_ty_tup, e_flat_dic, e_isn_dic, e_ty_dic, e_flat_dit, e_isn_dit, e_flat_obj, e_isn_obj, e_flat_ty, e_isn_ty, e_add_ii, e_add_ss, e_add_ll, e_add_tt, e_iadd_ii, e_iadd_ss, e_sub_ii, e_mul_ii, e_mul_li, e_mul_si, e_fdiv_ii, e_mod_ii, e_pow_ii, e_deq_nn, e_deq_ii, e_deq_ss, e_deq_bb, e_deq_tt, e_deq_ll, e_deq_st, e_deq_ts, e_deql_n, e_deql_c, e_deql_nc, e_deql_cn, e_isN, e_ix_l, e_ix_t, e_ix_c, e_ix_s, e_ix_d, e_ix_dt, e_in_l, e_in_t, e_in_s, e_in_d, e_in_dt, e_sl_l, e_sl_s, e_len_lst, e_len_tup, e_len_s, e_len_c, e_len_d, e_int_i, e_abs_i, e_str_i, e_tup_l, e_tup_t, e_oLst0_l, e_oLst0_t, e_oLst0M_l, e_oLst0M_t, e_set_l, e_set_d, e_set_t, e_key_i, e_key_s, e_isT_non_bool, e_isT_non_int, e_isT_non_str, e_isT_non_list, e_isT_non_tuple, e_isT_non_dict, e_isT_bool_bool, e_isT_bool_int, e_isT_bool_str, e_isT_bool_list, e_isT_bool_tuple, e_isT_bool_dict, e_isT_int_bool, e_isT_int_int, e_isT_int_str, e_isT_int_list, e_isT_int_tuple, e_isT_int_dict, e_isT_str_bool, e_isT_str_int, e_isT_str_str, e_isT_str_list, e_isT_str_tuple, e_isT_str_dict, e_isT_list_bool, e_isT_list_int, e_isT_list_str, e_isT_list_list, e_isT_list_tuple, e_isT_list_dict, e_isT_tuple_bool, e_isT_tuple_int, e_isT_tuple_str, e_isT_tuple_list, e_isT_tuple_tuple, e_isT_tuple_dict, e_isT_dict_bool, e_isT_dict_int, e_isT_dict_str, e_isT_dict_list, e_isT_dict_tuple, e_isT_dict_dict, e_lt, e_le, e_gt, e_ge]
      refine ⟨fun i acc M1 => M1 = M' ∧ ∃ cs : List Int, acc = cs.map .int ∧ cs.length = i, ⟨rfl, [], rfl, rfl⟩, ?_, ?_⟩
      · rintro i d acc M1 hi ⟨rfl, cs, rfl, hcs⟩
        rw [List.getElem?_map] at hi
        cases e : ns[i]? with
        | none => rw [e] at hi; cases hi
        | some n =>
          rw [e] at hi; cases hi
          have hin : i < ns.length := (List.getElem?_eq_some_iff.mp e).1
          simp only [dVar, dC, dOp, dTest, dTru, dAnd, dOr, dNot, dAndV, dOrV, dNotV, dIfE, dNil, dCons, dStar, dTup, dLst, dLstM, dFrz, dNeg, oEq, oNe, dNoO, dSoO, dSl, dNext, dSeq, dBreak, dCont, dExpr, dRet, dRetN, dIf, gNm, gNl, gCn, gTp, dAsg, dSet, dAug, dIter, dRng1, dRng2, dYes, dCallB, f1, dIsi, dJoinAt, dFmt, dJs, dJoined, dCall, dstart, rget, rset, dwipe, gSb, dApp, dPop, fMax2, fMin2, dNever, dPairs, dDispG, dDisp, dDispM, dNewK, dNewT, keyD, if_true, if_false, decide_eq_true_eq, Bool.false_eq_true, List.map_cons, List.map_nil, List.length_cons, List.length_nil, List.cons_append, List.nil_append, Nat.reduceAdd, Nat.reduceSub, List.reduceReplicate, e_vw_non, e_vw_bl, e_vw_int, e_vw_str, e_vw_scr, e_vw_lst, e_vw_tup, e_vw_dic, e_vw_dit, e_vw_obj, e_vw_ty, e_flat_non, e_isn_non, e_ty_non, e_flat_bl, e_isn_bl, e_ty_bl, e_flat_int, e_isn_int, e_ty_int, e_flat_str, e_isn_str, e_ty_str, e_flat_scr, e_isn_scr, e_ty_scr, e_flat_lst, e_isn_lst, e_ty_lst, e_flat_tup, e_isn_tup, e_ty_tup, e_flat_dic, e_isn_dic, e_ty_dic, e_flat_dit, e_isn_dit, e_flat_obj, e_isn_obj, e_flat_ty, e_isn_ty, e_add_ii, e_add_ss, e_add_ll, e_add_tt, e_iadd_ii, e_iadd_ss, e_sub_ii, e_mul_ii, e_mul_li, e_mul_si, e_fdiv_ii, e_mod_ii, e_pow_ii, e_deq_nn, e_deq_ii, e_deq_ss, e_deq_bb, e_deq_tt, e_deq_ll, e_deq_st, e_deq_ts, e_deql_n, e_deql_c, e_deql_nc, e_deql_cn, e_isN, e_ix_l, e_ix_t, e_ix_c, e_ix_s, e_ix_d, e_ix_dt, e_in_l, e_in_t, e_in_s, e_in_d, e_in_dt, e_sl_l, e_sl_s, e_len_lst, e_len_tup, e_len_s, e_len_c, e_len_d, e_int_i, e_abs_i, e_str_i, e_tup_l, e_tup_t, e_oLst0_l, e_oLst0_t, e_oLst0M_l, e_oLst0M_t, e_set_l, e_set_d, e_set_t, e_key_i, e_key_s, e_isT_non_bool, e_isT_non_int, e_isT_non_str, e_isT_non_list, e_isT_non_tuple, e_isT_non_dict, e_isT_bool_bool, e_isT_bool_int, e_isT_bool_str, e_isT_bool_list, e_isT_bool_tuple, e_isT_bool_dict, e_isT_int_bool, e_isT_int_int, e_isT_int_str, e_isT_int_list, e_isT_int_tuple, e_isT_int_dict, e_isT_str_bool, e_isT_str_int, e_isT_str_str, e_isT_str_list, e_isT_str_tuple, e_isT_str_dict, e_isT_list_bool, e_isT_list_int, e_isT_list_str, e_isT_list_list, e_isT_list_tuple, e_isT_list_dict, e_isT_tuple_bool, e_isT_tuple_int, e_isT_tuple_str, e_isT_tuple_list, e_isT_tuple_tuple, e_isT_tuple_dict, e_isT_dict_bool, e_isT_dict_int, e_isT_dict_str, e_isT_dict_list, e_isT_dict_tuple, e_isT_dict_dict, e_lt, e_le, e_gt, e_ge]
          exact ⟨by rw [List.length_map, sizeLine_eq]; omega, trivial, cs ++ [_], by rw [List.map_append]; rfl, by simp [hcs]⟩
      · rintro acc M1 ⟨rfl, cs, rfl, hcs⟩
        rw [List.length_map] at hcs
        simp only [dVar, dC, dOp, dTest, dTru, dAnd, dOr, dNot, dAndV, dOrV, dNotV, dIfE, dNil, dCons, dStar, dTup, dLst, dLstM, dFrz, dNeg, oEq, oNe, dNoO, dSoO, dSl, dNext, dSeq, dBreak, dCont, dExpr, dRet, dRetN, dIf, gNm, gNl, gCn, gTp, dAsg, dSet, dAug, dIter, dRng1, dRng2, dYes, dCallB, f1, dIsi, dJoinAt, dFmt, dJs, dJoined, dCall, dstart, rget, rset, dwipe, gSb, dApp, dPop, fMax2, fMin2, dNever, dPairs, dDispG, dDisp, dDispM, dNewK, dNewT, keyD, if_true, if_false, decide_eq_true_eq, Bool.false_eq_true, List.map_cons, List.map_nil, List.length_cons, List.length_nil, List.cons_append, List.nil_append, Nat.reduceAdd, Nat.reduceSub, List.reduceReplicate, e_vw_non, e_vw_bl, e_vw_int, e_vw_str, e_vw_scr, e_vw_lst, e_vw_tup, e_vw_dic, e_vw_dit, e_vw_obj, e_vw_ty, e_flat_non, e_isn_non, e_ty_non, e_flat_bl, e_isn_bl, e_ty_bl, e_flat_int, e_isn_int, e_ty_int, e_flat_str, e_isn_str, e_ty_str, e_flat_scr, e_isn_scr, e_ty_scr, e_flat_lst, e_isn_lst, e_ty_lst, e_flat_tup, e_isn_tup, e_ty_tup, e_flat_dic, e_isn_dic, e_ty_dic, e_flat_dit, e_isn_dit, e_flat_obj, e_isn_obj, e_flat_ty, e_isn_ty, e_add_ii, e_add_ss, e_add_ll, e_add_tt, e_iadd_ii, e_iadd_ss, e_sub_ii, e_mul_ii, e_mul_li, e_mul_si, e_fdiv_ii, e_mod_ii, e_pow_ii, e_deq_nn, e_deq_ii, e_deq_ss, e_deq_bb, e_deq_tt, e_deq_ll, e_deq_st, e_deq_ts, e_deql_n, e_deql_c, e_deql_nc, e_deql_cn, e_isN, e_ix_l, e_ix_t, e_ix_c, e_ix_s, e_ix_d, e_ix_dt, e_in_l, e_in_t, e_in_s, e_in_d, e_in_dt, e_sl_l, e_sl_s, e_len_lst, e_len_tup, e_len_s, e_len_c, e_len_d, e_int_i, e_abs_i, e_str_i, e_tup_l, e_tup_t, e_oLst0_l, e_oLst0_t, e_oLst0M_l, e_oLst0M_t, e_set_l, e_set_d, e_set_t, e_key_i, e_key_s, e_isT_non_bool, e_isT_non_int, e_isT_non_str, e_isT_non_list, e_isT_non_tuple, e_isT_non_dict, e_isT_bool_bool, e_isT_bool_int, e_isT_bool_str, e_isT_bool_list, e_isT_bool_tuple, e_isT_bool_dict, e_isT_int_bool, e_isT_int_int, e_isT_int_str, e_isT_int_list, e_isT_int_tuple, e_isT_int_dict, e_isT_str_bool, e_isT_str_int, e_isT_str_str, e_isT_str_list, e_isT_str_tuple, e_isT_str_dict, e_isT_list_bool, e_isT_list_int, e_isT_list_str, e_isT_list_list, e_isT_list_tuple, e_isT_list_dict, e_isT_tuple_bool, e_isT_tuple_int, e_isT_tuple_str, e_isT_tuple_list, e_isT_tuple_tuple, e_isT_tuple_dict, e_isT_dict_bool, e_isT_dict_int, e_isT_dict_str, e_isT_dict_list, e_isT_dict_tuple, e_isT_dict_dict, e_lt, e_le, e_gt, e_ge, List.length_map]
        refine ⟨by omega, by omega, ?_⟩
        refine ⟨fun i acc M2 => M2 = M1 ∧ ∃ es : List Int, acc = es.map .int ∧ es.length = i, ⟨rfl, [], rfl, rfl⟩, ?_, ?_⟩
        · rintro i d acc M2 hi ⟨rfl, es, rfl, hes⟩
          have hlt : i < cs.length := by
            have := (List.getElem?_eq_some_iff.mp hi).1
            simp only [rngD, List.length_map, List.length_range] at this; omega
          simp only [rngD, List.getElem?_map, List.getElem?_range (show i < (Int.toNat (cs.length : Int)) by omega), Option.map_some, Option.some.injEq] at hi
          subst hi
          simp only [dVar, dC, dOp, dTest, dTru, dAnd, dOr, dNot, dAndV, dOrV, dNotV, dIfE, dNil, dCons, dStar, dTup, dLst, dLstM, dFrz, dNeg, oEq, oNe, dNoO, dSoO, dSl, dNext, dSeq, dBreak, dCont, dExpr, dRet, dRetN, dIf, gNm, gNl, gCn, gTp, dAsg, dSet, dAug, dIter, dRng1, dRng2, dYes, dCallB, f1, dIsi, dJoinAt, dFmt, dJs, dJoined, dCall, dstart, rget, rset, dwipe, gSb, dApp, dPop, fMax2, fMin2, dNever, dPairs, dDispG, dDisp, dDispM, dNewK, dNewT, keyD, if_true, if_false, decide_eq_true_eq, Bool.false_eq_true, List.map_cons, List.map_nil, List.length_cons, List.length_nil, List.cons_append, List.nil_append, Nat.reduceAdd, Nat.reduceSub, List.reduceReplicate, e_vw_non, e_vw_bl, e_vw_int, e_vw_str, e_vw_scr, e_vw_lst, e_vw_tup, e_vw_dic, e_vw_dit, e_vw_obj, e_vw_ty, e_flat_non, e_isn_non, e_ty_non, e_flat_bl, e_isn_bl, e_ty_bl, e_flat_int, e_isn_int, e_ty_int, e_flat_str, e_isn_str, e_ty_str, e_flat_scr, e_isn_scr, e_ty_scr, e_flat_lst, e_isn_lst, e_ty_lst, e_flat_tup, e_isn_tup, e_ty_tup, e_flat_dic, e_isn_dic, e_ty_dic, e_flat_dit, e_isn_dit, e_flat_obj, e_isn_obj, e_flat_ty, e_isn_ty, e_add_ii, e_add_ss, e_add_ll, e_add_tt, e_iadd_ii, e_iadd_ss, e_sub_ii, e_mul_ii, e_mul_li, e_mul_si, e_fdiv_ii, e_mod_ii, e_pow_ii, e_deq_nn, e_deq_ii, e_deq_ss, e_deq_bb, e_deq_tt, e_deq_ll, e_deq_st, e_deq_ts, e_deql_n, e_deql_c, e_deql_nc, e_deql_cn, e_isN, e_ix_l, e_ix_t, e_ix_c, e_ix_s, e_ix_d, e_ix_dt, e_in_l, e_in_t, e_in_s, e_in_d, e_in_dt, e_sl_l, e_sl_s, e_len_lst, e_len_tup, e_len_s, e_len_c, e_len_d, e_int_i, e_abs_i, e_str_i, e_tup_l, e_tup_t, e_oLst0_l, e_oLst0_t, e_oLst0M_l, e_oLst0M_t, e_set_l, e_set_d, e_set_t, e_key_i, e_key_s, e_isT_non_bool, e_isT_non_int, e_isT_non_str, e_isT_non_list, e_isT_non_tuple, e_isT_non_dict, e_isT_bool_bool, e_isT_bool_int, e_isT_bool_str, e_isT_bool_list, e_isT_bool_tuple, e_isT_bool_dict, e_isT_int_bool, e_isT_int_int, e_isT_int_str, e_isT_int_list, e_isT_int_tuple, e_isT_int_dict, e_isT_str_bool, e_isT_str_int, e_isT_str_str, e_isT_str_list, e_isT_str_tuple, e_isT_str_dict, e_isT_list_bool, e_isT_list_int, e_isT_list_str, e_isT_list_list, e_isT_list_tuple, e_isT_list_dict, e_isT_tuple_bool, e_isT_tuple_int, e_isT_tuple_str, e_isT_tuple_list, e_isT_tuple_tuple, e_isT_tuple_dict, e_isT_dict_bool, e_isT_dict_int, e_isT_dict_str, e_isT_dict_list, e_isT_dict_tuple, e_isT_dict_dict, e_lt, e_le, e_gt, e_ge, List.length_map]
          have hg : ∃ z, cs[cs.length - 1 - i]? = some z := ⟨_, List.getElem?_eq_getElem (by omega)⟩
          obtain ⟨z, hg⟩ := hg
          refine ⟨.int z, atI_n (j := cs.length - 1 - i) (by omega) (by rw [List.getElem?_map, hg]; rfl), ?_⟩
          exact ⟨by rw [sizeLine_eq]; omega, trivial, es ++ [z], by rw [List.map_append]; rfl, by simp [hes]⟩
        · rintro acc M2 ⟨rfl, es, rfl, hes⟩
          intro c hc
          refine ⟨_, rfl, by simp, fun p hp => ?_⟩
          have ne : c ≠ p := fun z => by subst z; rw [mset_same] at hp; cases hp
          have hp' : M2 p = none := by rw [mset_ne (Ne.symm ne)] at hp; exact hp
          refine ⟨_, ?_, q p c 1 x 0 es ne hp' hc⟩
          show DL.Sub _ (mset (mset M2 c (.lst (es.map .int))) p (.dic (srcL c 1 x 0)))
          refine ⟨fun a o h => h, fun a c' h => ?_⟩
          have h1 : a ≠ p := fun z => by subst z; rw [mset_same] at h; cases h
          rw [mset_ne h1] at h
          have h2 : a ≠ c := fun z => by subst z; rw [mset_same] at h; cases h
          rw [mset_ne h2] at h
          have h3 := cl.cl a c' h
          rw [mset_ne (fun z => by subst z; rw [hp'] at h3; cases h3), mset_ne (fun z => by subst z; rw [hc] at h3; cases h3)]
          exact h3
def S__law_pick (K : PySem.W.Frag) : DSp := pkS

theorem ok__law_pick (m : Mg K mg) {f : Addr} {fd : FuncData} (Fd : FunT K "_law_pick" s__law_pick f fd) (h : mg "_law_pick" = some (.ref f)) : Fn P w K mg base 1 "_law_pick" ["source", "many"] (S__law_pick K) :=
  ⟨f, fd, (ok_pkO m Fd).imp fun vs H Q E h => pk_imp h, h, Fd.kp, Fd.bindsN fun _ _ _ _ _ _ us hl => match us, hl with | [_, _], _ => rfl⟩
def S__law_source (K : PySem.W.Frag) : DSp := srS

theorem ok__law_source (m : Mg K mg) {f : Addr} {fd : FuncData} (Fd : FunT K "_law_source" s__law_source f fd) (h : mg "_law_source" = some (.ref f)) : Fn P w K mg base 1 "_law_source" ["script"] (S__law_source K) :=
  ⟨f, fd, (ok_srO m Fd).imp fun vs H Q E h => sr_imp h, h, Fd.kp, Fd.bindsN fun _ _ _ _ _ _ us hl => match us, hl with | [_], _ => rfl⟩
end
end EK


set_option Elab.async false
set_option linter.all false
set_option maxRecDepth 100000
set_option maxHeartbeats 400000
namespace EK
open PySem PySem.Spec PyProof.Rows L2 DL
local macro_rules
  | `(tactic| simp? only [$ls,*]) => `(tactic| simp only [$ls,*, dVar, dC, dOp, dTest, dTru, dAnd, dOr, dNot, dAndV, dOrV, dNotV, dIfE, dNil, dCons, dStar, dTup, dLst, dLstM, dFrz, dNeg, oEq, oNe, dNoO, dSoO, dSl, dNext, dSeq, dBreak, dCont, dExpr, dRet, dRetN, dIf, gNm, gNl, gCn, gTp, dAsg, dSet, dAug, dIter, dRng1, dRng2, dYes, dCallB, f1, dIsi, dJoinAt, dFmt, dJs, dJoined, dCall, dstart, rget, rset, dwipe, gSb, dApp, dPop, fMax2, fMin2, dNever, dPairs, dDispG, dDisp, dDispM, dNewK, dNewT, keyD, if_true, if_false, decide_eq_true_eq, Bool.false_eq_true, List.map_cons, List.map_nil, List.length_cons, List.length_nil, List.cons_append, List.nil_append, Nat.reduceAdd, Nat.reduceSub, List.reduceReplicate, e_vw_non, e_vw_bl, e_vw_int, e_vw_str, e_vw_scr, e_vw_lst, e_vw_tup, e_vw_dic, e_vw_dit, e_vw_obj, e_vw_ty, e_flat_non, e_isn_non, e_ty_non, e_flat_bl, e_isn_bl, e_ty_bl, e_flat_int, e_isn_int, e_ty_int, e_flat_str, e_isn_str, e_ty_str, e_flat_scr, e_isn_scr, e_ty_scr, e_flat_lst, e_isn_lst, e_ty_lst, e_flat_tup, e_isn_tup, e_ty_tup, e_flat_dic, e_isn_dic, e_ty_dic, e_flat_dit, e_isn_dit, e_flat_obj, e_isn_obj, e_flat_ty, e_isn_ty, e_add_ii, e_add_ss, e_add_ll, e_add_tt, e_iadd_ii, e_iadd_ss, e_sub_ii, e_mul_ii, e_mul_li, e_mul_si, e_fdiv_ii, e_mod_ii, e_pow_ii, e_deq_nn, e_deq_ii, e_deq_ss, e_deq_bb, e_deq_tt, e_deq_ll, e_deq_st, e_deq_ts, e_deql_n, e_deql_c, e_deql_nc, e_deql_cn, e_isN, e_ix_l, e_ix_t, e_ix_c, e_ix_s, e_ix_d, e_ix_dt, e_in_l, e_in_t, e_in_s, e_in_d, e_in_dt, e_sl_l, e_sl_s, e_len_lst, e_len_tup, e_len_s, e_len_c, e_len_d, e_int_i, e_abs_i, e_str_i, e_tup_l, e_tup_t, e_oLst0_l, e_oLst0_t, e_oLst0M_l, e_oLst0M_t, e_set_l, e_set_d, e_set_t, e_key_i, e_key_s, e_isT_non_bool, e_isT_non_int, e_isT_non_str, e_isT_non_list, e_isT_non_tuple, e_isT_non_dict, e_isT_bool_bool, e_isT_bool_int, e_isT_bool_str, e_isT_bool_list, e_isT_bool_tuple, e_isT_bool_dict, e_isT_int_bool, e_isT_int_int, e_isT_int_str, e_isT_int_list, e_isT_int_tuple, e_isT_int_dict, e_isT_str_bool, e_isT_str_int, e_isT_str_str, e_isT_str_list, e_isT_str_tuple, e_isT_str_dict, e_isT_list_bool, e_isT_list_int, e_isT_list_str, e_isT_list_list, e_isT_list_tuple, e_isT_list_dict, e_isT_tuple_bool, e_isT_tuple_int, e_isT_tuple_str, e_isT_tuple_list, e_isT_tuple_tuple, e_isT_tuple_dict, e_isT_dict_bool, e_isT_dict_int, e_isT_dict_str, e_isT_dict_list, e_isT_dict_tuple, e_isT_dict_dict, e_lt, e_le, e_gt, e_ge, e_fld, e_meth, e_inO, e_lenO, e_eqO, e_S1, e_S2, e_S3, e_S4, dChain, dPar, dIsi2, dMake, dRaise, dX0, dXN, dTryM, dMix, Bool.not_true, Bool.not_false, eq_self, true_and, and_true, true_or, and_self, e_mulM_li, e_addM_ll, dFrzE, Bool.false_bne, Bool.true_bne, dGet, dGet1, dDpop, dIdx, e_dic0, e_dic0M, e_same, sl1, dkey_s, e_cxK, dXf, e_sameP, e_addT, dFrzO, oFrz, dClr, e_lstD])
  | `(tactic| simp? only) => `(tactic| simp? only [eq_self])
section
variable {P : Program} {w : World} {K : PySem.W.Frag} {mg : Str → Option Value} {base : Heap}
/-- a drawn name -/
def nameN (num : Nat) (s : Cd) : Prop := ∃ a r, s = a :: (48 + num / 10) :: (48 + num % 10) :: r ∧ a ∈ letters ∧ r.length ≤ 9 ∧ ∀ c ∈ r, c ∈ chars
def nameP (s : Cd) : Prop := ∃ num, num < 100 ∧ nameN num s
theorem chars_get {k : Nat} (h : k < 36) : ∃ c, atI chars (k : Int) = some c ∧ c ∈ chars := by
  have hl : k < chars.length := h
  exact ⟨chars[k], atI_nat (List.getElem?_eq_getElem hl), List.getElem_mem hl⟩
theorem lets_get {k : Nat} (h : k < 26) : ∃ c, atI chars (k : Int) = some c ∧ c ∈ letters := by
  have hl : k < letters.length := h
  exact ⟨letters[k], atI_n rfl (by unfold chars; rw [List.getElem?_append_left hl]; exact List.getElem?_eq_getElem hl), List.getElem_mem hl⟩
theorem digs_get {k : Nat} (h : k < 10) : atI chars ((26 : Int) + (k : Nat)) = some (48 + k) := by
  have : ∀ k : Fin 10, chars[26 + k.val]? = some (48 + k.val) := by decide
  exact atI_n (j := 26 + k) (by omega) (this ⟨k, h⟩)
theorem ch_lt {c : Nat} (h : c ∈ chars) : c < 0x110000 := by
  have : ∀ c ∈ chars, c < 0x110000 := by decide
  exact this c h
theorem dig_ch {k : Nat} (h : k < 10) : 48 + k ∈ chars := by
  have : ∀ k : Fin 10, 48 + k.val ∈ chars := by decide
  exact this ⟨k, h⟩
theorem nameN.word {num : Nat} {s : Cd} (hn : num < 100) (h : nameN num s) : isWord (.str s) = true ∧ s.length ≤ 12 ∧ Wrd s := by
  obtain ⟨a, r, rfl, ha, hr, hc⟩ := h
  have ha' : a ∈ chars := List.mem_append_left _ ha
  have d1 := dig_ch (k := num / 10) (by omega)
  have d2 := dig_ch (k := num % 10) (by omega)
  have all : ∀ c ∈ a :: (48 + num / 10) :: (48 + num % 10) :: r, c ∈ chars := fun c h => by
    simp only [List.mem_cons] at h
    rcases h with rfl | rfl | rfl | h
    · exact ha'
    · exact d1
    · exact d2
    · exact hc c h
  refine ⟨?_, by simp; omega, by simp; omega, fun c h => ch_lt (all c h)⟩
  simp only [isWord, isMem, Bool.and_eq_true, decide_eq_true_eq, List.length_cons]
  exact ⟨⟨by omega, by omega, List.all_eq_true.mpr fun c h => decide_eq_true (all c h)⟩, ha⟩
theorem nameN.inj {n1 n2 : Nat} {s : Cd} (h1 : n1 < 100) (h2 : n2 < 100) (a : nameN n1 s) (b : nameN n2 s) : n1 = n2 := by
  obtain ⟨a1, r1, e1, _⟩ := a
  obtain ⟨a2, r2, e2, _⟩ := b
  rw [e1] at e2
  simp only [List.cons.injEq] at e2
  omega
theorem isMem_of {s : Cd} (h : isWord (.str s) = true) : isMem (.str s) = true := by
  unfold isWord at h
  rw [Bool.and_eq_true] at h; exact h.1
structure NamesOk (n : Nat) (ns : List Cd) : Prop where
  len : ns.length = n
  nd : ns.Nodup
  nm : ∀ s ∈ ns, nameP s
theorem nameP.word {s : Cd} (h : nameP s) : isWord (.str s) = true ∧ s.length ≤ 12 ∧ Wrd s := by
  obtain ⟨k, hk, h⟩ := h; exact h.word hk
theorem names_ok {sh n : Nat} {ns : List Cd} (hn : n ≤ 100) (hl : ns.length = n) (h : ∀ (j : Nat) s, ns[j]? = some s → nameN ((sh + 37 * j) % 100) s) : NamesOk n ns := by
  refine ⟨hl, ?_, fun s hs => ?_⟩
  · refine List.pairwise_iff_getElem.mpr fun i j hi0 hj hij e => ?_
    have e : ns[i]? = ns[j]? := by rw [List.getElem?_eq_getElem hi0, List.getElem?_eq_getElem hj, e]
    have hi : i < ns.length := by omega
    have e1 := h i _ (List.getElem?_eq_getElem hi)
    have e2 := h j _ (List.getElem?_eq_getElem hj)
    rw [List.getElem?_eq_getElem hi, List.getElem?_eq_getElem hj] at e
    rw [Option.some.inj e] at e1
    have := nameN.inj (by omega) (by omega) e1 e2
    omega
  · obtain ⟨j, hj⟩ := List.mem_iff_getElem?.mp hs
    exact ⟨_, by omega, h j s hj⟩
def S__law_names (K : PySem.W.Frag) : DSp := S2 fun x y M Q _ => ∃ (p c : Addr) (n : Nat), x = .ref p ∧ M p = some (.src c) ∧ y = .int (n : Nat) ∧ n ≤ 50 ∧ ∀ ns : List Cd, NamesOk n ns → ∀ q, M q = none → Q (.ref q) (mset M q (.lst (sL ns)))
theorem ok__law_names (m : Mg K mg) {f : Addr} {fd : FuncData} (F__law_pick : Fn P w K mg base 1 "_law_pick" ["source", "many"] (S__law_pick K)) (Fd : FunT K "_law_names" s__law_names f fd) (h : mg "_law_names" = some (.ref f)) : Fn P w K mg base 2 "_law_names" ["source", "many"] (S__law_names K) := by
  refine ⟨f, fd, ?_, h, Fd.kp, Fd.bindsN fun _ _ _ _ _ _ us hl => match us, hl with | [_, _], _ => rfl⟩
  refine dfn Fd sc__law_names (fun ds M Q E h => by obtain ⟨_, _, rfl, _⟩ := S2.of h; rfl) fun cdv A outer s H E Ed hr => ⟨_, (dss_cons (sSet 2 sc__law_names.nd (de_str [97, 98, 99, 100, 101, 102, 103, 104, 105, 106, 107, 108, 109, 110, 111, 112, 113, 114, 115, 116, 117, 118, 119, 120, 121, 122, 48, 49, 50, 51, 52, 53, 54, 55, 56, 57] (by kernel_rfl))) (dss_cons (sSet 3 sc__law_names.nd (cF F__law_pick hr (by omega) rfl (fun σ => passAt (takes_of rfl rfl rfl rfl) σ) (da_cons (vr 0) (da_cons de_int da_nil)))) (dss_cons (sSet 4 sc__law_names.nd (de_eq (Rm64 hr) (cF F__law_pick hr (by omega) rfl (fun σ => passAt (takes_of rfl rfl rfl rfl) σ) (da_cons (vr 0) (da_cons de_int da_nil))) de_int)) (dss_cons (sSet 5 sc__law_names.nd (de_lstM da_nil)) (dss_cons (dFor1 (passes_of rfl) (di_range1 rfl m.range (vr 1)) (gN 6 sc__law_names.nd) (dss_cons (sSet 7 sc__law_names.nd (de_mod (de_int1 rfl m.int (de_add (vr 3) (de_mul de_int (vr 6)))) de_int)) (dss_cons (sSet 8 sc__law_names.nd (de_add (de_add (de_ix (Rm1 hr) (vr 2) (cF F__law_pick hr (by omega) rfl (fun σ => passAt (takes_of rfl rfl rfl rfl) σ) (da_cons (vr 0) (da_cons de_int da_nil)))) (de_ix (Rm1 hr) (vr 2) (de_add de_int (de_fdiv (vr 7) de_int)))) (de_ix (Rm1 hr) (vr 2) (de_add de_int (de_mod (de_int1 rfl m.int (vr 7)) de_int))))) (dss_cons (dFor1 (passes_of rfl) (di_range1 rfl m.range (de_if (dt_tru (vr 4)) (de_pow (cF F__law_pick hr (by omega) rfl (fun σ => passAt (takes_of rfl rfl rfl rfl) σ) (da_cons (vr 0) (da_cons de_int da_nil))) de_int) de_int)) (gN 9 sc__law_names.nd) (dss_one (sSet 8 sc__law_names.nd (de_add (vr 8) (de_ix (Rm1 hr) (vr 2) (cF F__law_pick hr (by omega) rfl (fun σ => passAt (takes_of rfl rfl rfl rfl) σ) (da_cons (vr 0) (da_cons de_int da_nil)))))))) (dss_one (ds_expr (de_app (vr 5) (vr 8)))))))) (dss_one (ds_ret (vr 5)))))))), fun ds M Q cl h => ?_⟩
  obtain ⟨a0, a1, rfl, h⟩ := S2.of h

  obtain ⟨p, c, n, rfl, hp, rfl, hn, q⟩ := h
  simp? only
  refine ⟨p, c, 100, rfl, hp, by decide, fun sh hsh => ⟨p, c, 4, rfl, hp, by decide, fun lg hlg => ?_⟩⟩
  simp? only
  refine ⟨szl (by omega), fun q0 hq => ?_⟩
  have nq : p ≠ q0 := fun e => by subst e; rw [hp] at hq; cases hq
  have hsh : sh < 100 := by omega
  have sM : ∀ ds : List D, mset M q0 (.lst ds) p = some (.src c) := fun ds => by rw [mset_ne nq]; exact hp
  refine gen_nx (t := dFor _ _ _) fun R hR => ?_
  refine dFor_inv (List.range n) (fun i => .int (i : Nat)) (fun i ρ M' => ∃ ns : List Cd, ns.length = i ∧ (∀ (j : Nat) s, ns[j]? = some s → nameN ((sh + 37 * j) % 100) s) ∧ M' = mset M q0 (.lst (sL ns)) ∧ ∃ o6 o7 o8 o9, ρ = [some (.ref p), some (.int (n : Nat)), some (.str chars), some (.int (sh : Nat)), some (.bl ((lg : Int) == 0)), some (.ref q0), o6, o7, o8, o9]) (fun R hR => ?_) ⟨[], rfl, fun _ _ h => by simp at h, rfl, _, _, _, _, rfl⟩ ?_ ?_
  · simp? only [rngD_nat]
    exact ⟨by omega, by omega, hR⟩
  · rintro i x ρ M' hi ⟨ns, hl, hns, rfl, o6, o7, o8, o9, rfl⟩
    obtain ⟨rfl, hlt⟩ := getR hi
    simp? only
    have num : ((sh : Int) + 37 * (x : Nat)) % 100 = (((sh + 37 * x) % 100 : Nat) : Int) := by omega
    rw [num]
    generalize hnum : (sh + 37 * x) % 100 = k
    have hk : k < 100 := by omega
    refine ⟨.inl (by omega), by decide, p, c, 26, rfl, sM _, by decide, fun a ha => ?_⟩
    obtain ⟨ca, e1, ea⟩ := lets_get (k := a) (by omega)
    simp? only
    have d1 : (26 : Int) + (k : Int) / 10 = 26 + ((k / 10 : Nat) : Int) := by omega
    have d2 : (26 : Int) + (k : Int) % 10 = 26 + ((k % 10 : Nat) : Int) := by omega
    have cl36 : chars.length ≤ sizeLine := by decide
    refine ⟨cl36, ca, e1, ⟨by decide, by decide⟩, cl36, _, by rw [d1]; exact digs_get (by omega), by decide, by decide, cl36, _, by rw [d2]; exact digs_get (by omega), by decide, ?_⟩
    refine gen_nx (t := dFor _ _ _) fun R2 hR2 => ?_
    have go : ∀ (m : Nat) (De : DEnds), m ≤ 9 → (∀ ρ M, R2 ρ M → De.nx ρ M) → dFor (fun ρ M Q => Q ((List.range m).map fun i => .int (i : Nat)) M) (gNm 9) (dSet 8 (dOp oAdd (dVar 8) (dOp oIx (dVar 2) (dCall (S__law_pick K) (fun x C fs M' => ∃ M'', DL.Sub M'' M' ∧ Ed C fs M'') (dCons (dVar 0) (dCons (dC (.int 36)) dNil))))))
        De [some (.ref p), some (.int (n : Nat)), some (.str chars), some (.int (sh : Nat)), some (.bl ((lg : Int) == 0)), some (.ref q0), some (.int (x : Nat)), some (.int (k : Nat)), some (.str (ca :: (48 + k / 10) :: [48 + k % 10])), o9] (mset M q0 (.lst (sL ns))) := by
      intro m De hm hDe
      refine dFor_inv (List.range m) (fun i => .int (i : Nat)) (fun i ρ M' => ∃ r : Cd, r.length = i ∧ (∀ c ∈ r, c ∈ chars) ∧ M' = mset M q0 (.lst (sL ns)) ∧ ∃ o9, ρ = [some (.ref p), some (.int (n : Nat)), some (.str chars), some (.int (sh : Nat)), some (.bl ((lg : Int) == 0)), some (.ref q0), some (.int (x : Nat)), some (.int (k : Nat)), some (.str (ca :: (48 + k / 10) :: (48 + k % 10) :: r)), o9]) (fun R hR => hR) ⟨[], rfl, (fun _ h => by cases h), rfl, _, rfl⟩ ?_ ?_
      · rintro i y ρ M' hi ⟨r, hr, hc, rfl, o9, rfl⟩
        obtain ⟨rfl, hlt2⟩ := getR hi
        simp? only
        refine ⟨p, c, 36, rfl, sM _, by decide, fun b hb => ?_⟩
        obtain ⟨cb, e2, eb⟩ := chars_get (k := b) (by omega)
        simp? only
        refine ⟨cl36, cb, e2, szl (by simp; omega), r ++ [cb], by simp [hr], fun c hc2 => ?_, _, rfl⟩
        rcases List.mem_append.mp hc2 with h | h
        · exact hc c h
        · rw [List.mem_singleton.mp h]; exact eb
      · rintro ρ M' ⟨r, hr, hc, rfl, o9, rfl⟩
        rw [List.length_range] at hr
        refine hDe _ _ (hR2 _ _ ?_)
        simp? only [dExpr]
        refine ⟨q0, _, rfl, mset_same, sL ns, mset_same, by rw [sL, List.length_map]; exact szl' (by omega), ?_⟩
        refine ⟨ns ++ [ca :: (48 + k / 10) :: (48 + k % 10) :: r], by simp [hl], fun j s hj => ?_, ?_, _, _, _, _, rfl⟩
        · by_cases hjl : j < ns.length
          · rw [List.getElem?_append_left hjl] at hj; exact hns j s hj
          · rw [List.getElem?_append_right (by omega)] at hj
            have : j = x := by
              have := (List.getElem?_eq_some_iff.mp hj).1
              simp only [List.length_cons, List.length_nil] at this; omega
            subst this
            rw [hl, Nat.sub_self] at hj
            simp only [List.getElem?_cons_zero, Option.some.injEq] at hj
            rw [hnum, ← hj]
            exact ⟨ca, r, rfl, ea, by omega, hc⟩
        · rw [mset_mset, sL, sL, List.map_append]; rfl
    refine dFor_it ?_
    by_cases h0 : lg = 0
    · subst h0
      simp only [dVar, dC, dOp, dTest, dTru, dAnd, dOr, dNot, dAndV, dOrV, dNotV, dIfE, dNil, dCons, dStar, dTup, dLst, dLstM, dFrz, dNeg, oEq, oNe, dNoO, dSoO, dSl, dNext, dSeq, dBreak, dCont, dExpr, dRet, dRetN, dIf, gNm, gNl, gCn, gTp, dAsg, dSet, dAug, dIter, dRng1, dRng2, dYes, dCallB, f1, dIsi, dJoinAt, dFmt, dJs, dJoined, dCall, dstart, rget, rset, dwipe, gSb, dApp, dPop, fMax2, fMin2, dNever, dPairs, dDispG, dDisp, dDispM, dNewK, dNewT, keyD, if_true, if_false, decide_eq_true_eq, Bool.false_eq_true, List.map_cons, List.map_nil, List.length_cons, List.length_nil, List.cons_append, List.nil_append, Nat.reduceAdd, Nat.reduceSub, List.reduceReplicate, e_vw_non, e_vw_bl, e_vw_int, e_vw_str, e_vw_scr, e_vw_lst, e_vw_tup, e_vw_dic, e_vw_dit, e_vw_obj, e_vw_ty, e_flat_non, e_isn_non, e_ty_non, e_flat_bl, e_isn_bl, e_ty_bl, e_flat_int, e_isn_int, e_ty_int, e_flat_str, e_isn_str, e_ty_str, e_flat_scr, e_isn_scr, e_ty_scr, e_flat_lst, e_isn_lst, e_ty_lst, e_flat_tup, e_isn_tup, e_ty_tup, e_flat_dic, e_isn_dic, e_ty_dic, e_flat_dit, e_isn_dit, e_flat_obj, e_isn_obj, e_flat_ty, e_isn_ty, e_add_ii, e_add_ss, e_add_ll, e_add_tt, e_iadd_ii, e_iadd_ss, e_sub_ii, e_mul_ii, e_mul_li, e_mul_si, e_fdiv_ii, e_mod_ii, e_pow_ii, e_deq_nn, e_deq_ii, e_deq_ss, e_deq_bb, e_deq_tt, e_deq_ll, e_deq_st, e_deq_ts, e_deql_n, e_deql_c, e_deql_nc, e_deql_cn, e_isN, e_ix_l, e_ix_t, e_ix_c, e_ix_s, e_ix_d, e_ix_dt, e_in_l, e_in_t, e_in_s, e_in_d, e_in_dt, e_sl_l, e_sl_s, e_len_lst, e_len_tup, e_len_s, e_len_c, e_len_d, e_int_i, e_abs_i, e_str_i, e_tup_l, e_tup_t, e_oLst0_l, e_oLst0_t, e_oLst0M_l, e_oLst0M_t, e_set_l, e_set_d, e_set_t, e_key_i, e_key_s, e_isT_non_bool, e_isT_non_int, e_isT_non_str, e_isT_non_list, e_isT_non_tuple, e_isT_non_dict, e_isT_bool_bool, e_isT_bool_int, e_isT_bool_str, e_isT_bool_list, e_isT_bool_tuple, e_isT_bool_dict, e_isT_int_bool, e_isT_int_int, e_isT_int_str, e_isT_int_list, e_isT_int_tuple, e_isT_int_dict, e_isT_str_bool, e_isT_str_int, e_isT_str_str, e_isT_str_list, e_isT_str_tuple, e_isT_str_dict, e_isT_list_bool, e_isT_list_int, e_isT_list_str, e_isT_list_list, e_isT_list_tuple, e_isT_list_dict, e_isT_tuple_bool, e_isT_tuple_int, e_isT_tuple_str, e_isT_tuple_list, e_isT_tuple_tuple, e_isT_tuple_dict, e_isT_dict_bool, e_isT_dict_int, e_isT_dict_str, e_isT_dict_list, e_isT_dict_tuple, e_isT_dict_dict, e_lt, e_le, e_gt, e_ge, e_fld, e_meth, e_inO, e_lenO, e_eqO, e_S1, e_S2, e_S3, e_S4, dChain, dPar, dIsi2, dMake, dRaise, dX0, dXN, dTryM, dMix, Bool.not_true, Bool.not_false, eq_self, true_and, and_true, true_or, and_self, e_mulM_li, e_addM_ll, dFrzE, Bool.false_bne, Bool.true_bne, dGet, dGet1, dDpop, dIdx, e_dic0, e_dic0M, e_same, sl1, dkey_s, e_cxK, dXf, e_sameP, e_addT, dFrzO, oFrz, dClr, e_lstD] at go ⊢
      rw [if_pos (by rfl)]
      refine ⟨p, c, 4, rfl, sM _, by decide, fun t ht => ?_⟩
      simp? only
      have et : (t : Int) ^ (2 : Int).toNat = ((t ^ 2 : Nat) : Int) := by rw [show (2 : Int).toNat = 2 from rfl]; exact (Int.natCast_pow t 2).symm
      have ht2 : t ^ 2 ≤ 9 := by
        have : t ≤ 3 := by omega
        have := Nat.pow_le_pow_left this 2
        omega
      refine ⟨⟨by decide, by decide, by omega⟩, ?_⟩
      rw [et]
      refine ⟨by omega, by omega, ?_⟩
      rw [rngD_nat]
      exact go _ _ ht2 fun _ _ h => h
    · have e0 : ((lg : Int) == 0) = false := by simp; omega
      simp only [e0, dVar, dC, dOp, dTest, dTru, dAnd, dOr, dNot, dAndV, dOrV, dNotV, dIfE, dNil, dCons, dStar, dTup, dLst, dLstM, dFrz, dNeg, oEq, oNe, dNoO, dSoO, dSl, dNext, dSeq, dBreak, dCont, dExpr, dRet, dRetN, dIf, gNm, gNl, gCn, gTp, dAsg, dSet, dAug, dIter, dRng1, dRng2, dYes, dCallB, f1, dIsi, dJoinAt, dFmt, dJs, dJoined, dCall, dstart, rget, rset, dwipe, gSb, dApp, dPop, fMax2, fMin2, dNever, dPairs, dDispG, dDisp, dDispM, dNewK, dNewT, keyD, if_true, if_false, decide_eq_true_eq, Bool.false_eq_true, List.map_cons, List.map_nil, List.length_cons, List.length_nil, List.cons_append, List.nil_append, Nat.reduceAdd, Nat.reduceSub, List.reduceReplicate, e_vw_non, e_vw_bl, e_vw_int, e_vw_str, e_vw_scr, e_vw_lst, e_vw_tup, e_vw_dic, e_vw_dit, e_vw_obj, e_vw_ty, e_flat_non, e_isn_non, e_ty_non, e_flat_bl, e_isn_bl, e_ty_bl, e_flat_int, e_isn_int, e_ty_int, e_flat_str, e_isn_str, e_ty_str, e_flat_scr, e_isn_scr, e_ty_scr, e_flat_lst, e_isn_lst, e_ty_lst, e_flat_tup, e_isn_tup, e_ty_tup, e_flat_dic, e_isn_dic, e_ty_dic, e_flat_dit, e_isn_dit, e_flat_obj, e_isn_obj, e_flat_ty, e_isn_ty, e_add_ii, e_add_ss, e_add_ll, e_add_tt, e_iadd_ii, e_iadd_ss, e_sub_ii, e_mul_ii, e_mul_li, e_mul_si, e_fdiv_ii, e_mod_ii, e_pow_ii, e_deq_nn, e_deq_ii, e_deq_ss, e_deq_bb, e_deq_tt, e_deq_ll, e_deq_st, e_deq_ts, e_deql_n, e_deql_c, e_deql_nc, e_deql_cn, e_isN, e_ix_l, e_ix_t, e_ix_c, e_ix_s, e_ix_d, e_ix_dt, e_in_l, e_in_t, e_in_s, e_in_d, e_in_dt, e_sl_l, e_sl_s, e_len_lst, e_len_tup, e_len_s, e_len_c, e_len_d, e_int_i, e_abs_i, e_str_i, e_tup_l, e_tup_t, e_oLst0_l, e_oLst0_t, e_oLst0M_l, e_oLst0M_t, e_set_l, e_set_d, e_set_t, e_key_i, e_key_s, e_isT_non_bool, e_isT_non_int, e_isT_non_str, e_isT_non_list, e_isT_non_tuple, e_isT_non_dict, e_isT_bool_bool, e_isT_bool_int, e_isT_bool_str, e_isT_bool_list, e_isT_bool_tuple, e_isT_bool_dict, e_isT_int_bool, e_isT_int_int, e_isT_int_str, e_isT_int_list, e_isT_int_tuple, e_isT_int_dict, e_isT_str_bool, e_isT_str_int, e_isT_str_str, e_isT_str_list, e_isT_str_tuple, e_isT_str_dict, e_isT_list_bool, e_isT_list_int, e_isT_list_str, e_isT_list_list, e_isT_list_tuple, e_isT_list_dict, e_isT_tuple_bool, e_isT_tuple_int, e_isT_tuple_str, e_isT_tuple_list, e_isT_tuple_tuple, e_isT_tuple_dict, e_isT_dict_bool, e_isT_dict_int, e_isT_dict_str, e_isT_dict_list, e_isT_dict_tuple, e_isT_dict_dict, e_lt, e_le, e_gt, e_ge, e_fld, e_meth, e_inO, e_lenO, e_eqO, e_S1, e_S2, e_S3, e_S4, dChain, dPar, dIsi2, dMake, dRaise, dX0, dXN, dTryM, dMix, Bool.not_true, Bool.not_false, eq_self, true_and, and_true, true_or, and_self, e_mulM_li, e_addM_ll, dFrzE, Bool.false_bne, Bool.true_bne, dGet, dGet1, dDpop, dIdx, e_dic0, e_dic0M, e_same, sl1, dkey_s, e_cxK, dXf, e_sameP, e_addT, dFrzO, oFrz, dClr, e_lstD] at go ⊢
      refine ⟨by decide, by decide, ?_⟩
      rw [show rngD 0 (Int.toNat 0) = (List.range 0).map fun i => .int (i : Nat) from rfl]
      exact go 0 _ (by omega) fun _ _ h => h
  · rintro ρ M' ⟨ns, hl, hns, rfl, o6, o7, o8, o9, rfl⟩
    rw [List.length_range] at hl
    refine hR _ _ ?_
    simp? only
    exact ⟨_, cl.set (by rw [hq]; simp) (by simp), q ns (names_ok (by omega) hl hns) q0 hq⟩
def S__law_rows (K : PySem.W.Frag) : DSp := S2 fun x y M Q _ => ∃ n a : Nat, x = .int (n : Nat) ∧ y = .int (a : Nat) ∧ (n + 1) ^ a ≤ 100000 ∧ a ≤ 10 ∧ n ≤ 1000 ∧ Q (.lst ((rowsN n a).map fun r => .lst (nL r))) M
theorem ok__law_rows (m : Mg K mg) {f : Addr} {fd : FuncData}  (Fd : FunT K "_law_rows" s__law_rows f fd) (h : mg "_law_rows" = some (.ref f)) : Fn P w K mg base 1 "_law_rows" ["many", "arity"] (S__law_rows K) := by
  refine ⟨f, fd, ?_, h, Fd.kp, Fd.bindsN fun _ _ _ _ _ _ us hl => match us, hl with | [_, _], _ => rfl⟩
  refine dfn Fd sc__law_rows (fun ds M Q E h => by obtain ⟨_, _, rfl, _⟩ := S2.of h; rfl) fun cdv A outer s H E Ed hr => ⟨_, (dss_cons (sSet 2 sc__law_rows.nd (de_lst (da_cons (de_lst da_nil) da_nil))) (dss_cons (dFor1 (passes_of rfl) (di_range1 rfl m.range (vr 1)) (gN 3 sc__law_rows.nd) (dss_cons (sSet 4 sc__law_rows.nd (de_lst da_nil)) (dss_cons (dFor1 (passes_of rfl) (di_seq (vr 2)) (gN 5 sc__law_rows.nd) (dss_one (sSet 4 sc__law_rows.nd (de_add (vr 4) (de_lc rfl sc__law_rows.nd (di_range1 rfl m.range (vr 0)) (blkOk_by (own := [("place", 6)]) (N := ["many", "arity", "found", "k", "longer", "row", "place"]) (sc := defScope s__law_rows) (by decide +kernel)) (fun _ _ _ _ _ => (gN 6 sc__law_rows.nd)) (fun _ _ _ _ _ => dts_nil) (fun _ _ _ _ _ => (de_add (vr 5) (de_lst (da_cons (vr 6) da_nil)))) (by decide)))))) (dss_one (sSet 2 sc__law_rows.nd (vr 4)))))) (dss_one (ds_ret (vr 2))))), fun ds M Q cl h => ?_⟩
  obtain ⟨a0, a1, rfl, h⟩ := S2.of h

  obtain ⟨n, a, rfl, rfl, hz, ha, hn, q⟩ := h
  simp? only
  have z1 : (0 : Nat) ≤ sizeLine ∧ (1 : Nat) ≤ sizeLine := ⟨szl (by omega), szl (by omega)⟩
  refine ⟨z1.1, z1.2, ?_⟩
  have hle : ∀ i, i ≤ a → n ^ i ≤ 100000 := fun i hi => Nat.le_trans (Nat.le_trans (Nat.pow_le_pow_left (by omega) i) (Nat.pow_le_pow_right (n := n + 1) (by omega) hi)) hz
  refine gen_nx (t := dFor _ _ _) fun R hR => ?_
  refine dFor_inv (List.range a) (fun i => .int (i : Nat)) (fun i ρ M' => M' = M ∧ ∃ o3 o4 o5 o6, ρ = [some (.int (n : Nat)), some (.int (a : Nat)), some (.lst ((rowsN n i).map fun r => .lst (nL r))), o3, o4, o5, o6]) (fun R hR => ?_) ⟨rfl, none, none, none, none, rfl⟩ ?_ ?_
  · simp? only [rngD_nat]
    exact ⟨by omega, by omega, hR⟩
  · rintro i x ρ M' hi ⟨rfl, o3, o4, o5, o6, rfl⟩
    obtain ⟨rfl, hlt⟩ := getR hi
    simp? only
    refine ⟨z1.1, ?_⟩
    refine gen_nx (t := dFor _ _ _) fun R2 hR2 => ?_
    refine dFor_inv (rowsN n x) (fun r => .lst (nL r)) (fun j ρ M1 => M1 = M' ∧ ∃ o5 o6, ρ = [some (.int (n : Nat)), some (.int (a : Nat)), some (.lst ((rowsN n x).map fun r => .lst (nL r))), some (.int (x : Nat)), some (.lst ((((rowsN n x).take j).flatMap fun row => (List.range n).map fun y => row ++ [y]).map fun r => .lst (nL r))), o5, o6]) (fun R hR => ?_) ⟨rfl, _, _, rfl⟩ ?_ ?_
    · simp? only; exact hR
    · rintro j row ρ M1 hj ⟨rfl, o5, o6, rfl⟩
      have hrm := List.mem_of_getElem? hj
      have hrl := (mem_rowsN.mp hrm).1
      have hjl := (List.getElem?_eq_some_iff.mp hj).1
      rw [rowsN_length] at hjl
      simp? only
      refine dLc_map (List.range n) (fun y => .int (y : Nat)) (fun y => .lst (nL (row ++ [y]))) (fun R hR => ?_) (by simp; omega) (fun k y hy R hR => ?_) ?_
      · simp? only [rngD_nat]; exact ⟨by omega, by omega, hR⟩
      · simp? only
        refine ⟨z1.2, ?_, ?_⟩
        · simp only [nL, List.length_map, hrl]; exact szl (by omega)
        · simp only [nL, List.map_append] at hR ⊢; exact hR
      · simp? only
        have hl : ∀ zs : List (List Nat), (zs.flatMap fun row => (List.range n).map fun y => row ++ [y]).length = zs.length * n := by
          intro zs
          induction zs with
          | nil => simp
          | cons z zs ih => simp only [List.flatMap_cons, List.length_append, List.length_map, List.length_range, ih, List.length_cons, Nat.succ_mul]; omega
        refine ⟨?_, some (.lst (nL row)), o6, ?_⟩
        · rw [List.length_map, hl, List.length_take, rowsN_length, List.length_map, List.length_range]
          have h1 : n ^ (x + 1) ≤ 100000 := hle _ hlt
          rw [Nat.pow_succ] at h1
          have h2 : min j (n ^ x) * n ≤ n ^ x * n := Nat.mul_le_mul_right _ (Nat.min_le_right _ _)
          exact szl (by omega)
        · rw [List.take_add_one, hj, Option.toList_some, List.flatMap_append, List.map_append]
          simp only [List.flatMap_cons, List.flatMap_nil, List.append_nil, List.map_map]
          rfl
    · rintro ρ M1 ⟨rfl, o5, o6, rfl⟩
      rw [List.take_length]
      refine hR2 _ _ ?_
      simp? only
      exact ⟨_, _, _, _, rfl⟩
  · rintro ρ M' ⟨rfl, o3, o4, o5, o6, rfl⟩
    rw [List.length_range]
    refine hR _ _ ?_
    simp? only
    exact ⟨M', cl, q⟩
def S__law_operation (K : PySem.W.Frag) : DSp := S2 fun x y M Q _ => ∃ (p c : Addr) (n : Nat), x = .ref p ∧ M p = some (.src c) ∧ y = .int (n : Nat) ∧ 1 ≤ n ∧ n ≤ 10 ∧ ∀ (a : Nat) (vs : List Nat), a ≤ 2 → vs.length = n ^ a → (∀ v ∈ vs, v < n) → Q (.lst [.int (a : Nat), .lst (nL vs)]) M
theorem foldl_max {x : Nat} : ∀ {row : List Nat}, x ∈ row → (∀ y ∈ row, y ≤ x) → x = row.foldl max 0 := by
  have key : ∀ (row : List Nat) (a : Nat), a ≤ row.foldl max a ∧ (∀ y ∈ row, y ≤ row.foldl max a) ∧ (row.foldl max a = a ∨ row.foldl max a ∈ row) := by
    intro row
    induction row with
    | nil => intro a; exact ⟨Nat.le_refl _, (fun _ h => by cases h), .inl rfl⟩
    | cons z row ih =>
      intro a
      obtain ⟨h1, h2, h3⟩ := ih (max a z)
      simp only [List.foldl_cons]
      refine ⟨by omega, fun y hy => ?_, ?_⟩
      · rcases List.mem_cons.mp hy with rfl | h
        · omega
        · exact h2 y h
      · rcases h3 with h3 | h3
        · rcases Nat.le_total a z with h | h
          · rw [h3, Nat.max_eq_right h]; exact .inr (by simp)
          · rw [h3, Nat.max_eq_left h]; exact .inl rfl
        · exact .inr (by simp [h3])
  intro row hx hm
  obtain ⟨h1, h2, h3⟩ := key row 0
  have h4 := h2 x hx
  rcases h3 with h3 | h3
  · omega
  · have := hm _ h3; omega
theorem foldl_max_lt {n : Nat} : ∀ {row : List Nat}, (∀ y ∈ row, y < n) → 0 < n → row.foldl max 0 < n := by
  have key : ∀ (row : List Nat) (a : Nat), a < n → (∀ y ∈ row, y < n) → row.foldl max a < n := by
    intro row
    induction row with
    | nil => intro a h _; exact h
    | cons z row ih => intro a h hm; exact ih _ (by have := hm z (by simp); omega) fun y hy => hm y (by simp [hy])
  intro row h1 h2; exact key row 0 h2 h1
def minL : List Nat → Nat
  | [] => 0
  | x :: xs => xs.foldl min x
theorem minL_spec : ∀ (row : List Nat) (a : Nat), row.foldl min a ≤ a ∧ (∀ y ∈ row, row.foldl min a ≤ y) ∧ (row.foldl min a = a ∨ row.foldl min a ∈ row) := by
  intro row
  induction row with
  | nil => intro a; exact ⟨Nat.le_refl _, (fun _ h => by cases h), .inl rfl⟩
  | cons z row ih =>
    intro a
    obtain ⟨h1, h2, h3⟩ := ih (min a z)
    simp only [List.foldl_cons]
    refine ⟨by omega, fun y hy => ?_, ?_⟩
    · rcases List.mem_cons.mp hy with rfl | h
      · omega
      · exact h2 y h
    · rcases h3 with h3 | h3
      · rcases Nat.le_total a z with h | h
        · rw [h3, Nat.min_eq_left h]; exact .inl rfl
        · rw [h3, Nat.min_eq_right h]; exact .inr (by simp)
      · exact .inr (by simp [h3])
theorem minL_mem {row : List Nat} (h : row ≠ []) : minL row ∈ row := by
  cases row with
  | nil => exact absurd rfl h
  | cons x xs =>
    show xs.foldl min x ∈ x :: xs
    rcases (minL_spec xs x).2.2 with h | h
    · rw [h]; simp
    · simp [h]
theorem minL_eq {x : Nat} {row : List Nat} (hx : x ∈ row) (hm : ∀ y ∈ row, x ≤ y) : x = minL row := by
  cases row with
  | nil => cases hx
  | cons z xs =>
    have h1 := hm _ (minL_mem (row := z :: xs) (by simp))
    obtain ⟨h2, h3, _⟩ := minL_spec xs z
    have : minL (z :: xs) ≤ x := by
      rcases List.mem_cons.mp hx with rfl | h
      · exact h2
      · exact h3 x h
    omega
theorem sum_cast : ∀ r : List Nat, (r.map fun (x : Nat) => (x : Int)).sum = ((r.sum : Nat) : Int)
  | [] => rfl
  | x :: r => by simp only [List.map_cons, List.sum_cons, sum_cast r]; omega
theorem nL_int (r : List Nat) : nL r = (r.map fun (x : Nat) => (x : Int)).map D.int := by rw [List.map_map]; rfl
theorem ok__law_operation (m : Mg K mg) {f : Addr} {fd : FuncData} (F__law_pick : Fn P w K mg base 1 "_law_pick" ["source", "many"] (S__law_pick K)) (F__law_rows : Fn P w K mg base 1 "_law_rows" ["many", "arity"] (S__law_rows K)) (Fd : FunT K "_law_operation" s__law_operation f fd) (h : mg "_law_operation" = some (.ref f)) : Fn P w K mg base 2 "_law_operation" ["source", "many"] (S__law_operation K) := by
  refine ⟨f, fd, ?_, h, Fd.kp, Fd.bindsN fun _ _ _ _ _ _ us hl => match us, hl with | [_, _], _ => rfl⟩
  refine dfn Fd sc__law_operation (fun ds M Q E h => by obtain ⟨_, _, rfl, _⟩ := S2.of h; rfl) fun cdv A outer s H E Ed hr => ⟨_, (dss_cons (sSet 2 sc__law_operation.nd (cF F__law_pick hr (by omega) rfl (fun σ => passAt (takes_of rfl rfl rfl rfl) σ) (da_cons (vr 0) (da_cons de_int da_nil)))) (dss_cons (sSet 3 sc__law_operation.nd (de_lstRng rfl m.list rfl m.range (vr 1))) (dss_cons (ds_if (dt_in (Rm65 hr) (vr 2) (de_lst (da_cons de_int (da_cons de_int (da_cons de_int da_nil))))) (dss_one (ds_ret (de_lst (da_cons de_int (da_cons (de_lc rfl sc__law_operation.nd (di_seq (cF F__law_rows hr (by omega) rfl (fun σ => passAt (takes_of rfl rfl rfl rfl) σ) (da_cons (vr 1) (da_cons de_int da_nil)))) (blkOk_by (own := [("row", 4)]) (N := ["source", "many", "pick", "every", "row", "place"]) (sc := defScope s__law_operation) (by decide +kernel)) (fun _ _ _ _ _ => (gN 4 sc__law_operation.nd)) (fun _ _ _ _ _ => dts_nil) (fun _ _ _ _ _ => (cF F__law_pick hr (by omega) rfl no_pass (da_cons (vr 0) (da_cons (vr 1) da_nil)))) (by decide)) da_nil))))) dss_nil) (dss_cons (ds_if (dt_eq (Rm64 hr) (vr 2) de_int) (dss_one (ds_ret (de_lst (da_cons de_int (da_cons (de_lc rfl sc__law_operation.nd (di_seq (cF F__law_rows hr (by omega) rfl (fun σ => passAt (takes_of rfl rfl rfl rfl) σ) (da_cons (vr 1) (da_cons de_int da_nil)))) (blkOk_by (own := [("row", 4)]) (N := ["source", "many", "pick", "every", "row", "place"]) (sc := defScope s__law_operation) (by decide +kernel)) (fun _ _ _ _ _ => (gN 4 sc__law_operation.nd)) (fun _ _ _ _ _ => dts_nil) (fun _ _ _ _ _ => (de_maxL rfl rfl m.max (vr 4))) (by decide)) da_nil))))) dss_nil) (dss_cons (ds_if (dt_eq (Rm64 hr) (vr 2) de_int) (dss_one (ds_ret (de_lst (da_cons de_int (da_cons (de_lc rfl sc__law_operation.nd (di_seq (cF F__law_rows hr (by omega) rfl (fun σ => passAt (takes_of rfl rfl rfl rfl) σ) (da_cons (vr 1) (da_cons de_int da_nil)))) (blkOk_by (own := [("row", 4)]) (N := ["source", "many", "pick", "every", "row", "place"]) (sc := defScope s__law_operation) (by decide +kernel)) (fun _ _ _ _ _ => (gN 4 sc__law_operation.nd)) (fun _ _ _ _ _ => dts_nil) (fun _ _ _ _ _ => (de_minL rfl rfl m.min (vr 4))) (by decide)) da_nil))))) dss_nil) (dss_cons (ds_if (dt_eq (Rm64 hr) (vr 2) de_int) (dss_one (ds_ret (de_lst (da_cons de_int (da_cons (de_lc rfl sc__law_operation.nd (di_seq (cF F__law_rows hr (by omega) rfl (fun σ => passAt (takes_of rfl rfl rfl rfl) σ) (da_cons (vr 1) (da_cons de_int da_nil)))) (blkOk_by (own := [("row", 4)]) (N := ["source", "many", "pick", "every", "row", "place"]) (sc := defScope s__law_operation) (by decide +kernel)) (fun _ _ _ _ _ => (gN 4 sc__law_operation.nd)) (fun _ _ _ _ _ => dts_nil) (fun _ _ _ _ _ => (de_mod (de_sum rfl rfl m.sum (vr 4)) (vr 1))) (by decide)) da_nil))))) dss_nil) (dss_cons (ds_if (dt_eq (Rm64 hr) (vr 2) de_int) (dss_one (ds_ret (de_lst (da_cons de_int (da_cons (de_lc rfl sc__law_operation.nd (di_seq (cF F__law_rows hr (by omega) rfl (fun σ => passAt (takes_of rfl rfl rfl rfl) σ) (da_cons (vr 1) (da_cons de_int da_nil)))) (blkOk_by (own := [("row", 4)]) (N := ["source", "many", "pick", "every", "row", "place"]) (sc := defScope s__law_operation) (by decide +kernel)) (fun _ _ _ _ _ => (gN 4 sc__law_operation.nd)) (fun _ _ _ _ _ => dts_nil) (fun _ _ _ _ _ => (de_ix (Rm1 hr) (vr 4) de_int)) (by decide)) da_nil))))) dss_nil) (dss_cons (ds_if (dt_eq (Rm64 hr) (vr 2) de_int) (dss_one (ds_ret (de_lst (da_cons de_int (da_cons (de_lc rfl sc__law_operation.nd (di_seq (vr 3)) (blkOk_by (own := [("place", 5)]) (N := ["source", "many", "pick", "every", "row", "place"]) (sc := defScope s__law_operation) (by decide +kernel)) (fun _ _ _ _ _ => (gN 5 sc__law_operation.nd)) (fun _ _ _ _ _ => dts_nil) (fun _ _ _ _ _ => (de_mod (de_int1 rfl m.int (de_add (vr 5) de_int)) (vr 1))) (by decide)) da_nil))))) dss_nil) (dss_cons (ds_if (dt_eq (Rm64 hr) (vr 2) de_int) (dss_one (ds_ret (de_lst (da_cons de_int (da_cons (de_lc rfl sc__law_operation.nd (di_seq (vr 3)) (blkOk_by (own := [("place", 5)]) (N := ["source", "many", "pick", "every", "row", "place"]) (sc := defScope s__law_operation) (by decide +kernel)) (fun _ _ _ _ _ => (gN 5 sc__law_operation.nd)) (fun _ _ _ _ _ => dts_nil) (fun _ _ _ _ _ => (cF F__law_pick hr (by omega) rfl no_pass (da_cons (vr 0) (da_cons (vr 1) da_nil)))) (by decide)) da_nil))))) dss_nil) (dss_one (ds_ret (de_lst (da_cons de_int (da_cons (de_lst (da_cons (cF F__law_pick hr (by omega) rfl (fun σ => passAt (takes_of rfl rfl rfl rfl) σ) (da_cons (vr 0) (da_cons (vr 1) da_nil))) da_nil)) da_nil)))))))))))))), fun ds M Q cl h => ?_⟩
  obtain ⟨a0, a1, rfl, h⟩ := S2.of h

  obtain ⟨p, c, n, rfl, hp, rfl, hn, hn2, q⟩ := h
  simp? only
  have z3 : (3 : Nat) ≤ sizeLine := szl (by omega)
  have z2 : (2 : Nat) ≤ sizeLine := szl (by omega)
  have z1 : (1 : Nat) ≤ sizeLine := szl (by omega)
  have hn1 : (n + 1) ^ 2 ≤ 100000 := by
    have := Nat.pow_le_pow_left (show n + 1 ≤ 11 by omega) 2; omega
  have h100 : n ^ 2 ≤ 100 := by have := Nat.pow_le_pow_left hn2 2; omega
  refine ⟨p, c, 10, rfl, hp, by decide, fun k hk => ?_⟩
  simp? only [dLstRng]
  refine ⟨n, rfl, by omega, z3, ?_⟩
  -- a comprehension over the rows of two
  have rows2 : ∀ {te : TDE} {ρ : DEnv} {own : List Nat} (f : List Nat → Nat) (Ee : DEnv → DXK), rget ρ 1 = some (.int (n : Nat)) → (∀ row ∈ rowsN n 2, ∀ R : D → Mp → Prop, R (.int (f row : Nat)) M → gNm 4 (.lst (nL row)) (dwipe ρ own) M fun ρ2 M2 => te ρ2 M2 R) → (∀ row ∈ rowsN n 2, f row < n) →
      dLc (dIter (dCall (S__law_rows K) Ee (dCons (dVar 1) (dCons (dC (.int 2)) dNil)))) (gNm 4) dYes te own ρ M fun x M1 => 2 ≤ sizeLine ∧ ∃ M'', DL.Sub M'' M1 ∧ Q (.lst [.int 2, x]) M'' := by
    intro te ρ own f Ee hρ hte hf
    refine dLc_map (rowsN n 2) (fun r => .lst (nL r)) (fun r => .int (f r : Nat)) (fun R hR => ?_) (by rw [rowsN_length]; omega) (fun i row hi R hR => hte row (List.mem_of_getElem? hi) R hR) ?_
    · simp? only [hρ]
      exact ⟨n, 2, rfl, rfl, hn1, by omega, by omega, hR⟩
    · have := q 2 ((rowsN n 2).map f) (by omega) (by rw [List.length_map, rowsN_length]) (fun v hv => by
        obtain ⟨r, hr, rfl⟩ := List.mem_map.mp hv; exact hf r hr)
      simp only [nL, List.map_map] at this
      exact ⟨z2, M, cl, this⟩
  have pick2 : ∀ {ρ : DEnv} {own : List Nat} (it : TDA) (xs : List D) (a : Nat), a ≤ 2 → xs.length = n ^ a → (∀ R : List D → Mp → Prop, R xs M → it ρ M R) → rget (dwipe ρ own) 0 = some (.ref p) → rget (dwipe ρ own) 1 = some (.int (n : Nat)) → (∀ d, rget (rset (dwipe ρ own) 5 (some d)) 0 = some (.ref p) ∧ rget (rset (dwipe ρ own) 5 (some d)) 1 = some (.int (n : Nat))) → (∀ d, rget (rset (dwipe ρ own) 4 (some d)) 0 = some (.ref p) ∧ rget (rset (dwipe ρ own) 4 (some d)) 1 = some (.int (n : Nat))) → ∀ j, j = 4 ∨ j = 5 →
      dLc it (gNm j) dYes (dCall (S__law_pick K) NX (dCons (dVar 0) (dCons (dVar 1) dNil))) own ρ M fun x M1 => 2 ≤ sizeLine ∧ ∃ M'', DL.Sub M'' M1 ∧ Q (.lst [.int (a : Nat), x]) M'' := by
    intro ρ own it xs a ha hxl hit h0 h1 h5 h4 j hj
    unfold dLc dLcG
    refine hit _ ⟨fun i acc M1 => M1 = M ∧ ∃ vs : List Nat, acc = nL vs ∧ vs.length = i ∧ ∀ v ∈ vs, v < n, ⟨rfl, [], rfl, rfl, fun _ h => by cases h⟩, ?_, ?_⟩
    · rintro i x acc M1 hi ⟨rfl, vs, rfl, hl, hv⟩
      have hlt := (List.getElem?_eq_some_iff.mp hi).1
      have hx : rget (rset (dwipe ρ own) j (some x)) 0 = some (.ref p) ∧ rget (rset (dwipe ρ own) j (some x)) 1 = some (.int (n : Nat)) := by
        rcases hj with rfl | rfl
        · exact h4 x
        · exact h5 x
      have hna : n ^ a ≤ 100 := by
        have h1 := Nat.pow_le_pow_left hn2 a
        have h2 := Nat.pow_le_pow_right (n := 10) (by omega) ha
        omega
      simp only [dYes, dVar, dCall, dCons, dNil, gNm, hx.1, hx.2, if_true]
      refine ⟨p, c, n, rfl, hp, by omega, fun k hk => ⟨by simp only [nL, List.length_map]; exact szl' (by omega), rfl, vs ++ [k], by simp [nL], by simp [hl], fun v hm => ?_⟩⟩
      rcases List.mem_append.mp hm with h | h
      · exact hv v h
      · rw [List.mem_singleton.mp h]; omega
    · rintro acc M1 ⟨rfl, vs, rfl, hl, hv⟩
      exact ⟨z2, M1, cl, q a vs ha (by rw [hl, hxl]) hv⟩
  have er : ∀ d, rget (rset (dwipe [some (D.ref p), some (D.int (n : Nat)), some (D.int (k : Nat)), some (D.lst ((List.range n).map fun (i : Nat) => .int (i : Int))), none, none] [4]) 5 (some d)) 0 = some (.ref p) := fun _ => rfl
  have c012 : (([D.int 0, D.int 1, D.int 2].any fun y => deq y (.int (k : Nat))) = true) ↔ k < 3 := by
    simp only [List.any_cons, List.any_nil, e_deq_ii, Bool.or_false, Bool.or_eq_true, beq_iff_eq]
    omega
  refine ⟨.inl rfl, ?_⟩
  simp only [c012, beq_iff_eq]
  have rows_it : ∀ (ρ : DEnv) (Ee : DEnv → DXK), rget ρ 1 = some (.int (n : Nat)) → ∀ R : List D → Mp → Prop, R ((rowsN n 2).map fun r => .lst (nL r)) M → dIter (dCall (S__law_rows K) Ee (dCons (dVar 1) (dCons (dC (.int 2)) dNil))) ρ M R := fun ρ Ee hρ R hR => by
    simp? only [hρ]
    exact ⟨n, 2, rfl, rfl, hn1, by omega, by omega, hR⟩
  by_cases h0 : k < 3
  · rw [if_pos h0]
    exact pick2 (own := [4]) _ _ 2 (by omega) (by rw [List.length_map, rowsN_length]) (rows_it _ _ rfl) rfl rfl (fun _ => ⟨rfl, rfl⟩) (fun _ => ⟨rfl, rfl⟩) 4 (.inl rfl)
  rw [if_neg h0]
  have h2 : ∀ row ∈ rowsN n 2, row ≠ [] ∧ ∀ v ∈ row, v < n := fun row hr => ⟨(fun e => by have := (mem_rowsN.mp hr).1; rw [e] at this; cases this), (mem_rowsN.mp hr).2⟩
  split
  · refine rows2 (fun r => r.foldl max 0) _ rfl (fun row hr R hR => ?_) fun row hr => ?_
    · simp? only [oMaxL]
      refine ⟨row.map fun (x : Nat) => (x : Int), by rw [nL_int], by rw [List.length_map]; exact List.length_pos_iff.mpr (h2 row hr).1, fun m hm hmax => ?_⟩
      obtain ⟨x, hx, rfl⟩ := List.mem_map.mp hm
      have : x = row.foldl max 0 := foldl_max hx fun y hy => by have := hmax _ (List.mem_map_of_mem hy); omega
      rw [this]; exact hR
    · obtain ⟨x, hx⟩ := List.exists_mem_of_ne_nil _ (h2 row hr).1
      exact foldl_max_lt (h2 row hr).2 (by omega)
  split
  · refine rows2 (fun r => minL r) _ rfl (fun row hr R hR => ?_) fun row hr => ?_
    · simp? only [oMinL]
      refine ⟨row.map fun (x : Nat) => (x : Int), by rw [nL_int], by rw [List.length_map]; exact List.length_pos_iff.mpr (h2 row hr).1, fun m hm hmin => ?_⟩
      obtain ⟨x, hx, rfl⟩ := List.mem_map.mp hm
      have : x = minL row := minL_eq hx fun y hy => by have := hmin _ (List.mem_map_of_mem hy); omega
      rw [this]; exact hR
    · exact (h2 row hr).2 _ (minL_mem (h2 row hr).1)
  split
  · refine rows2 (fun r => r.sum % n) _ rfl (fun row hr R hR => ?_) fun row hr => Nat.mod_lt _ (by omega)
    simp? only [oSum]
    refine ⟨row.map fun (x : Nat) => (x : Int), by rw [nL_int], by omega, ?_⟩
    have e : (row.map fun (x : Nat) => (x : Int)).sum % (n : Int) = ((row.sum % n : Nat) : Int) := by
      rw [sum_cast]; exact (Int.natCast_emod _ _).symm
    rw [e]; exact hR
  split
  · refine rows2 (fun r => r.headD 0) _ rfl (fun row hr R hR => ?_) fun row hr => ?_
    · simp? only
      cases row with
      | nil => exact absurd rfl (h2 _ hr).1
      | cons x row => exact ⟨_, atI0, hR⟩
    · cases row with
      | nil => exact absurd rfl (h2 _ hr).1
      | cons x row => exact (h2 _ hr).2 x (by simp)
  split
  · refine dLc_map (List.range n) (fun y => .int (y : Nat)) (fun y => .int (((y + 1) % n : Nat) : Int)) (fun R hR => by simp? only; exact hR) (by simp; omega) (fun i y hy R hR => ?_) ?_
    · simp? only
      refine ⟨by omega, ?_⟩
      rw [show ((y : Int) + 1) % (n : Int) = (((y + 1) % n : Nat) : Int) by rw [Int.natCast_emod]; rfl]
      exact hR
    · have := q 1 ((List.range n).map fun y => (y + 1) % n) (by omega) (by simp) (fun v hv => by
        obtain ⟨y, _, rfl⟩ := List.mem_map.mp hv; exact Nat.mod_lt _ (by omega))
      simp only [nL, List.map_map] at this
      exact ⟨z2, M, cl, this⟩
  split
  · exact pick2 (own := [5]) _ ((List.range n).map fun (i : Nat) => .int (i : Int)) 1 (by omega) (by simp) (fun R hR => by simp? only; exact hR) rfl rfl (fun _ => ⟨rfl, rfl⟩) (fun _ => ⟨rfl, rfl⟩) 5 (.inr rfl)
  · refine ⟨p, c, n, rfl, hp, by omega, fun v hv => ?_⟩
    have := q 0 [v] (by omega) (by simp) (fun x hx => by rw [List.mem_singleton.mp hx]; omega)
    exact ⟨z1, z2, M, cl, this⟩
end
end EK


set_option Elab.async false
set_option linter.all false
set_option maxRecDepth 100000
set_option maxHeartbeats 400000
namespace EK
open PySem PySem.Spec PyProof.Rows L2 DL
local macro_rules
  | `(tactic| simp? only [$ls,*]) => `(tactic| simp only [$ls,*, dVar, dC, dOp, dTest, dTru, dAnd, dOr, dNot, dAndV, dOrV, dNotV, dIfE, dNil, dCons, dStar, dTup, dLst, dLstM, dFrz, dNeg, oEq, oNe, dNoO, dSoO, dSl, dNext, dSeq, dBreak, dCont, dExpr, dRet, dRetN, dIf, gNm, gNl, gCn, gTp, dAsg, dSet, dAug, dIter, dRng1, dRng2, dYes, dCallB, f1, dIsi, dJoinAt, dFmt, dJs, dJoined, dCall, dstart, rget, rset, dwipe, gSb, dApp, dPop, fMax2, fMin2, dNever, dPairs, dDispG, dDisp, dDispM, dNewK, dNewT, keyD, if_true, if_false, decide_eq_true_eq, Bool.false_eq_true, List.map_cons, List.map_nil, List.length_cons, List.length_nil, List.cons_append, List.nil_append, Nat.reduceAdd, Nat.reduceSub, List.reduceReplicate, e_vw_non, e_vw_bl, e_vw_int, e_vw_str, e_vw_scr, e_vw_lst, e_vw_tup, e_vw_dic, e_vw_dit, e_vw_obj, e_vw_ty, e_flat_non, e_isn_non, e_ty_non, e_flat_bl, e_isn_bl, e_ty_bl, e_flat_int, e_isn_int, e_ty_int, e_flat_str, e_isn_str, e_ty_str, e_flat_scr, e_isn_scr, e_ty_scr, e_flat_lst, e_isn_lst, e_ty_lst, e_flat_tup, e_isn_tup, e_ty_tup, e_flat_dic, e_isn_dic, e_ty_dic, e_flat_dit, e_isn_dit, e_flat_obj, e_isn_obj, e_flat_ty, e_isn_ty, e_add_ii, e_add_ss, e_add_ll, e_add_tt, e_iadd_ii, e_iadd_ss, e_sub_ii, e_mul_ii, e_mul_li, e_mul_si, e_fdiv_ii, e_mod_ii, e_pow_ii, e_deq_nn, e_deq_ii, e_deq_ss, e_deq_bb, e_deq_tt, e_deq_ll, e_deq_st, e_deq_ts, e_deql_n, e_deql_c, e_deql_nc, e_deql_cn, e_isN, e_ix_l, e_ix_t, e_ix_c, e_ix_s, e_ix_d, e_ix_dt, e_in_l, e_in_t, e_in_s, e_in_d, e_in_dt, e_sl_l, e_sl_s, e_len_lst, e_len_tup, e_len_s, e_len_c, e_len_d, e_int_i, e_abs_i, e_str_i, e_tup_l, e_tup_t, e_oLst0_l, e_oLst0_t, e_oLst0M_l, e_oLst0M_t, e_set_l, e_set_d, e_set_t, e_key_i, e_key_s, e_isT_non_bool, e_isT_non_int, e_isT_non_str, e_isT_non_list, e_isT_non_tuple, e_isT_non_dict, e_isT_bool_bool, e_isT_bool_int, e_isT_bool_str, e_isT_bool_list, e_isT_bool_tuple, e_isT_bool_dict, e_isT_int_bool, e_isT_int_int, e_isT_int_str, e_isT_int_list, e_isT_int_tuple, e_isT_int_dict, e_isT_str_bool, e_isT_str_int, e_isT_str_str, e_isT_str_list, e_isT_str_tuple, e_isT_str_dict, e_isT_list_bool, e_isT_list_int, e_isT_list_str, e_isT_list_list, e_isT_list_tuple, e_isT_list_dict, e_isT_tuple_bool, e_isT_tuple_int, e_isT_tuple_str, e_isT_tuple_list, e_isT_tuple_tuple, e_isT_tuple_dict, e_isT_dict_bool, e_isT_dict_int, e_isT_dict_str, e_isT_dict_list, e_isT_dict_tuple, e_isT_dict_dict, e_lt, e_le, e_gt, e_ge, e_fld, e_meth, e_inO, e_lenO, e_eqO, e_S1, e_S2, e_S3, e_S4, dChain, dPar, dIsi2, dMake, dRaise, dX0, dXN, dTryM, dMix, Bool.not_true, Bool.not_false, eq_self, true_and, and_true, true_or, and_self, e_mulM_li, e_addM_ll, dFrzE, Bool.false_bne, Bool.true_bne, dGet, dGet1, dDpop, dIdx, e_dic0, e_dic0M, e_same, sl1, dkey_s, e_cxK, dXf, e_sameP, e_addT, dFrzO, oFrz, dClr, e_lstD])
  | `(tactic| simp? only) => `(tactic| simp? only [eq_self])
section
variable {P : Program} {w : World} {K : PySem.W.Frag} {mg : Str → Option Value} {base : Heap}
/-- what is drawn -/
structure Drawn (A : Alg) (most : Nat) (sg : Option (List (Cd × Nat))) : Prop where
  nm : NamesOk A.n A.mem
  n1 : 1 ≤ A.n
  le : A.n ≤ most
  op : ∀ o ∈ A.ops, o.ar ≤ 2 ∧ o.vs.length = A.n ^ o.ar ∧ ∀ v ∈ o.vs, v < A.n
  sg : match sg with
    | none => NamesOk A.ops.length (A.ops.map (·.sg)) ∧ A.ops.length ≤ 3
    | some l => A.ops.map (fun o => (o.sg, o.ar)) = l
def sgD (l : List (Cd × Nat)) : List D := l.map fun p => .tup [.str p.1, .int (p.2 : Nat)]
def S__law_algebra (K : PySem.W.Frag) : DSp := S3 fun x y z M Q _ => ∃ (p c : Addr) (most : Nat) (sg : Option (List (Cd × Nat))), x = .ref p ∧ M p = some (.src c) ∧ y = .int (most : Nat) ∧ 1 ≤ most ∧ most ≤ 6 ∧
  (match sg with
    | none => z = .non
    | some l => z = .lst (sgD l) ∧ l.length ≤ 10 ∧ ∀ p ∈ l, p.2 ≤ 2) ∧ ∀ A : Alg, Drawn A most sg → Q A.lawD M
theorem ok__law_algebra (m : Mg K mg) {f : Addr} {fd : FuncData} (F__law_pick : Fn P w K mg base 1 "_law_pick" ["source", "many"] (S__law_pick K)) (F__law_names : Fn P w K mg base 2 "_law_names" ["source", "many"] (S__law_names K)) (F__law_operation : Fn P w K mg base 2 "_law_operation" ["source", "many"] (S__law_operation K)) (F__law_rows : Fn P w K mg base 1 "_law_rows" ["many", "arity"] (S__law_rows K)) (Fd : FunT K "_law_algebra" s__law_algebra f fd) (h : mg "_law_algebra" = some (.ref f)) : Fn P w K mg base 3 "_law_algebra" ["source", "most", "signs"] (S__law_algebra K) := by
  refine ⟨f, fd, ?_, h, Fd.kp, Fd.bindsN fun _ _ _ _ _ _ us hl => match us, hl with | [_, _, _], _ => rfl⟩
  refine dfnH Fd sc__law_algebra (fun ds M Q E h => by obtain ⟨_, _, _, rfl, _⟩ := S3.of h; rfl) fun cdv A outer s H E Ed hr => ⟨_, (dss_cons (sSet 3 sc__law_algebra.nd (de_add de_int (cF F__law_pick hr (by omega) rfl (fun σ => passAt (takes_of rfl rfl rfl rfl) σ) (da_cons (vr 0) (da_cons (vr 1) da_nil))))) (dss_cons (sSet 4 sc__law_algebra.nd (de_disp (.cons (de_str [109, 101, 109, 98, 101, 114, 115] (by kernel_rfl)) (de_frzE (cF F__law_names hr (by omega) rfl (fun σ => passAt (takes_of rfl rfl rfl rfl) σ) (da_cons (vr 0) (da_cons (vr 3) da_nil)))) (.cons (de_str [115, 105, 103, 110, 115] (by kernel_rfl)) (de_lstM da_nil) (.cons (de_str [118, 97, 108, 117, 101, 115] (by kernel_rfl)) (de_lstM da_nil) .nil))))) (dss_cons (sSet 5 sc__law_algebra.nd (de_mulM (de_lst (da_cons (de_neg de_int) da_nil)) (de_if (dt_isN (vr 2) de_non) (de_ix (Rm1 hr) (de_lst (da_cons de_int (da_cons de_int (da_cons de_int (da_cons de_int (da_cons de_int (da_cons de_int (da_cons de_int (da_cons de_int da_nil))))))))) (cF F__law_pick hr (by omega) rfl (fun σ => passAt (takes_of rfl rfl rfl rfl) σ) (da_cons (vr 0) (da_cons de_int da_nil)))) de_int))) (dss_cons (sSet 6 sc__law_algebra.nd (cF F__law_names hr (by omega) rfl (fun σ => passAt (takes_of rfl rfl rfl rfl) σ) (da_cons (vr 0) (da_cons (de_len rfl m.len (vr 5)) da_nil)))) (dss_cons (dFor1 (passes_of rfl) (di_seq (de_if (dt_isN (vr 2) de_non) (de_lst da_nil) (vr 2))) (gN 7 sc__law_algebra.nd) (dss_cons (ds_expr (de_app (vr 5) (de_ix (Rm1 hr) (vr 7) de_int))) (dss_one (ds_expr (de_app (vr 6) (de_ix (Rm1 hr) (vr 7) de_int)))))) (dss_cons (dFor1 (passes_of rfl) (di_range1 rfl m.range (de_len rfl m.len (vr 5))) (gN 8 sc__law_algebra.nd) (dss_cons (sSet 9 sc__law_algebra.nd (cF F__law_operation hr (by omega) rfl (fun σ => passAt (takes_of rfl rfl rfl rfl) σ) (da_cons (vr 0) (da_cons (vr 3) da_nil)))) (dss_cons (dFor1 (passes_of rfl) (di_range1 rfl m.range de_int) (gN 10 sc__law_algebra.nd) (dss_cons (ds_if (dt_in (Rm65 hr) (de_ix (Rm1 hr) (vr 5) (vr 8)) (de_lst (da_cons (de_neg de_int) (da_cons (de_ix (Rm1 hr) (vr 9) de_int) da_nil)))) (dss_one ds_break) dss_nil) (dss_one (sSet 9 sc__law_algebra.nd (cF F__law_operation hr (by omega) rfl (fun σ => passAt (takes_of rfl rfl rfl rfl) σ) (da_cons (vr 0) (da_cons (vr 3) da_nil))))))) (dss_cons (ds_if (dt_notIn (Rm65 hr) (de_ix (Rm1 hr) (vr 5) (vr 8)) (de_lst (da_cons (de_neg de_int) (da_cons (de_ix (Rm1 hr) (vr 9) de_int) da_nil)))) (dss_one (sSet 9 sc__law_algebra.nd (de_lst (da_cons (de_ix (Rm1 hr) (vr 5) (vr 8)) (da_cons (de_mul (de_lst (da_cons de_int da_nil)) (de_len rfl m.len (cF F__law_rows hr (by omega) rfl (fun σ => passAt (takes_of rfl rfl rfl rfl) σ) (da_cons (vr 3) (da_cons (de_ix (Rm1 hr) (vr 5) (vr 8)) da_nil))))) da_nil))))) dss_nil) (dss_cons (ds_expr (de_app (de_ix (Rm1 hr) (vr 4) (de_str [115, 105, 103, 110, 115] (by kernel_rfl))) (de_tup (da_cons (de_ix (Rm1 hr) (vr 6) (vr 8)) (da_cons (de_ix (Rm1 hr) (vr 9) de_int) da_nil))))) (dss_one (ds_expr (de_app (de_ix (Rm1 hr) (vr 4) (de_str [118, 97, 108, 117, 101, 115] (by kernel_rfl))) (de_ix (Rm1 hr) (vr 9) de_int))))))))) (dss_one (ds_ret (vr 4))))))))), fun ds M Q cl h => ?_⟩
  obtain ⟨a0, a1, a2, rfl, h⟩ := S3.of h

  obtain ⟨p, c, most, sg, rfl, hp, rfl, hm, hm2, hz, q⟩ := h
  refine dSeq_go ?_
  simp only [dVar, dC, dOp, dTest, dTru, dAnd, dOr, dNot, dAndV, dOrV, dNotV, dIfE, dNil, dCons, dStar, dTup, dLst, dLstM, dFrz, dNeg, oEq, oNe, dNoO, dSoO, dSl, dNext, dBreak, dCont, dExpr, dRet, dRetN, dIf, gNm, gNl, gCn, gTp, dAsg, dSet, dAug, dIter, dRng1, dRng2, dYes, dCallB, f1, dIsi, dJoinAt, dFmt, dJs, dJoined, dCall, dstart, rget, rset, dwipe, gSb, dApp, dPop, fMax2, fMin2, dNever, dPairs, dDispG, dDisp, dDispM, dNewK, dNewT, keyD, if_true, if_false, decide_eq_true_eq, Bool.false_eq_true, List.map_cons, List.map_nil, List.length_cons, List.length_nil, List.cons_append, List.nil_append, Nat.reduceAdd, Nat.reduceSub, List.reduceReplicate, e_vw_non, e_vw_bl, e_vw_int, e_vw_str, e_vw_scr, e_vw_lst, e_vw_tup, e_vw_dic, e_vw_dit, e_vw_obj, e_vw_ty, e_flat_non, e_isn_non, e_ty_non, e_flat_bl, e_isn_bl, e_ty_bl, e_flat_int, e_isn_int, e_ty_int, e_flat_str, e_isn_str, e_ty_str, e_flat_scr, e_isn_scr, e_ty_scr, e_flat_lst, e_isn_lst, e_ty_lst, e_flat_tup, e_isn_tup, e_ty_tup, e_flat_dic, e_isn_dic, e_ty_dic, e_flat_dit, e_isn_dit, e_flat_obj, e_isn_obj, e_flat_ty, e_isn_ty, e_add_ii, e_add_ss, e_add_ll, e_add_tt, e_iadd_ii, e_iadd_ss, e_sub_ii, e_mul_ii, e_mul_li, e_mul_si, e_fdiv_ii, e_mod_ii, e_pow_ii, e_deq_nn, e_deq_ii, e_deq_ss, e_deq_bb, e_deq_tt, e_deq_ll, e_deq_st, e_deq_ts, e_deql_n, e_deql_c, e_deql_nc, e_deql_cn, e_isN, e_ix_l, e_ix_t, e_ix_c, e_ix_s, e_ix_d, e_ix_dt, e_in_l, e_in_t, e_in_s, e_in_d, e_in_dt, e_sl_l, e_sl_s, e_len_lst, e_len_tup, e_len_s, e_len_c, e_len_d, e_int_i, e_abs_i, e_str_i, e_tup_l, e_tup_t, e_oLst0_l, e_oLst0_t, e_oLst0M_l, e_oLst0M_t, e_set_l, e_set_d, e_set_t, e_key_i, e_key_s, e_isT_non_bool, e_isT_non_int, e_isT_non_str, e_isT_non_list, e_isT_non_tuple, e_isT_non_dict, e_isT_bool_bool, e_isT_bool_int, e_isT_bool_str, e_isT_bool_list, e_isT_bool_tuple, e_isT_bool_dict, e_isT_int_bool, e_isT_int_int, e_isT_int_str, e_isT_int_list, e_isT_int_tuple, e_isT_int_dict, e_isT_str_bool, e_isT_str_int, e_isT_str_str, e_isT_str_list, e_isT_str_tuple, e_isT_str_dict, e_isT_list_bool, e_isT_list_int, e_isT_list_str, e_isT_list_list, e_isT_list_tuple, e_isT_list_dict, e_isT_tuple_bool, e_isT_tuple_int, e_isT_tuple_str, e_isT_tuple_list, e_isT_tuple_tuple, e_isT_tuple_dict, e_isT_dict_bool, e_isT_dict_int, e_isT_dict_str, e_isT_dict_list, e_isT_dict_tuple, e_isT_dict_dict, e_lt, e_le, e_gt, e_ge, e_fld, e_meth, e_inO, e_lenO, e_eqO, e_S1, e_S2, e_S3, e_S4, dChain, dPar, dIsi2, dMake, dRaise, dX0, dXN, dTryM, dMix, Bool.not_true, Bool.not_false, eq_self, true_and, and_true, true_or, and_self, e_mulM_li, e_addM_ll, dFrzE, Bool.false_bne, Bool.true_bne, dGet, dGet1, dDpop, dIdx, e_dic0, e_dic0M, e_same, sl1, dkey_s, e_cxK, dXf, e_sameP, e_addT, dFrzO, oFrz, dClr, e_lstD]
  refine ⟨p, c, most, rfl, hp, by omega, fun k hk => ?_⟩
  simp only [dVar, dC, dOp, dTest, dTru, dAnd, dOr, dNot, dAndV, dOrV, dNotV, dIfE, dNil, dCons, dStar, dTup, dLst, dLstM, dFrz, dNeg, oEq, oNe, dNoO, dSoO, dSl, dNext, dBreak, dCont, dExpr, dRet, dRetN, dIf, gNm, gNl, gCn, gTp, dAsg, dSet, dAug, dIter, dRng1, dRng2, dYes, dCallB, f1, dIsi, dJoinAt, dFmt, dJs, dJoined, dCall, dstart, rget, rset, dwipe, gSb, dApp, dPop, fMax2, fMin2, dNever, dPairs, dDispG, dDisp, dDispM, dNewK, dNewT, keyD, if_true, if_false, decide_eq_true_eq, Bool.false_eq_true, List.map_cons, List.map_nil, List.length_cons, List.length_nil, List.cons_append, List.nil_append, Nat.reduceAdd, Nat.reduceSub, List.reduceReplicate, e_vw_non, e_vw_bl, e_vw_int, e_vw_str, e_vw_scr, e_vw_lst, e_vw_tup, e_vw_dic, e_vw_dit, e_vw_obj, e_vw_ty, e_flat_non, e_isn_non, e_ty_non, e_flat_bl, e_isn_bl, e_ty_bl, e_flat_int, e_isn_int, e_ty_int, e_flat_str, e_isn_str, e_ty_str, e_flat_scr, e_isn_scr, e_ty_scr, e_flat_lst, e_isn_lst, e_ty_lst, e_flat_tup, e_isn_tup, e_ty_tup, e_flat_dic, e_isn_dic, e_ty_dic, e_flat_dit, e_isn_dit, e_flat_obj, e_isn_obj, e_flat_ty, e_isn_ty, e_add_ii, e_add_ss, e_add_ll, e_add_tt, e_iadd_ii, e_iadd_ss, e_sub_ii, e_mul_ii, e_mul_li, e_mul_si, e_fdiv_ii, e_mod_ii, e_pow_ii, e_deq_nn, e_deq_ii, e_deq_ss, e_deq_bb, e_deq_tt, e_deq_ll, e_deq_st, e_deq_ts, e_deql_n, e_deql_c, e_deql_nc, e_deql_cn, e_isN, e_ix_l, e_ix_t, e_ix_c, e_ix_s, e_ix_d, e_ix_dt, e_in_l, e_in_t, e_in_s, e_in_d, e_in_dt, e_sl_l, e_sl_s, e_len_lst, e_len_tup, e_len_s, e_len_c, e_len_d, e_int_i, e_abs_i, e_str_i, e_tup_l, e_tup_t, e_oLst0_l, e_oLst0_t, e_oLst0M_l, e_oLst0M_t, e_set_l, e_set_d, e_set_t, e_key_i, e_key_s, e_isT_non_bool, e_isT_non_int, e_isT_non_str, e_isT_non_list, e_isT_non_tuple, e_isT_non_dict, e_isT_bool_bool, e_isT_bool_int, e_isT_bool_str, e_isT_bool_list, e_isT_bool_tuple, e_isT_bool_dict, e_isT_int_bool, e_isT_int_int, e_isT_int_str, e_isT_int_list, e_isT_int_tuple, e_isT_int_dict, e_isT_str_bool, e_isT_str_int, e_isT_str_str, e_isT_str_list, e_isT_str_tuple, e_isT_str_dict, e_isT_list_bool, e_isT_list_int, e_isT_list_str, e_isT_list_list, e_isT_list_tuple, e_isT_list_dict, e_isT_tuple_bool, e_isT_tuple_int, e_isT_tuple_str, e_isT_tuple_list, e_isT_tuple_tuple, e_isT_tuple_dict, e_isT_dict_bool, e_isT_dict_int, e_isT_dict_str, e_isT_dict_list, e_isT_dict_tuple, e_isT_dict_dict, e_lt, e_le, e_gt, e_ge, e_fld, e_meth, e_inO, e_lenO, e_eqO, e_S1, e_S2, e_S3, e_S4, dChain, dPar, dIsi2, dMake, dRaise, dX0, dXN, dTryM, dMix, Bool.not_true, Bool.not_false, eq_self, true_and, and_true, true_or, and_self, e_mulM_li, e_addM_ll, dFrzE, Bool.false_bne, Bool.true_bne, dGet, dGet1, dDpop, dIdx, e_dic0, e_dic0M, e_same, sl1, dkey_s, e_cxK, dXf, e_sameP, e_addT, dFrzO, oFrz, dClr, e_lstD]
  refine dSeq_go ?_
  simp only [dVar, dC, dOp, dTest, dTru, dAnd, dOr, dNot, dAndV, dOrV, dNotV, dIfE, dNil, dCons, dStar, dTup, dLst, dLstM, dFrz, dNeg, oEq, oNe, dNoO, dSoO, dSl, dNext, dBreak, dCont, dExpr, dRet, dRetN, dIf, gNm, gNl, gCn, gTp, dAsg, dSet, dAug, dIter, dRng1, dRng2, dYes, dCallB, f1, dIsi, dJoinAt, dFmt, dJs, dJoined, dCall, dstart, rget, rset, dwipe, gSb, dApp, dPop, fMax2, fMin2, dNever, dPairs, dDispG, dDisp, dDispM, dNewK, dNewT, keyD, if_true, if_false, decide_eq_true_eq, Bool.false_eq_true, List.map_cons, List.map_nil, List.length_cons, List.length_nil, List.cons_append, List.nil_append, Nat.reduceAdd, Nat.reduceSub, List.reduceReplicate, e_vw_non, e_vw_bl, e_vw_int, e_vw_str, e_vw_scr, e_vw_lst, e_vw_tup, e_vw_dic, e_vw_dit, e_vw_obj, e_vw_ty, e_flat_non, e_isn_non, e_ty_non, e_flat_bl, e_isn_bl, e_ty_bl, e_flat_int, e_isn_int, e_ty_int, e_flat_str, e_isn_str, e_ty_str, e_flat_scr, e_isn_scr, e_ty_scr, e_flat_lst, e_isn_lst, e_ty_lst, e_flat_tup, e_isn_tup, e_ty_tup, e_flat_dic, e_isn_dic, e_ty_dic, e_flat_dit, e_isn_dit, e_flat_obj, e_isn_obj, e_flat_ty, e_isn_ty, e_add_ii, e_add_ss, e_add_ll, e_add_tt, e_iadd_ii, e_iadd_ss, e_sub_ii, e_mul_ii, e_mul_li, e_mul_si, e_fdiv_ii, e_mod_ii, e_pow_ii, e_deq_nn, e_deq_ii, e_deq_ss, e_deq_bb, e_deq_tt, e_deq_ll, e_deq_st, e_deq_ts, e_deql_n, e_deql_c, e_deql_nc, e_deql_cn, e_isN, e_ix_l, e_ix_t, e_ix_c, e_ix_s, e_ix_d, e_ix_dt, e_in_l, e_in_t, e_in_s, e_in_d, e_in_dt, e_sl_l, e_sl_s, e_len_lst, e_len_tup, e_len_s, e_len_c, e_len_d, e_int_i, e_abs_i, e_str_i, e_tup_l, e_tup_t, e_oLst0_l, e_oLst0_t, e_oLst0M_l, e_oLst0M_t, e_set_l, e_set_d, e_set_t, e_key_i, e_key_s, e_isT_non_bool, e_isT_non_int, e_isT_non_str, e_isT_non_list, e_isT_non_tuple, e_isT_non_dict, e_isT_bool_bool, e_isT_bool_int, e_isT_bool_str, e_isT_bool_list, e_isT_bool_tuple, e_isT_bool_dict, e_isT_int_bool, e_isT_int_int, e_isT_int_str, e_isT_int_list, e_isT_int_tuple, e_isT_int_dict, e_isT_str_bool, e_isT_str_int, e_isT_str_str, e_isT_str_list, e_isT_str_tuple, e_isT_str_dict, e_isT_list_bool, e_isT_list_int, e_isT_list_str, e_isT_list_list, e_isT_list_tuple, e_isT_list_dict, e_isT_tuple_bool, e_isT_tuple_int, e_isT_tuple_str, e_isT_tuple_list, e_isT_tuple_tuple, e_isT_tuple_dict, e_isT_dict_bool, e_isT_dict_int, e_isT_dict_str, e_isT_dict_list, e_isT_dict_tuple, e_isT_dict_dict, e_lt, e_le, e_gt, e_ge, e_fld, e_meth, e_inO, e_lenO, e_eqO, e_S1, e_S2, e_S3, e_S4, dChain, dPar, dIsi2, dMake, dRaise, dX0, dXN, dTryM, dMix, Bool.not_true, Bool.not_false, eq_self, true_and, and_true, true_or, and_self, e_mulM_li, e_addM_ll, dFrzE, Bool.false_bne, Bool.true_bne, dGet, dGet1, dDpop, dIdx, e_dic0, e_dic0M, e_same, sl1, dkey_s, e_cxK, dXf, e_sameP, e_addT, dFrzO, oFrz, dClr, e_lstD]
  have z0 : (0 : Nat) ≤ sizeLine := szl (by omega)
  have z1 : (1 : Nat) ≤ sizeLine := szl (by omega)
  have z8 : (8 : Nat) ≤ sizeLine := szl (by omega)
  have en : (1 : Int) + (k : Nat) = ((k + 1 : Nat) : Int) := by omega
  rw [en]
  refine ⟨p, c, k + 1, rfl, hp, rfl, by omega, fun ns hns q1 hq1 => ⟨q1, _, _, rfl, mset_same, rfl, ?_⟩⟩
  rw [mdel_mset hq1]
  refine ⟨z0, fun q2 hq2 => ⟨z0, fun q3 hq3 => ⟨_, rfl, by simp, ?_⟩⟩⟩
  have n32 : q3 ≠ q2 := fun e => by subst e; rw [mset_same] at hq3; cases hq3
  have hq3' : M q3 = none := by rw [mset_ne n32] at hq3; exact hq3
  have np : ∀ {q : Addr}, M q = none → p ≠ q := fun h e => by subst e; rw [hp] at h; cases h
  have efound : D.dic (dmerge [] [(Sum.inr [109, 101, 109, 98, 101, 114, 115], D.lst (sL ns)), (Sum.inr [115, 105, 103, 110, 115], D.ref q2), (Sum.inr [118, 97, 108, 117, 101, 115], D.ref q3)]) = .dic [(.inr kMem, .lst (sL ns)), (.inr kSig, .ref q2), (.inr kVal, .ref q3)] := rfl
  rw [efound]
  have ch : ∀ t : Nat, (t = 0 ∨ t < 8) → ∃ j : Nat, j ≤ 3 ∧ atI [D.int 1, .int 2, .int 3, .int 1, .int 2, .int 3, .int 2, .int 0] (t : Int) = some (.int (j : Nat)) := by
    intro t ht
    have : t < 8 := by omega
    match t, this with
    | 0, _ => exact ⟨1, by omega, atI_nat rfl⟩
    | 1, _ => exact ⟨2, by omega, atI_nat rfl⟩
    | 2, _ => exact ⟨3, by omega, atI_nat rfl⟩
    | 3, _ => exact ⟨1, by omega, atI_nat rfl⟩
    | 4, _ => exact ⟨2, by omega, atI_nat rfl⟩
    | 5, _ => exact ⟨3, by omega, atI_nat rfl⟩
    | 6, _ => exact ⟨2, by omega, atI_nat rfl⟩
    | 7, _ => exact ⟨0, by omega, atI_nat rfl⟩
  have repl : ∀ j : Nat, (List.replicate (Int.toNat (j : Int)) [D.int (-1)]).flatten = (List.replicate j (-1 : Int)).map D.int := fun j => by
    rw [Int.toNat_natCast]
    induction j with
    | zero => rfl
    | succ j ih => rw [List.replicate_succ, List.flatten_cons, ih, List.replicate_succ]; rfl
  refine dSeq_inv3 (fun ρ M' => ∃ (due : List Int) (nms : List Cd) (q4 q5 : Addr) (o7 : Option D), due.length = nms.length ∧ due.length ≤ 10 ∧ (∀ d ∈ due, d = -1 ∨ (0 ≤ d ∧ d ≤ 2)) ∧
      (match sg with
        | none => NamesOk due.length nms ∧ due.length ≤ 3
        | some l => nms = l.map (·.1) ∧ due = l.map fun p => (p.2 : Int)) ∧
      M q4 = none ∧ M q5 = none ∧ q4 ≠ q2 ∧ q4 ≠ q3 ∧ q5 ≠ q2 ∧ q5 ≠ q3 ∧ q5 ≠ q4 ∧ M' = ov M [(q5, .lst (sL nms)), (q4, .lst (due.map .int)), (q3, .lst []), (q2, .lst [])] ∧
      ρ = [some (.ref p), some (.int (most : Nat)), some a2, some (.int (k + 1 : Nat)), some (.dic [(.inr kMem, .lst (sL ns)), (.inr kSig, .ref q2), (.inr kVal, .ref q3)]), some (.ref q4), some (.ref q5), o7, none, none, none]) (fun R hR => ?_) fun ρ M' hI => ?_
  · -- the names and what is due
    cases sg with
    | none =>
      subst hz
      simp? only
      refine ⟨z1, ?_⟩
      refine ⟨z8, p, c, 8, rfl, by rw [mset_ne (np hq3'), mset_ne (np hq2)]; exact hp, by decide, fun t ht => ?_⟩
      obtain ⟨j, hj, ej⟩ := ch t (by omega)
      simp? only
      refine ⟨_, ej, ?_⟩
      simp? only [repl]
      refine ⟨by omega, by omega, szl (by omega), fun q4 hq4 => ?_⟩
      obtain ⟨h41, h42⟩ := ov_none (M := M) (r := [(q3, .lst []), (q2, .lst [])]) hq4
      rw [vw_l mset_same]
      simp? only [List.length_map, List.length_replicate]
      refine ⟨p, c, j, rfl, by rw [mset_ne (np h41), mset_ne (np hq3'), mset_ne (np hq2)]; exact hp, rfl, by omega, fun nms hnms q5 hq5 => ?_⟩
      obtain ⟨h51, h52⟩ := ov_none (M := M) (r := [(q4, .lst _), (q3, .lst []), (q2, .lst [])]) hq5
      refine dFor_inv ([] : List D) id (fun _ ρ M' => ρ = [some (.ref p), some (.int (most : Nat)), some .non, some (.int (k + 1 : Nat)), some (.dic [(.inr kMem, .lst (sL ns)), (.inr kSig, .ref q2), (.inr kVal, .ref q3)]), some (.ref q4), some (.ref q5), none, none, none, none] ∧ M' = ov M [(q5, .lst (sL nms)), (q4, .lst ((List.replicate j (-1 : Int)).map D.int)), (q3, .lst []), (q2, .lst [])]) (fun R hR => ?_) ⟨rfl, rfl⟩ (fun i x ρ M' h _ => by simp at h) ?_
      · simp? only
        exact ⟨z0, hR⟩
      · rintro ρ M' ⟨rfl, rfl⟩
        refine hR _ _ ⟨List.replicate j (-1), nms, q4, q5, none, by rw [List.length_replicate, hnms.len], by rw [List.length_replicate]; omega, fun d hd => .inl (List.eq_of_mem_replicate hd), ⟨by rw [List.length_replicate]; exact hnms, by rw [List.length_replicate]; exact hj⟩, h41, h51, ?_, ?_, ?_, ?_, ?_, rfl, rfl⟩
        · exact h42 q2 (by simp)
        · exact h42 q3 (by simp)
        · exact h52 q2 (by simp)
        · exact h52 q3 (by simp)
        · exact h52 q4 (by simp)
    | some l =>
      obtain ⟨rfl, hl, hl2⟩ := hz
      simp? only
      refine ⟨z1, ?_⟩
      refine ⟨by omega, by omega, by decide, fun q4 hq4 => ?_⟩
      obtain ⟨h41, h42⟩ := ov_none (M := M) (r := [(q3, .lst []), (q2, .lst [])]) hq4
      rw [vw_l mset_same]
      simp? only
      refine ⟨p, c, 0, rfl, by rw [mset_ne (np h41), mset_ne (np hq3'), mset_ne (np hq2)]; exact hp, rfl, by omega, fun nms hnms q5 hq5 => ?_⟩
      obtain ⟨h51, h52⟩ := ov_none (M := M) (r := [(q4, .lst _), (q3, .lst []), (q2, .lst [])]) hq5
      have hn0 : nms = [] := List.length_eq_zero_iff.mp hnms.len
      subst hn0
      have n54 : q5 ≠ q4 := h52 q4 (by simp)
      refine dFor_inv l (fun p => .tup [.str p.1, .int (p.2 : Nat)]) (fun i ρ M' => (∃ o7, ρ = [some (.ref p), some (.int (most : Nat)), some (.lst (sgD l)), some (.int (k + 1 : Nat)), some (.dic [(.inr kMem, .lst (sL ns)), (.inr kSig, .ref q2), (.inr kVal, .ref q3)]), some (.ref q4), some (.ref q5), o7, none, none, none]) ∧ M' = ov M [(q5, .lst (sL ((l.take i).map (·.1)))), (q4, .lst (((l.take i).map fun p => (p.2 : Int)).map D.int)), (q3, .lst []), (q2, .lst [])]) (fun R hR => ?_) ⟨⟨none, rfl⟩, rfl⟩ ?_ ?_
      · simp? only
        exact hR
      · rintro i x ρ M' hi ⟨⟨o7, rfl⟩, rfl⟩
        simp? only [dExpr, dApp]
        have s4 : ∀ (o : MO) (u v : MO), mset (ov M [(q5, u), (q4, v), (q3, .lst []), (q2, .lst [])]) q4 o = ov M [(q5, u), (q4, o), (q3, .lst []), (q2, .lst [])] := fun o u v => ov_set (l1 := [(q5, u)]) fun e he => by
          rw [List.mem_singleton.mp he]; exact Ne.symm n54
        have g4 : ∀ (u v : MO), ov M [(q5, u), (q4, v), (q3, .lst []), (q2, .lst [])] q4 = some v := fun u v => ov_at (l1 := [(q5, u)]) fun e he => by
          rw [List.mem_singleton.mp he]; exact Ne.symm n54
        have hil := (List.getElem?_eq_some_iff.mp hi).1
        refine ⟨q4, _, rfl, g4 _ _, _, atI_n (j := 1) rfl rfl, _, g4 _ _, by simp only [List.length_map, List.length_take]; exact szl' (by omega), ?_⟩
        rw [s4]
        refine ⟨q5, _, rfl, ov_get, _, atI0, _, ov_get, by rw [sL, List.length_map, List.length_map, List.length_take]; exact szl' (by omega), ⟨_, rfl⟩, ?_⟩
        show mset (mset _ q5 _) q5 _ = _
        rw [mset_mset, List.take_add_one, hi]
        simp only [Option.toList_some, List.map_append, List.map_cons, List.map_nil, sL]
        rfl
      · rintro ρ M' ⟨⟨o7, rfl⟩, rfl⟩
        rw [List.take_length]
        refine hR _ _ ⟨l.map fun p => (p.2 : Int), l.map (·.1), q4, q5, o7, by simp, by simpa using hl, fun d hd => ?_, ⟨rfl, rfl⟩, h41, h51, ?_, ?_, ?_, ?_, n54, rfl, rfl⟩
        · obtain ⟨x, hx, rfl⟩ := List.mem_map.mp hd
          have := hl2 x hx
          exact .inr ⟨by omega, by omega⟩
        · exact h42 q2 (by simp)
        · exact h42 q3 (by simp)
        · exact h52 q2 (by simp)
        · exact h52 q3 (by simp)
  · obtain ⟨due, nms, q4, q5, o7, hdl, hd10, hdv, hsg, h4, h5, n42, n43, n52, n53, n54, rfl, rfl⟩ := hI
    have g5 : ∀ (v s : MO), ov M [(q5, .lst (sL nms)), (q4, .lst (due.map .int)), (q3, v), (q2, s)] q5 = some (.lst (sL nms)) := fun _ _ => ov_get
    have g4 : ∀ (v s : MO), ov M [(q5, .lst (sL nms)), (q4, .lst (due.map .int)), (q3, v), (q2, s)] q4 = some (.lst (due.map .int)) := fun v s => ov_at (l1 := [(q5, .lst (sL nms))]) fun e he => by
      simp only [List.mem_cons, List.not_mem_nil, or_false] at he; rw [he]; exact Ne.symm n54
    have g3 : ∀ (v s : MO), ov M [(q5, .lst (sL nms)), (q4, .lst (due.map .int)), (q3, v), (q2, s)] q3 = some v := fun v s => ov_at (l1 := [(q5, .lst (sL nms)), (q4, .lst (due.map .int))]) fun e he => by
      simp only [List.mem_cons, List.not_mem_nil, or_false] at he
      rcases he with rfl | rfl
      · exact Ne.symm n53
      · exact Ne.symm n43
    have g2 : ∀ (v s : MO), ov M [(q5, .lst (sL nms)), (q4, .lst (due.map .int)), (q3, v), (q2, s)] q2 = some s := fun v s => ov_at (l1 := [(q5, .lst (sL nms)), (q4, .lst (due.map .int)), (q3, v)]) fun e he => by
      simp only [List.mem_cons, List.not_mem_nil, or_false] at he
      rcases he with rfl | rfl | rfl
      · exact Ne.symm n52
      · exact Ne.symm n42
      · exact Ne.symm n32
    have gp : ∀ (v s : MO), ov M [(q5, .lst (sL nms)), (q4, .lst (due.map .int)), (q3, v), (q2, s)] p = some (.src c) := fun v s => by
      rw [ov_old, hp]
      intro e he
      simp only [List.mem_cons, List.not_mem_nil, or_false] at he
      rcases he with rfl | rfl | rfl | rfl
      · exact np h5
      · exact np h4
      · exact np hq3'
      · exact np hq2
    have s3 : ∀ (v s o : MO), mset (ov M [(q5, .lst (sL nms)), (q4, .lst (due.map .int)), (q3, v), (q2, s)]) q3 o = ov M [(q5, .lst (sL nms)), (q4, .lst (due.map .int)), (q3, o), (q2, s)] := fun v s o => ov_set (l1 := [(q5, .lst (sL nms)), (q4, .lst (due.map .int))]) fun e he => by
      simp only [List.mem_cons, List.not_mem_nil, or_false] at he
      rcases he with rfl | rfl
      · exact Ne.symm n53
      · exact Ne.symm n43
    have s2 : ∀ (v s o : MO), mset (ov M [(q5, .lst (sL nms)), (q4, .lst (due.map .int)), (q3, v), (q2, s)]) q2 o = ov M [(q5, .lst (sL nms)), (q4, .lst (due.map .int)), (q3, v), (q2, o)] := fun v s o => ov_set (l1 := [(q5, .lst (sL nms)), (q4, .lst (due.map .int)), (q3, v)]) fun e he => by
      simp only [List.mem_cons, List.not_mem_nil, or_false] at he
      rcases he with rfl | rfl | rfl
      · exact Ne.symm n52
      · exact Ne.symm n42
      · exact Ne.symm n32
    generalize hL : (fun (v s : MO) => ov M [(q5, .lst (sL nms)), (q4, .lst (due.map .int)), (q3, v), (q2, s)]) = L
    have eL : ∀ v s, ov M [(q5, .lst (sL nms)), (q4, .lst (due.map .int)), (q3, v), (q2, s)] = L v s := fun v s => by rw [← hL]
    simp only [eL] at g2 g3 g4 g5 gp s2 s3 ⊢
    refine dSeq_inv (fun ρ M' => ∃ ops : List Op, ops.map (·.sg) = nms ∧ (∀ o ∈ ops, o.ar ≤ 2 ∧ o.vs.length = (k + 1) ^ o.ar ∧ ∀ v ∈ o.vs, v < k + 1) ∧ (∀ (i : Nat) o d, ops[i]? = some o → due[i]? = some d → d = -1 ∨ (o.ar : Int) = d) ∧ M' = L (.lst (ops.map fun o => .lst (nL o.vs))) (.lst (ops.map Op.sigD)) ∧ rget ρ 4 = some (.dic [(.inr kMem, .lst (sL ns)), (.inr kSig, .ref q2), (.inr kVal, .ref q3)])) (fun R hR => ?_) fun ρ M' hI => ?_
    · refine dFor_inv (List.range due.length) (fun i => .int (i : Nat)) (fun i ρ M' => ∃ ops : List Op, ops.length = i ∧ ops.map (·.sg) = nms.take i ∧ (∀ o ∈ ops, o.ar ≤ 2 ∧ o.vs.length = (k + 1) ^ o.ar ∧ ∀ v ∈ o.vs, v < k + 1) ∧ (∀ (j : Nat) o d, ops[j]? = some o → due[j]? = some d → d = -1 ∨ (o.ar : Int) = d) ∧ M' = L (.lst (ops.map fun o => .lst (nL o.vs))) (.lst (ops.map Op.sigD)) ∧
          ∃ o7 o8 o9 o10, ρ = [some (.ref p), some (.int (most : Nat)), some a2, some (.int (k + 1 : Nat)), some (.dic [(.inr kMem, .lst (sL ns)), (.inr kSig, .ref q2), (.inr kVal, .ref q3)]), some (.ref q4), some (.ref q5), o7, o8, o9, o10]) (fun R hR => ?_) ⟨[], rfl, rfl, (fun _ h => by cases h), (fun _ _ _ h => by simp at h), rfl, _, _, _, _, rfl⟩ ?_ ?_
      · simp? only [vw_l (g4 _ _), List.length_map, rngD_nat]
        exact ⟨by omega, by omega, hR⟩
      · rintro i x ρ M' hi ⟨ops, hol, hos, hov, hod, rfl, o7, o8, o9, o10, rfl⟩
        obtain ⟨rfl, hlt⟩ := getR hi
        have hds : due[x]? = some due[x] := List.getElem?_eq_getElem hlt
        generalize due[x] = dk at hds
        have hdk := hdv dk (List.mem_of_getElem? hds)
        have hix : atI (due.map D.int) (x : Int) = some (.int dk) := atI_nat (by rw [List.getElem?_map, hds]; rfl)
        simp only [dVar, dC, dOp, dTest, dTru, dAnd, dOr, dNot, dAndV, dOrV, dNotV, dIfE, dNil, dCons, dStar, dTup, dLst, dLstM, dFrz, dNeg, oEq, oNe, dNoO, dSoO, dSl, dNext, dBreak, dCont, dExpr, dRet, dRetN, dIf, gNm, gNl, gCn, gTp, dAsg, dSet, dAug, dIter, dRng1, dRng2, dYes, dCallB, f1, dIsi, dJoinAt, dFmt, dJs, dJoined, dCall, dstart, rget, rset, dwipe, gSb, dApp, dPop, fMax2, fMin2, dNever, dPairs, dDispG, dDisp, dDispM, dNewK, dNewT, keyD, if_true, if_false, decide_eq_true_eq, Bool.false_eq_true, List.map_cons, List.map_nil, List.length_cons, List.length_nil, List.cons_append, List.nil_append, Nat.reduceAdd, Nat.reduceSub, List.reduceReplicate, e_vw_non, e_vw_bl, e_vw_int, e_vw_str, e_vw_scr, e_vw_lst, e_vw_tup, e_vw_dic, e_vw_dit, e_vw_obj, e_vw_ty, e_flat_non, e_isn_non, e_ty_non, e_flat_bl, e_isn_bl, e_ty_bl, e_flat_int, e_isn_int, e_ty_int, e_flat_str, e_isn_str, e_ty_str, e_flat_scr, e_isn_scr, e_ty_scr, e_flat_lst, e_isn_lst, e_ty_lst, e_flat_tup, e_isn_tup, e_ty_tup, e_flat_dic, e_isn_dic, e_ty_dic, e_flat_dit, e_isn_dit, e_flat_obj, e_isn_obj, e_flat_ty, e_isn_ty, e_add_ii, e_add_ss, e_add_ll, e_add_tt, e_iadd_ii, e_iadd_ss, e_sub_ii, e_mul_ii, e_mul_li, e_mul_si, e_fdiv_ii, e_mod_ii, e_pow_ii, e_deq_nn, e_deq_ii, e_deq_ss, e_deq_bb, e_deq_tt, e_deq_ll, e_deq_st, e_deq_ts, e_deql_n, e_deql_c, e_deql_nc, e_deql_cn, e_isN, e_ix_l, e_ix_t, e_ix_c, e_ix_s, e_ix_d, e_ix_dt, e_in_l, e_in_t, e_in_s, e_in_d, e_in_dt, e_sl_l, e_sl_s, e_len_lst, e_len_tup, e_len_s, e_len_c, e_len_d, e_int_i, e_abs_i, e_str_i, e_tup_l, e_tup_t, e_oLst0_l, e_oLst0_t, e_oLst0M_l, e_oLst0M_t, e_set_l, e_set_d, e_set_t, e_key_i, e_key_s, e_isT_non_bool, e_isT_non_int, e_isT_non_str, e_isT_non_list, e_isT_non_tuple, e_isT_non_dict, e_isT_bool_bool, e_isT_bool_int, e_isT_bool_str, e_isT_bool_list, e_isT_bool_tuple, e_isT_bool_dict, e_isT_int_bool, e_isT_int_int, e_isT_int_str, e_isT_int_list, e_isT_int_tuple, e_isT_int_dict, e_isT_str_bool, e_isT_str_int, e_isT_str_str, e_isT_str_list, e_isT_str_tuple, e_isT_str_dict, e_isT_list_bool, e_isT_list_int, e_isT_list_str, e_isT_list_list, e_isT_list_tuple, e_isT_list_dict, e_isT_tuple_bool, e_isT_tuple_int, e_isT_tuple_str, e_isT_tuple_list, e_isT_tuple_tuple, e_isT_tuple_dict, e_isT_dict_bool, e_isT_dict_int, e_isT_dict_str, e_isT_dict_list, e_isT_dict_tuple, e_isT_dict_dict, e_lt, e_le, e_gt, e_ge, e_fld, e_meth, e_inO, e_lenO, e_eqO, e_S1, e_S2, e_S3, e_S4, dChain, dPar, dIsi2, dMake, dRaise, dX0, dXN, dTryM, dMix, Bool.not_true, Bool.not_false, eq_self, true_and, and_true, true_or, and_self, e_mulM_li, e_addM_ll, dFrzE, Bool.false_bne, Bool.true_bne, dGet, dGet1, dDpop, dIdx, e_dic0, e_dic0M, e_same, sl1, dkey_s, e_cxK, dXf, e_sameP, e_addT, dFrzO, oFrz, dClr, e_lstD]
        refine dSeq_go ?_
        simp only [dVar, dC, dOp, dTest, dTru, dAnd, dOr, dNot, dAndV, dOrV, dNotV, dIfE, dNil, dCons, dStar, dTup, dLst, dLstM, dFrz, dNeg, oEq, oNe, dNoO, dSoO, dSl, dNext, dBreak, dCont, dExpr, dRet, dRetN, dIf, gNm, gNl, gCn, gTp, dAsg, dSet, dAug, dIter, dRng1, dRng2, dYes, dCallB, f1, dIsi, dJoinAt, dFmt, dJs, dJoined, dCall, dstart, rget, rset, dwipe, gSb, dApp, dPop, fMax2, fMin2, dNever, dPairs, dDispG, dDisp, dDispM, dNewK, dNewT, keyD, if_true, if_false, decide_eq_true_eq, Bool.false_eq_true, List.map_cons, List.map_nil, List.length_cons, List.length_nil, List.cons_append, List.nil_append, Nat.reduceAdd, Nat.reduceSub, List.reduceReplicate, e_vw_non, e_vw_bl, e_vw_int, e_vw_str, e_vw_scr, e_vw_lst, e_vw_tup, e_vw_dic, e_vw_dit, e_vw_obj, e_vw_ty, e_flat_non, e_isn_non, e_ty_non, e_flat_bl, e_isn_bl, e_ty_bl, e_flat_int, e_isn_int, e_ty_int, e_flat_str, e_isn_str, e_ty_str, e_flat_scr, e_isn_scr, e_ty_scr, e_flat_lst, e_isn_lst, e_ty_lst, e_flat_tup, e_isn_tup, e_ty_tup, e_flat_dic, e_isn_dic, e_ty_dic, e_flat_dit, e_isn_dit, e_flat_obj, e_isn_obj, e_flat_ty, e_isn_ty, e_add_ii, e_add_ss, e_add_ll, e_add_tt, e_iadd_ii, e_iadd_ss, e_sub_ii, e_mul_ii, e_mul_li, e_mul_si, e_fdiv_ii, e_mod_ii, e_pow_ii, e_deq_nn, e_deq_ii, e_deq_ss, e_deq_bb, e_deq_tt, e_deq_ll, e_deq_st, e_deq_ts, e_deql_n, e_deql_c, e_deql_nc, e_deql_cn, e_isN, e_ix_l, e_ix_t, e_ix_c, e_ix_s, e_ix_d, e_ix_dt, e_in_l, e_in_t, e_in_s, e_in_d, e_in_dt, e_sl_l, e_sl_s, e_len_lst, e_len_tup, e_len_s, e_len_c, e_len_d, e_int_i, e_abs_i, e_str_i, e_tup_l, e_tup_t, e_oLst0_l, e_oLst0_t, e_oLst0M_l, e_oLst0M_t, e_set_l, e_set_d, e_set_t, e_key_i, e_key_s, e_isT_non_bool, e_isT_non_int, e_isT_non_str, e_isT_non_list, e_isT_non_tuple, e_isT_non_dict, e_isT_bool_bool, e_isT_bool_int, e_isT_bool_str, e_isT_bool_list, e_isT_bool_tuple, e_isT_bool_dict, e_isT_int_bool, e_isT_int_int, e_isT_int_str, e_isT_int_list, e_isT_int_tuple, e_isT_int_dict, e_isT_str_bool, e_isT_str_int, e_isT_str_str, e_isT_str_list, e_isT_str_tuple, e_isT_str_dict, e_isT_list_bool, e_isT_list_int, e_isT_list_str, e_isT_list_list, e_isT_list_tuple, e_isT_list_dict, e_isT_tuple_bool, e_isT_tuple_int, e_isT_tuple_str, e_isT_tuple_list, e_isT_tuple_tuple, e_isT_tuple_dict, e_isT_dict_bool, e_isT_dict_int, e_isT_dict_str, e_isT_dict_list, e_isT_dict_tuple, e_isT_dict_dict, e_lt, e_le, e_gt, e_ge, e_fld, e_meth, e_inO, e_lenO, e_eqO, e_S1, e_S2, e_S3, e_S4, dChain, dPar, dIsi2, dMake, dRaise, dX0, dXN, dTryM, dMix, Bool.not_true, Bool.not_false, eq_self, true_and, and_true, true_or, and_self, e_mulM_li, e_addM_ll, dFrzE, Bool.false_bne, Bool.true_bne, dGet, dGet1, dDpop, dIdx, e_dic0, e_dic0M, e_same, sl1, dkey_s, e_cxK, dXf, e_sameP, e_addT, dFrzO, oFrz, dClr, e_lstD]
        refine ⟨p, c, k + 1, rfl, gp _ _, rfl, by omega, by omega, fun ar vs har hvl hvv => ?_⟩
        -- a valid draw at slot 9
        refine dSeq_inv (fun ρ M' => M' = L (.lst (ops.map fun o => .lst (nL o.vs))) (.lst (ops.map Op.sigD)) ∧ ∃ (ar : Nat) (vs : List Nat) (o10 : Option D), ar ≤ 2 ∧ vs.length = (k + 1) ^ ar ∧ (∀ v ∈ vs, v < k + 1) ∧ ρ = [some (.ref p), some (.int (most : Nat)), some a2, some (.int (k + 1 : Nat)), some (.dic [(.inr kMem, .lst (sL ns)), (.inr kSig, .ref q2), (.inr kVal, .ref q3)]), some (.ref q4), some (.ref q5), o7, some (.int (x : Nat)), some (.lst [.int (ar : Nat), .lst (nL vs)]), o10]) (fun R hR => ?_) fun ρ M' hI => ?_
        · have mem1 : ∀ ar : Nat, ([D.int (-1), .int (ar : Nat)].any fun y => deq y (.int dk)) = decide (dk = -1 ∨ (ar : Int) = dk) := fun ar => by
            simp only [List.any_cons, List.any_nil, e_deq_ii, Bool.or_false]
            by_cases h1 : dk = -1 <;> by_cases h2 : (ar : Int) = dk <;> simp [h1, h2]
            all_goals omega
          refine dFor_inv (List.range 40) (fun i => .int (i : Nat)) (fun i ρ M' => M' = L (.lst (ops.map fun o => .lst (nL o.vs))) (.lst (ops.map Op.sigD)) ∧ ∃ (ar : Nat) (vs : List Nat) (o10 : Option D), ar ≤ 2 ∧ vs.length = (k + 1) ^ ar ∧ (∀ v ∈ vs, v < k + 1) ∧ ρ = [some (.ref p), some (.int (most : Nat)), some a2, some (.int (k + 1 : Nat)), some (.dic [(.inr kMem, .lst (sL ns)), (.inr kSig, .ref q2), (.inr kVal, .ref q3)]), some (.ref q4), some (.ref q5), o7, some (.int (x : Nat)), some (.lst [.int (ar : Nat), .lst (nL vs)]), o10]) (fun R hR => ?_) ⟨rfl, ar, vs, _, har, hvl, hvv, rfl⟩ ?_ fun ρ M' h => hR ρ M' h
          · simp? only
            exact ⟨by omega, by omega, by rw [show rngD 0 (Int.toNat 40) = (List.range 40).map fun i => .int (i : Nat) from rngD_nat 40]; exact hR⟩
          · rintro i y ρ M' hi ⟨rfl, ar, vs, o10, har, hvl, hvv, rfl⟩
            have z2 : (2 : Nat) ≤ sizeLine := szl (by omega)
            simp? only [vw_l (g4 _ _)]
            refine ⟨_, hix, _, atI0, z2, .inl ⟨rfl, rfl⟩, ?_⟩
            simp? only [mem1]
            split
            · exact hR _ _ ⟨rfl, ar, vs, _, har, hvl, hvv, rfl⟩
            · refine ⟨p, c, k + 1, rfl, gp _ _, rfl, by omega, by omega, fun ar vs har hvl hvv => ⟨rfl, ar, vs, _, har, hvl, hvv, rfl⟩⟩
        · obtain ⟨rfl, ar, vs, o10, har, hvl, hvv, rfl⟩ := hI
          refine dSeq_inv (fun ρ M' => M' = L (.lst (ops.map fun o => .lst (nL o.vs))) (.lst (ops.map Op.sigD)) ∧ ∃ (ar : Nat) (vs : List Nat) (o10 : Option D), ar ≤ 2 ∧ vs.length = (k + 1) ^ ar ∧ (∀ v ∈ vs, v < k + 1) ∧ (dk = -1 ∨ (ar : Int) = dk) ∧ ρ = [some (.ref p), some (.int (most : Nat)), some a2, some (.int (k + 1 : Nat)), some (.dic [(.inr kMem, .lst (sL ns)), (.inr kSig, .ref q2), (.inr kVal, .ref q3)]), some (.ref q4), some (.ref q5), o7, some (.int (x : Nat)), some (.lst [.int (ar : Nat), .lst (nL vs)]), o10]) (fun R hR => ?_) fun ρ M' hI => ?_
          · have z2 : (2 : Nat) ≤ sizeLine := szl (by omega)
            have mem1 : ∀ ar : Nat, ([D.int (-1), .int (ar : Nat)].any fun y => deq y (.int dk)) = decide (dk = -1 ∨ (ar : Int) = dk) := fun ar => by
              simp only [List.any_cons, List.any_nil, e_deq_ii, Bool.or_false]
              by_cases h1 : dk = -1 <;> by_cases h2 : (ar : Int) = dk <;> simp [h1, h2]
              all_goals omega
            simp? only [vw_l (g4 _ _)]
            refine ⟨_, hix, _, atI0, z2, .inl ⟨rfl, rfl⟩, ?_⟩
            simp? only [mem1]
            by_cases hin : dk = -1 ∨ (ar : Int) = dk
            · rw [decide_eq_true hin]
              exact hR _ _ ⟨rfl, ar, vs, _, har, hvl, hvv, hin, rfl⟩
            · rw [decide_eq_false hin]
              have hd0 : 0 ≤ dk ∧ dk ≤ 2 := by omega
              obtain ⟨dn, rfl⟩ : ∃ dn : Nat, dk = (dn : Int) := ⟨dk.toNat, by omega⟩
              have hpw : (k + 1 + 1) ^ dn ≤ 100000 := by
                have h1 : (k + 1 + 1) ^ dn ≤ 8 ^ dn := Nat.pow_le_pow_left (by omega) dn
                have h2 : 8 ^ dn ≤ 8 ^ 2 := Nat.pow_le_pow_right (by omega) (by omega)
                omega
              have hpw2 : (k + 1) ^ dn ≤ 100000 := Nat.le_trans (Nat.pow_le_pow_left (by omega) dn) hpw
              simp? only
              refine ⟨_, hix, z1, _, hix, k + 1, dn, rfl, rfl, hpw, by omega, by omega, ?_⟩
              simp? only [List.length_map, rowsN_length]
              refine ⟨by omega, by omega, by rw [Int.toNat_natCast]; exact szl (by omega), z2, ?_⟩
              have er : (List.replicate (Int.toNat (((k + 1) ^ dn : Nat) : Int)) [D.int 0]).flatten = nL (List.replicate ((k + 1) ^ dn) 0) := by
                rw [Int.toNat_natCast]
                induction (k + 1) ^ dn with
                | zero => rfl
                | succ j ih => rw [List.replicate_succ, List.flatten_cons, ih, List.replicate_succ]; rfl
              rw [er]
              exact hR _ _ ⟨rfl, dn, List.replicate ((k + 1) ^ dn) 0, _, by omega, by simp, fun v hv => by rw [List.eq_of_mem_replicate hv]; omega, .inr rfl, rfl⟩
          · obtain ⟨rfl, ar, vs, o10, har, hvl, hvv, hin, rfl⟩ := hI
            have hnl : x < nms.length := by omega
            have hns2 : nms[x]? = some nms[x] := List.getElem?_eq_getElem hnl
            generalize nms[x] = nx at hns2
            have z2 : (2 : Nat) ≤ sizeLine := szl (by omega)
            simp? only [dExpr, dApp, dfind_s]
            refine ⟨_, rfl, q2, _, rfl, g2 _ _, ?_⟩
            simp? only [vw_l (g5 _ _)]
            refine ⟨_, atI_nat (by rw [sL, List.getElem?_map, hns2]; rfl), _, atI0, z2, _, g2 _ _, by rw [List.length_map]; exact szl' (by omega), ?_⟩
            rw [s2]
            refine ⟨_, rfl, q3, _, rfl, g3 _ _, _, atI_n (j := 1) rfl rfl, _, g3 _ _, by rw [List.length_map]; exact szl' (by omega), ?_⟩
            rw [s3]
            refine ⟨ops ++ [⟨nx, ar, vs⟩], by simp [hol], ?_, fun o ho => ?_, fun j o d ho hd => ?_, by simp [Op.sigD], ⟨_, _, _, _, rfl⟩⟩
            · rw [List.map_append, hos, List.take_add_one, hns2]; rfl
            · rcases List.mem_append.mp ho with h | h
              · exact hov o h
              · rw [List.mem_singleton.mp h]; exact ⟨har, hvl, hvv⟩
            · by_cases hj : j < ops.length
              · rw [List.getElem?_append_left hj] at ho; exact hod j o d ho hd
              · rw [List.getElem?_append_right (by omega)] at ho
                have hj0 : j - ops.length = 0 := by
                  have := (List.getElem?_eq_some_iff.mp ho).1
                  simpa using this
                rw [hj0] at ho
                simp only [List.getElem?_cons_zero, Option.some.injEq] at ho
                subst ho
                have : j = x := by omega
                subst this
                rw [hds] at hd
                cases hd
                exact hin
      · rintro ρ M' ⟨ops, hol, hos, hov, hod, rfl, o7, o8, o9, o10, rfl⟩
        rw [List.length_range] at hol hos
        refine hR _ _ ⟨ops, by rw [hos, hdl, List.take_length], hov, hod, rfl, rfl⟩
    · obtain ⟨ops, hos, hov, hod, rfl, hρ⟩ := hI
      simp? only [hρ]
      subst hos
      let A : Alg := ⟨ns, ops⟩
      have hA : Drawn A most sg := by
        refine ⟨by have := hns.len; exact ⟨rfl, hns.nd, hns.nm⟩, by show 1 ≤ ns.length; rw [hns.len]; omega, by show ns.length ≤ most; rw [hns.len]; omega, fun o ho => ?_, ?_⟩
        · have e : A.n = k + 1 := hns.len
          rw [e]; exact hov o ho
        · cases sg with
          | none =>
            simp only at hsg
            have e : due.length = ops.length := by rw [hdl, List.length_map]
            rw [e] at hsg
            exact hsg
          | some l =>
            simp only at hsg
            obtain ⟨e1, e2⟩ := hsg
            show ops.map (fun o => (o.sg, o.ar)) = l
            apply List.ext_getElem?
            intro i
            have f1 : (ops.map (·.sg))[i]? = (l.map (·.1))[i]? := by rw [e1]
            have f2 : due[i]? = (l.map fun p => (p.2 : Int))[i]? := by rw [e2]
            rw [List.getElem?_map, List.getElem?_map] at f1
            rw [List.getElem?_map] at f2 ⊢
            cases ho : ops[i]? with
            | none =>
              rw [ho] at f1
              cases hl : l[i]? with
              | none => rfl
              | some x => rw [hl] at f1; cases f1
            | some o =>
              rw [ho] at f1
              cases hl : l[i]? with
              | none => rw [hl] at f1; cases f1
              | some x =>
                rw [hl] at f1 f2
                have h3 := hod i o _ ho f2
                simp only [Option.map_some, Option.some.injEq] at f1
                obtain ⟨x1, x2⟩ := x
                simp only at f1 h3
                simp only [Option.map_some, f1]
                rw [show o.ar = x2 by omega]
      refine ⟨A.lawD, M, ?_, q A hA⟩
      have n23 : q2 ≠ q3 := Ne.symm n32
      have x1 : GhD K (.dic ([(Sum.inr kMem, D.lst (sL ns))] ++ (Sum.inr kSig, D.ref q2) :: [(Sum.inr kVal, D.ref q3)])) (L (.lst (ops.map fun o => .lst (nL o.vs))) (.lst (ops.map Op.sigD))) _ _ := GhD.dic (GhD.frz (g2 _ _) rfl)
      have x2 : GhD K (.dic ([(Sum.inr kMem, D.lst (sL ns)), (Sum.inr kSig, D.lst (ops.map Op.sigD))] ++ (Sum.inr kVal, D.ref q3) :: [])) (mdel (L (.lst (ops.map fun o => .lst (nL o.vs))) (.lst (ops.map Op.sigD))) q2) _ _ := GhD.dic (GhD.frz (by rw [mdel_ne n32]; exact g3 _ _) rfl)
      refine (x1.trans x2).trans (GhD.sub ?_)
      refine Sub.del (Sub.del ?_ hq2) hq3'
      rw [← eL]
      refine ov_sub cl fun e he => ?_
      simp only [List.mem_cons, List.not_mem_nil, or_false] at he
      rcases he with rfl | rfl | rfl | rfl
      · exact h5
      · exact h4
      · exact hq3'
      · exact hq2
end
end EK


set_option Elab.async false
set_option linter.all false
set_option maxRecDepth 100000
set_option maxHeartbeats 400000
namespace EK
open PySem PySem.Spec PyProof.Rows L2 DL
local macro_rules
  | `(tactic| simp? only [$ls,*]) => `(tactic| simp only [$ls,*, dVar, dC, dOp, dTest, dTru, dAnd, dOr, dNot, dAndV, dOrV, dNotV, dIfE, dNil, dCons, dStar, dTup, dLst, dLstM, dFrz, dNeg, oEq, oNe, dNoO, dSoO, dSl, dNext, dSeq, dBreak, dCont, dExpr, dRet, dRetN, dIf, gNm, gNl, gCn, gTp, dAsg, dSet, dAug, dIter, dRng1, dRng2, dYes, dCallB, f1, dIsi, dJoinAt, dFmt, dJs, dJoined, dCall, dstart, rget, rset, dwipe, gSb, dApp, dPop, fMax2, fMin2, dNever, dPairs, dDispG, dDisp, dDispM, dNewK, dNewT, keyD, if_true, if_false, decide_eq_true_eq, Bool.false_eq_true, List.map_cons, List.map_nil, List.length_cons, List.length_nil, List.cons_append, List.nil_append, Nat.reduceAdd, Nat.reduceSub, List.reduceReplicate, e_vw_non, e_vw_bl, e_vw_int, e_vw_str, e_vw_scr, e_vw_lst, e_vw_tup, e_vw_dic, e_vw_dit, e_vw_obj, e_vw_ty, e_flat_non, e_isn_non, e_ty_non, e_flat_bl, e_isn_bl, e_ty_bl, e_flat_int, e_isn_int, e_ty_int, e_flat_str, e_isn_str, e_ty_str, e_flat_scr, e_isn_scr, e_ty_scr, e_flat_lst, e_isn_lst, e_ty_lst, e_flat_tup, e_isn_tup, e_ty_tup, e_flat_dic, e_isn_dic, e_ty_dic, e_flat_dit, e_isn_dit, e_flat_obj, e_isn_obj, e_flat_ty, e_isn_ty, e_add_ii, e_add_ss, e_add_ll, e_add_tt, e_iadd_ii, e_iadd_ss, e_sub_ii, e_mul_ii, e_mul_li, e_mul_si, e_fdiv_ii, e_mod_ii, e_pow_ii, e_deq_nn, e_deq_ii, e_deq_ss, e_deq_bb, e_deq_tt, e_deq_ll, e_deq_st, e_deq_ts, e_deql_n, e_deql_c, e_deql_nc, e_deql_cn, e_isN, e_ix_l, e_ix_t, e_ix_c, e_ix_s, e_ix_d, e_ix_dt, e_in_l, e_in_t, e_in_s, e_in_d, e_in_dt, e_sl_l, e_sl_s, e_len_lst, e_len_tup, e_len_s, e_len_c, e_len_d, e_int_i, e_abs_i, e_str_i, e_tup_l, e_tup_t, e_oLst0_l, e_oLst0_t, e_oLst0M_l, e_oLst0M_t, e_set_l, e_set_d, e_set_t, e_key_i, e_key_s, e_isT_non_bool, e_isT_non_int, e_isT_non_str, e_isT_non_list, e_isT_non_tuple, e_isT_non_dict, e_isT_bool_bool, e_isT_bool_int, e_isT_bool_str, e_isT_bool_list, e_isT_bool_tuple, e_isT_bool_dict, e_isT_int_bool, e_isT_int_int, e_isT_int_str, e_isT_int_list, e_isT_int_tuple, e_isT_int_dict, e_isT_str_bool, e_isT_str_int, e_isT_str_str, e_isT_str_list, e_isT_str_tuple, e_isT_str_dict, e_isT_list_bool, e_isT_list_int, e_isT_list_str, e_isT_list_list, e_isT_list_tuple, e_isT_list_dict, e_isT_tuple_bool, e_isT_tuple_int, e_isT_tuple_str, e_isT_tuple_list, e_isT_tuple_tuple, e_isT_tuple_dict, e_isT_dict_bool, e_isT_dict_int, e_isT_dict_str, e_isT_dict_list, e_isT_dict_tuple, e_isT_dict_dict, e_lt, e_le, e_gt, e_ge, e_fld, e_meth, e_inO, e_lenO, e_eqO, e_S1, e_S2, e_S3, e_S4, dChain, dPar, dIsi2, dMake, dRaise, dX0, dXN, dTryM, dMix, Bool.not_true, Bool.not_false, eq_self, true_and, and_true, true_or, and_self, e_mulM_li, e_addM_ll, dFrzE, Bool.false_bne, Bool.true_bne, dGet, dGet1, dDpop, dIdx, e_dic0, e_dic0M, e_same, sl1, dkey_s, e_cxK, dXf, e_sameP, e_addT, dFrzO, oFrz, dClr, e_lstD])
  | `(tactic| simp? only) => `(tactic| simp? only [eq_self])
section
variable {P : Program} {w : World} {K : PySem.W.Frag} {mg : Str → Option Value} {base : Heap}
theorem Drawn.good {A : Alg} {most : Nat} {sg : Option (List (Cd × Nat))} (h : Drawn A most sg) (hm : most ≤ 6) (hs : ∀ l, sg = some l → l.length ≤ 5 ∧ (l.map (·.1)).Nodup ∧ ∀ p ∈ l, isWord (.str p.1) = true ∧ Wrd p.1) : A.Good := by
  have nn : (A.ops.map (·.sg)).Nodup ∧ A.ops.length ≤ 5 ∧ ∀ o ∈ A.ops, isWord (.str o.sg) = true ∧ Wrd o.sg := by
    have hsg := h.sg
    cases sg with
    | none =>
      obtain ⟨h1, h2⟩ := hsg
      refine ⟨h1.nd, by omega, fun o ho => ?_⟩
      have := (h1.nm _ (List.mem_map_of_mem (f := (·.sg)) ho)).word
      exact ⟨this.1, this.2.2⟩
    | some l =>
      obtain ⟨a, b, c⟩ := hs l rfl
      have e : A.ops.map (·.sg) = l.map (·.1) := by rw [← hsg, List.map_map]; rfl
      refine ⟨by rw [e]; exact b, by rw [← hsg, List.length_map] at a; exact a, fun o ho => ?_⟩
      have : (o.sg, o.ar) ∈ l := by rw [← hsg]; exact List.mem_map_of_mem (f := fun o : Op => (o.sg, o.ar)) ho
      exact c _ this
  have hle := h.le
  refine ⟨⟨fun e => ?_, h.nm.nd, fun m hm => (h.nm.nm m hm).word.2.2, by omega, by omega, nn.1, fun o ho => ?_⟩, by omega, nn.2.1, fun m hm => isMem_of (h.nm.nm m hm).word.1, fun o ho => (nn.2.2 o ho).1⟩
  · have := h.n1
    unfold Alg.n at this
    rw [e] at this
    simp at this
  · obtain ⟨h1, h2, h3⟩ := h.op o ho
    exact ⟨(nn.2.2 o ho).2, h1, h2, h3⟩
theorem lk_mem (A : Alg) : dfind A.lawD (.str [109, 101, 109, 98, 101, 114, 115]) = some (some (.lst (sL A.mem))) := rfl
theorem lk_sig (A : Alg) : dfind A.lawD (.str [115, 105, 103, 110, 115]) = some (some (.lst (A.ops.map Op.sigD))) := rfl
theorem lk_val (A : Alg) : dfind A.lawD (.str [118, 97, 108, 117, 101, 115]) = some (some (.lst (A.ops.map fun o => .lst (nL o.vs)))) := rfl
theorem ix_lawD {A : Alg} {x : D} {M : Mp} {Q : D → Mp → Prop} : oIx A.lawD x M Q = ∃ d, dfind A.lawD x = some (some d) ∧ Q d M := e_ix_d
theorem vw_lawD {A : Alg} {M : Mp} : vw M A.lawD = A.lawD := rfl
def S__law_told (K : PySem.W.Frag) : DSp := S1 fun x M Q _ => ∃ A : Alg, x = A.lawD ∧ A.Ok ∧ Q (.lst (A.tolB false)) M
theorem ok__law_told (m : Mg K mg) {f : Addr} {fd : FuncData}  (Fd : FunT K "_law_told" s__law_told f fd) (h : mg "_law_told" = some (.ref f)) : Fn P w K mg base 1 "_law_told" ["algebra"] (S__law_told K) := by
  refine ⟨f, fd, ?_, h, Fd.kp, Fd.bindsN fun _ _ _ _ _ _ us hl => match us, hl with | [_], _ => rfl⟩
  refine dfn Fd sc__law_told (fun ds M Q E h => by obtain ⟨_, rfl, _⟩ := S1.of h; rfl) fun cdv A outer s H E Ed hr => ⟨_, (dss_cons (sSet 1 sc__law_told.nd (de_lstM da_nil)) (dss_cons (dFor1 (passes_of rfl) (di_range1 rfl m.range (de_len rfl m.len (de_ix (Rm1 hr) (vr 0) (de_str [115, 105, 103, 110, 115] (by kernel_rfl))))) (gN 2 sc__law_told.nd) (dss_cons (ds_setLc (i := 3) rfl sc__law_told.nd rfl rfl (sw_true rfl rfl rfl (by decide +kernel)) (di_seq (de_ix (Rm1 hr) (de_ix (Rm1 hr) (vr 0) (de_str [118, 97, 108, 117, 101, 115] (by kernel_rfl))) (vr 2))) (blkOk_by (own := [("place", 4)]) (N := ["algebra", "found", "k", "values", "place"]) (sc := defScope s__law_told) (by decide +kernel)) (fun _ _ _ _ _ => (gN 4 sc__law_told.nd)) (fun _ _ _ _ _ => dts_nil) (fun _ _ _ _ _ => (de_ix (Rm1 hr) (de_ix (Rm1 hr) (vr 0) (de_str [109, 101, 109, 98, 101, 114, 115] (by kernel_rfl))) (vr 4))) (by decide)) (dss_one (ds_expr (de_app (vr 1) (de_tup (da_cons (de_ix (Rm1 hr) (de_ix (Rm1 hr) (de_ix (Rm1 hr) (vr 0) (de_str [115, 105, 103, 110, 115] (by kernel_rfl))) (vr 2)) de_int) (da_cons (de_ix (Rm1 hr) (de_ix (Rm1 hr) (de_ix (Rm1 hr) (vr 0) (de_str [115, 105, 103, 110, 115] (by kernel_rfl))) (vr 2)) de_int) (da_cons (vr 3) da_nil))))))))) (dss_one (ds_ret (de_frzE (vr 1)))))), fun ds M Q cl h => ?_⟩
  obtain ⟨a0, rfl, h⟩ := S1.of h

  obtain ⟨A, rfl, ok, q⟩ := h
  have lo := ok.lo
  simp? only
  refine ⟨szl (by omega), fun p hp => ?_⟩
  refine gen_nx (t := dFor _ _ _) fun R hR => ?_
  refine dFor_inv (List.range A.ops.length) (fun i => .int (i : Nat)) (fun i ρ M' => M' = mset M p (.lst ((A.tolB false).take i)) ∧ ∃ o2 o3 o4, ρ = [some A.lawD, some (.ref p), o2, o3, o4]) (fun R hR => ?_) ⟨rfl, _, _, _, rfl⟩ ?_ ?_
  · simp? only [vw_lawD, ix_lawD, lk_sig]
    refine ⟨_, rfl, ?_⟩
    simp? only [List.length_map, rngD_nat]
    exact ⟨by omega, by omega, hR⟩
  · rintro i x ρ M' hi ⟨rfl, o2, o3, o4, rfl⟩
    obtain ⟨rfl, hlt⟩ := getR hi
    have hox : A.ops[x]? = some A.ops[x] := List.getElem?_eq_getElem hlt
    generalize A.ops[x] = o at hox
    have hoo := ok.op o (List.mem_of_getElem? hox)
    simp? only
    refine dLc_map o.vs (fun v => .int (v : Nat)) (fun v => .str (A.nm v)) (fun R hR => ?_) ?_ (fun i v hv R hR => ?_) ?_
    · simp? only [vw_lawD, ix_lawD, lk_val]
      refine ⟨_, rfl, ?_⟩
      simp? only
      exact ⟨_, atI_nat (by rw [List.getElem?_map, hox]; rfl), hR⟩
    · rw [hoo.len]
      have h1 : A.n ^ o.ar ≤ 100 ^ o.ar := Nat.pow_le_pow_left ok.le _
      have h2 : 100 ^ o.ar ≤ 100 ^ 2 := Nat.pow_le_pow_right (by omega) hoo.ar
      omega
    · simp? only [vw_lawD, ix_lawD, lk_mem]
      refine ⟨_, rfl, ?_⟩
      simp? only
      exact ⟨_, atI_nat (by rw [sL, List.getElem?_map, nm_get (hoo.lt v (List.mem_of_getElem? hv))]; rfl), hR⟩
    · simp? only [dExpr, dApp, vw_lawD, ix_lawD, lk_sig]
      refine ⟨p, _, rfl, mset_same, _, rfl, ?_⟩
      simp? only
      refine ⟨_, atI_nat (by rw [List.getElem?_map, hox]; rfl), ?_⟩
      simp? only [Op.sigD]
      refine ⟨_, atI0, _, rfl, ?_⟩
      simp? only
      refine ⟨_, atI_nat (by rw [List.getElem?_map, hox]; rfl), ?_⟩
      simp? only [Op.sigD]
      refine ⟨_, atI_n (j := 1) rfl rfl, szl (by omega), _, mset_same, by rw [List.length_take]; exact szl' (by omega), ?_, _, _, _, rfl⟩
      rw [mset_mset, List.take_add_one]
      have : (A.tolB false)[x]? = some (.tup [.str o.sg, .int (o.ar : Int), .lst (A.valD o)]) := by
        unfold Alg.tolB; rw [List.getElem?_map, hox]; rfl
      rw [this]
      simp only [Option.toList_some, Alg.valD, sL, List.map_map]
      rfl
  · rintro ρ M' ⟨rfl, o2, o3, o4, rfl⟩
    refine hR _ _ ?_
    rw [List.length_range]
    simp? only
    refine ⟨p, _, _, rfl, mset_same, rfl, M, ?_, ?_⟩
    · rw [mdel_mset hp]; exact cl
    · rw [List.take_of_length_le (by simp [Alg.tolB])]; exact q
def S__law_made (K : PySem.W.Frag) : DSp := S1 fun x M Q _ => ∃ A : Alg, x = A.lawD ∧ A.Good ∧ Q (A.obj (He.ga K "Algebra")) M
theorem ok__law_made (m : Mg K mg) {f : Addr} {fd : FuncData} (N_Algebra : Nw P w K mg base 4 "Algebra" (He.ga K "Algebra") ["self", "members", "operations"] (S_Algebra_init K)) (F__law_told : Fn P w K mg base 1 "_law_told" ["algebra"] (S__law_told K)) (Fd : FunT K "_law_made" s__law_made f fd) (h : mg "_law_made" = some (.ref f)) : Fn P w K mg base 6 "_law_made" ["algebra"] (S__law_made K) := by
  refine ⟨f, fd, ?_, h, Fd.kp, Fd.bindsN fun _ _ _ _ _ _ us hl => match us, hl with | [_], _ => rfl⟩
  refine dfn Fd sc__law_made (fun ds M Q E h => by obtain ⟨_, rfl, _⟩ := S1.of h; rfl) fun cdv A outer s H E Ed hr => ⟨_, (dss_one (ds_ret (de_frzE (cN N_Algebra hr (by omega) rfl (fun σ => passAt (takes_of rfl rfl rfl rfl) σ) (da_cons (de_lstOf rfl m.list (de_ix (Rm1 hr) (vr 0) (de_str [109, 101, 109, 98, 101, 114, 115] (by kernel_rfl)))) (da_cons (cF F__law_told hr (by omega) rfl (fun σ => passAt (takes_of rfl rfl rfl rfl) σ) (da_cons (vr 0) da_nil)) da_nil)))))), fun ds M Q cl h => ?_⟩
  obtain ⟨a0, rfl, h⟩ := S1.of h

  obtain ⟨A, rfl, g, q⟩ := h
  simp? only [vw_lawD, ix_lawD, lk_mem]
  refine ⟨_, rfl, ?_⟩
  simp? only
  refine ⟨A, rfl, g.ok, fun a ha => ⟨a, _, A, false, false, false, rfl, mset_same, by first | exact rfl | exact .inl rfl, rfl, rfl, g, rfl, a, _, _, rfl, mset_same, rfl, M, ?_, q⟩⟩
  rw [mset_mset, mdel_mset ha]; exact cl
def S__law_at (K : PySem.W.Frag) : DSp := S3 fun x y z M Q _ => ∃ (A : Alg) (k : Nat) (o : Op) (row : List Nat), x = A.lawD ∧ A.Ok ∧ y = .int (k : Nat) ∧ A.ops[k]? = some o ∧ z = .lst (nL row) ∧ row.length = o.ar ∧ (∀ v ∈ row, v < A.n) ∧ Q (.int (o.at A.n row : Nat)) M
theorem ok__law_at (m : Mg K mg) {f : Addr} {fd : FuncData}  (Fd : FunT K "_law_at" s__law_at f fd) (h : mg "_law_at" = some (.ref f)) : Fn P w K mg base 1 "_law_at" ["algebra", "k", "row"] (S__law_at K) := by
  refine ⟨f, fd, ?_, h, Fd.kp, Fd.bindsN fun _ _ _ _ _ _ us hl => match us, hl with | [_, _, _], _ => rfl⟩
  refine dfn Fd sc__law_at (fun ds M Q E h => by obtain ⟨_, _, _, rfl, _⟩ := S3.of h; rfl) fun cdv A outer s H E Ed hr => ⟨_, (dss_cons (sSet 3 sc__law_at.nd de_int) (dss_cons (dFor1 (passes_of rfl) (di_seq (vr 2)) (gN 4 sc__law_at.nd) (dss_one (sSet 3 sc__law_at.nd (de_add (de_mul (vr 3) (de_len rfl m.len (de_ix (Rm1 hr) (vr 0) (de_str [109, 101, 109, 98, 101, 114, 115] (by kernel_rfl))))) (vr 4))))) (dss_one (ds_ret (de_ix (Rm1 hr) (de_ix (Rm1 hr) (de_ix (Rm1 hr) (vr 0) (de_str [118, 97, 108, 117, 101, 115] (by kernel_rfl))) (vr 1)) (vr 3)))))), fun ds M Q cl h => ?_⟩
  obtain ⟨a0, a1, a2, rfl, h⟩ := S3.of h

  obtain ⟨A, k, o, row, rfl, ok, rfl, ho, rfl, hl, hv, q⟩ := h
  have hoo := ok.op o (List.mem_of_getElem? ho)
  have hle := ok.le
  simp? only
  refine gen_nx (t := dFor _ _ _) fun R hR => ?_
  refine dFor_inv row (fun v => .int (v : Nat)) (fun i ρ M' => M' = M ∧ ∃ o4, ρ = [some A.lawD, some (.int (k : Nat)), some (.lst (nL row)), some (.int (spot A.n (row.take i) : Nat)), o4]) (fun R hR => ?_) ⟨rfl, _, rfl⟩ ?_ ?_
  · simp? only; exact hR
  · rintro i v ρ M' hi ⟨rfl, o4, rfl⟩
    simp? only [vw_lawD, ix_lawD, lk_mem]
    refine ⟨_, rfl, ?_⟩
    simp? only [sL_len]
    refine ⟨.inr ⟨?_, ?_⟩, ⟨some (.int (v : Nat)), ?_⟩⟩
    · have : (0 : Int) ≤ (A.mem.length : Nat) := by omega
      omega
    · have : A.mem.length ≤ 100 := hle
      omega
    · rw [List.take_add_one, hi, Option.toList_some, spot_snoc]
      have : (((spot A.n (row.take i) * A.n + v : Nat)) : Int) = (spot A.n (row.take i) : Int) * (A.mem.length : Nat) + (v : Nat) := by
        rw [Int.natCast_add, Int.natCast_mul]; rfl
      rw [this]
  · rintro ρ M' ⟨rfl, o4, rfl⟩
    refine hR _ _ ?_
    rw [List.take_length]
    simp? only [vw_lawD, ix_lawD, lk_val]
    refine ⟨_, rfl, ?_⟩
    simp? only
    refine ⟨_, atI_nat (by rw [List.getElem?_map, ho]; rfl), ?_⟩
    simp? only
    have hs := spot_lt hl hv
    refine ⟨_, atI_nat (v := .int (o.at A.n row : Nat)) ?_, M', cl, q⟩
    unfold nL Op.at
    rw [List.getElem?_map, List.getD_eq_getElem?_getD, List.getElem?_eq_getElem (by rw [hoo.len]; exact hs)]; rfl
end
end EK


set_option Elab.async false
set_option linter.all false
set_option maxRecDepth 100000
set_option maxHeartbeats 400000
namespace EK
open PySem PySem.Spec PyProof.Rows L2 DL
local macro_rules
  | `(tactic| simp? only [$ls,*]) => `(tactic| simp only [$ls,*, dVar, dC, dOp, dTest, dTru, dAnd, dOr, dNot, dAndV, dOrV, dNotV, dIfE, dNil, dCons, dStar, dTup, dLst, dLstM, dFrz, dNeg, oEq, oNe, dNoO, dSoO, dSl, dNext, dSeq, dBreak, dCont, dExpr, dRet, dRetN, dIf, gNm, gNl, gCn, gTp, dAsg, dSet, dAug, dIter, dRng1, dRng2, dYes, dCallB, f1, dIsi, dJoinAt, dFmt, dJs, dJoined, dCall, dstart, rget, rset, dwipe, gSb, dApp, dPop, fMax2, fMin2, dNever, dPairs, dDispG, dDisp, dDispM, dNewK, dNewT, keyD, if_true, if_false, decide_eq_true_eq, Bool.false_eq_true, List.map_cons, List.map_nil, List.length_cons, List.length_nil, List.cons_append, List.nil_append, Nat.reduceAdd, Nat.reduceSub, List.reduceReplicate, e_vw_non, e_vw_bl, e_vw_int, e_vw_str, e_vw_scr, e_vw_lst, e_vw_tup, e_vw_dic, e_vw_dit, e_vw_obj, e_vw_ty, e_flat_non, e_isn_non, e_ty_non, e_flat_bl, e_isn_bl, e_ty_bl, e_flat_int, e_isn_int, e_ty_int, e_flat_str, e_isn_str, e_ty_str, e_flat_scr, e_isn_scr, e_ty_scr, e_flat_lst, e_isn_lst, e_ty_lst, e_flat_tup, e_isn_tup, e_ty_tup, e_flat_dic, e_isn_dic, e_ty_dic, e_flat_dit, e_isn_dit, e_flat_obj, e_isn_obj, e_flat_ty, e_isn_ty, e_add_ii, e_add_ss, e_add_ll, e_add_tt, e_iadd_ii, e_iadd_ss, e_sub_ii, e_mul_ii, e_mul_li, e_mul_si, e_fdiv_ii, e_mod_ii, e_pow_ii, e_deq_nn, e_deq_ii, e_deq_ss, e_deq_bb, e_deq_tt, e_deq_ll, e_deq_st, e_deq_ts, e_deql_n, e_deql_c, e_deql_nc, e_deql_cn, e_isN, e_ix_l, e_ix_t, e_ix_c, e_ix_s, e_ix_d, e_ix_dt, e_in_l, e_in_t, e_in_s, e_in_d, e_in_dt, e_sl_l, e_sl_s, e_len_lst, e_len_tup, e_len_s, e_len_c, e_len_d, e_int_i, e_abs_i, e_str_i, e_tup_l, e_tup_t, e_oLst0_l, e_oLst0_t, e_oLst0M_l, e_oLst0M_t, e_set_l, e_set_d, e_set_t, e_key_i, e_key_s, e_isT_non_bool, e_isT_non_int, e_isT_non_str, e_isT_non_list, e_isT_non_tuple, e_isT_non_dict, e_isT_bool_bool, e_isT_bool_int, e_isT_bool_str, e_isT_bool_list, e_isT_bool_tuple, e_isT_bool_dict, e_isT_int_bool, e_isT_int_int, e_isT_int_str, e_isT_int_list, e_isT_int_tuple, e_isT_int_dict, e_isT_str_bool, e_isT_str_int, e_isT_str_str, e_isT_str_list, e_isT_str_tuple, e_isT_str_dict, e_isT_list_bool, e_isT_list_int, e_isT_list_str, e_isT_list_list, e_isT_list_tuple, e_isT_list_dict, e_isT_tuple_bool, e_isT_tuple_int, e_isT_tuple_str, e_isT_tuple_list, e_isT_tuple_tuple, e_isT_tuple_dict, e_isT_dict_bool, e_isT_dict_int, e_isT_dict_str, e_isT_dict_list, e_isT_dict_tuple, e_isT_dict_dict, e_lt, e_le, e_gt, e_ge, e_fld, e_meth, e_inO, e_lenO, e_eqO, e_S1, e_S2, e_S3, e_S4, dChain, dPar, dIsi2, dMake, dRaise, dX0, dXN, dTryM, dMix, Bool.not_true, Bool.not_false, eq_self, true_and, and_true, true_or, and_self, e_mulM_li, e_addM_ll, dFrzE, Bool.false_bne, Bool.true_bne, dGet, dGet1, dDpop, dIdx, e_dic0, e_dic0M, e_same, sl1, dkey_s, e_cxK, dXf, e_sameP, e_addT, dFrzO, oFrz, dClr, e_lstD])
  | `(tactic| simp? only) => `(tactic| simp? only [eq_self])
section
variable {P : Program} {w : World} {K : PySem.W.Frag} {mg : Str → Option Value} {base : Heap}
/-! ### terms -/
theorem okT_vw {M : Mp} {d : D} (h : okT d = true) : vw M d = d := by cases d <;> first | rfl | (simp [okT] at h)
theorem okT_ty {d : D} (h : okT d = true) : ∃ t, tyN d = some t := by cases d <;> first | exact ⟨_, rfl⟩ | (simp [okT] at h)
theorem okT_cons {x : D} {xs : List D} (h : okT (.tup (x :: xs)) = true) : okT x = true ∧ ∀ y ∈ xs, okT y = true := by
  simp only [okT, okTL, Bool.and_eq_true] at h
  rw [okTL_eq] at h
  exact ⟨h.1, List.all_eq_true.mp h.2⟩
theorem okT_tm {A : Alg} (hw : ∀ o ∈ A.ops, Wrd o.sg) : ∀ {n : Nat} {t : Tm}, TOk A n t → okT t.D = true
  | n, .var w, h => by
    rw [Tm.D_var]
    have hw : isWord (.str w) = true := by cases n <;> exact h
    simp only [okT, decide_eq_true_eq]
    simp only [isWord, isMem, Bool.and_eq_true, decide_eq_true_eq] at hw
    omega
  | 0, .node _ _, h => h.elim
  | n + 1, .node s ts, ⟨⟨o, e, hl⟩, h2⟩ => by
    rw [Tm.D_node]
    simp only [okT, okTL, okTL_eq, Bool.and_eq_true, decide_eq_true_eq]
    obtain ⟨ho, rfl⟩ := op?_some e
    refine ⟨by have := (hw o ho).1; omega, List.all_eq_true.mpr fun d hd => ?_⟩
    obtain ⟨t, ht, rfl⟩ := List.mem_map.mp hd
    exact okT_tm hw (h2 t ht)
theorem dDep_tm {A : Alg} : ∀ {n : Nat} {t : Tm}, TOk A n t → dDep t.D ≤ n
  | n, .var w, h => by rw [Tm.D_var]; simp [dDep]
  | 0, .node _ _, h => h.elim
  | n + 1, .node s ts, ⟨_, h2⟩ => by
    rw [Tm.D_node]
    have key : ∀ l : List D, (∀ d ∈ l, dDep d ≤ n) → dDepL l ≤ n := by
      intro l
      induction l with
      | nil => intro _; simp [dDepL]
      | cons d l ih =>
        intro h
        simp only [dDepL]
        have := h d (by simp)
        have := ih fun x hx => h x (by simp [hx])
        omega
    have := key (ts.map Tm.D) fun d hd => by
      obtain ⟨t, ht, rfl⟩ := List.mem_map.mp hd
      exact dDep_tm (h2 t ht)
    simp only [dDep, dDepL]
    omega
theorem isWord_wrd {s : Cd} (h : isWord (.str s) = true) : s.length ≤ 12 := by
  simp only [isWord, isMem, Bool.and_eq_true, decide_eq_true_eq] at h; omega
theorem op?_none' {A : Alg} {s : Cd} (h : s ∉ A.ops.map (·.sg)) : A.op? s = none := by
  cases e : A.op? s with
  | none => rfl
  | some o => exact absurd (List.mem_map.mpr ⟨o, (op?_some e).1, (op?_some e).2⟩) h
theorem tup0 {M : Mp} {Q : D → Mp → Prop} {x : D} {xs : List D} (q : Q x M) : oIx (.tup (x :: xs)) (.int 0) M Q := ⟨x, by simp [atI, ixN], q⟩
def S_is_termN (K : PySem.W.Frag) (n : Nat) : DSp := S2 fun x y M Q _ => ∃ A : Alg, vw M x = .dic A.ariL ∧ A.Ok ∧ okT y = true ∧ dDep y ≤ n ∧ Q (.bl (isTm A y)) M
def S_is_term (K : PySem.W.Frag) : DSp := S_is_termN K 14
theorem ok_is_term (m : Mg K mg) {f : Addr} {fd : FuncData} (F_is_word : Fn P w K mg base 2 "is_word" ["name"] (S_is_word K)) (Fd : FunT K "is_term" s_is_term f fd) (h : mg "is_term" = some (.ref f)) : ∀ n, Fn P w K mg base (n + 2 + 1) "is_term" ["arities", "term"] (S_is_termN K n) := by
  refine fn_rec (c := 2) h Fd.kp (Fd.bindsN fun _ _ _ _ _ _ us hl => match us, hl with | [_, _], _ => rfl) fun n F_is_term => ?_
  refine dfn Fd sc_is_term (fun ds M Q E h => by obtain ⟨_, _, rfl, _⟩ := S2.of h; rfl) fun cdv A outer s H E Ed hr => ⟨_, (dss_cons (ds_if (dt_isi .str (by decide) rfl m.isinstance rfl m.str boot_str (vr 1)) (dss_one (ds_ret (cF F_is_word hr (by omega) rfl (fun σ => passAt (takes_of rfl rfl rfl rfl) σ) (da_cons (vr 1) da_nil)))) dss_nil) (dss_cons (ds_if (DW.dt (dw_or (dt_not (dt_isi .tuple (by decide) rfl m.isinstance rfl m.tuple boot_tuple (vr 1))) (dw_or (dt_eq (Rm64 hr) (de_len rfl m.len (vr 1)) de_int) (dw_or1 (dt_not (dt_isi .str (by decide) rfl m.isinstance rfl m.str boot_str (de_ix (Rm1 hr) (vr 1) de_int))))))) (dss_one (ds_ret de_bl)) dss_nil) (dss_cons (ds_if (DW.dt (dw_or (dt_notIn (Rm65 hr) (de_ix (Rm1 hr) (vr 1) de_int) (vr 0)) (dw_or1 (dt_ne (Rm64 hr) (de_len rfl m.len (vr 1)) (de_add (de_ix (Rm1 hr) (vr 0) (de_ix (Rm1 hr) (vr 1) de_int)) de_int))))) (dss_one (ds_ret de_bl)) dss_nil) (dss_one (ds_ret (de_all rfl rfl m.all (de_lc rfl sc_is_term.nd (di_seq (de_sl (vr 1) (do_some de_int) do_none)) (blkOk_by (own := [("part", 2)]) (N := ["arities", "term", "part"]) (sc := defScope s_is_term) (by decide +kernel)) (fun _ _ _ _ _ => (gN 2 sc_is_term.nd)) (fun _ _ _ _ _ => dts_nil) (fun _ _ _ _ _ => (cF F_is_term hr (by omega) rfl no_pass (da_cons (vr 0) (da_cons (vr 2) da_nil)))) (by decide)))))))), fun ds M Q cl h => ?_⟩
  obtain ⟨a0, a1, rfl, h⟩ := S2.of h

  obtain ⟨A, hx, ok, hy, hd, q⟩ := h
  have ev : ∀ M', vw M' a1 = a1 := fun M' => okT_vw hy
  obtain ⟨t, ht⟩ := okT_ty hy
  simp? only [ev, ht]
  cases a1 with
  | str s =>
    cases ht
    simp? only
    refine ⟨anyD_s (by simp only [okT, decide_eq_true_eq] at hy; omega), M, cl, ?_⟩
    simpa only [isTm] using q
  | tup xs =>
    cases ht
    cases xs with
    | nil =>
      simp? only
      refine ⟨M, cl, ?_⟩
      rwa [isTm_nil] at q
    | cons x xs =>
      obtain ⟨hx1, hxs⟩ := okT_cons hy
      obtain ⟨tx, htx⟩ := okT_ty hx1
      have evx : ∀ M', vw M' x = x := fun M' => okT_vw hx1
      rw [isTm_tup] at q
      simp? only
      rw [if_neg (by simp; omega)]
      refine ⟨_, atI0, ?_⟩
      simp? only [evx, htx]
      cases x with
      | str s =>
        cases htx
        simp? only
        refine ⟨_, atI0, ?_⟩
        simp? only [hx, dfind_s]
        refine ⟨_, rfl, ?_⟩
        by_cases hs : s ∈ A.ops.map (·.sg)
        · cases e : A.op? s with
          | none => exact absurd hs (op?_none e)
          | some o =>
            obtain ⟨ho, rfl⟩ := op?_some e
            rw [ari_look ok ho]
            simp? only [Option.isSome_some]
            refine ⟨_, atI0, ?_⟩
            simp? only [hx, dfind_s, ari_look ok ho]
            refine ⟨_, rfl, ?_⟩
            simp only [e] at q
            simp? only
            have har := (ok.op o ho).ar
            by_cases hl : xs.length = o.ar
            · rw [if_neg (by simp; omega)]
              cases n with
              | zero => simp [dDep] at hd
              | succ n =>
                have hdx : ∀ y ∈ xs, dDep y ≤ n := fun y hy => by
                  have := dDepL_mem (xs := D.str o.sg :: xs) (x := y) (by simp [hy])
                  simp only [dDep] at hd; omega
                refine dLc_map xs id (fun x => .bl (isTm A x)) (fun R hR => ?_) (by omega) (fun i x hi R hR => ?_) ?_
                · simp? only; rwa [List.map_id] at hR
                · have hm := List.mem_of_getElem? hi
                  simp? only [prev]
                  exact ⟨A, hx, ok, hxs x hm, hdx x hm, hR⟩
                · simp? only
                  exact oAll_b ⟨M, cl, by simpa only [decide_eq_true hl, Bool.true_and] using q⟩
            · rw [if_pos (by simp; omega)]
              rw [decide_eq_false hl, Bool.false_and] at q
              exact ⟨M, cl, q⟩
        · rw [ari_none hs]
          simp only [op?_none' hs, Bool.false_and] at q
          simp? only [Option.isSome_none]
          exact ⟨M, cl, q⟩
      | _ =>
        cases htx <;>
        · simp? only
          exact ⟨M, cl, q⟩
  | _ =>
    cases ht <;>
    · simp? only
      exact ⟨M, cl, by simpa only [isTm] using q⟩
theorem fn_is_term (m : Mg K mg) {f : Addr} {fd : FuncData} (F_is_word : Fn P w K mg base 2 "is_word" ["name"] (S_is_word K)) (Fd : FunT K "is_term" s_is_term f fd) (h : mg "is_term" = some (.ref f)) : Fn P w K mg base 17 "is_term" ["arities", "term"] (S_is_term K) := ok_is_term m F_is_word Fd h 14

def S_check_term (K : PySem.W.Frag) : DSp := S2 fun x y M Q E => ∃ (C : Addr) (A : Alg), x = A.obj C ∧ okc_Algebra K C ∧ A.Ok ∧ okT y = true ∧ dDep y ≤ 14 ∧ (isTm A y = true → Q .non M) ∧ (isTm A y = false → E (He.ga K "BadTerm") [] M)
theorem ok_check_term (m : Mg K mg) {f : Addr} {fd : FuncData} (F_is_term : Fn P w K mg base 17 "is_term" ["arities", "term"] (S_is_term K)) (X_BadTerm : EX0 P w K mg base "BadTerm" (He.ga K "BadTerm")) (Fd : FunT K "check_term" s_check_term f fd) (h : mg "check_term" = some (.ref f)) : Fn P w K mg base 18 "check_term" ["algebra", "term"] (S_check_term K) := by
  refine ⟨f, fd, ?_, h, Fd.kp, Fd.bindsN fun _ _ _ _ _ _ us hl => match us, hl with | [_, _], _ => rfl⟩
  refine dfn Fd sc_check_term (fun ds M Q E h => by obtain ⟨_, _, rfl, _⟩ := S2.of h; rfl) fun cdv A outer s H E Ed hr => ⟨_, (dss_one (ds_if (dt_not (dt_of (cF F_is_term hr (by omega) rfl (fun σ => passAt (takes_of rfl rfl rfl rfl) σ) (da_cons (de_fld (ok := okc_Algebra K) (f := "arities") (fun C hC => m.fl_Algebra_arities C hC) (vr 0)) (da_cons (vr 1) da_nil))))) (dss_one (rz0 X_BadTerm hr (by omega) (takes_of rfl rfl rfl rfl) rfl rfl)) dss_nil)), fun ds M Q cl h => ?_⟩
  obtain ⟨a0, a1, rfl, h⟩ := S2.of h

  obtain ⟨C, A, rfl, hC, ok, hy, hd, h1, h2⟩ := h
  simp? only
  rw [o_arities hC]
  refine ⟨A, rfl, ok, hy, hd, ?_⟩
  cases e : isTm A a1 with
  | true => simp? only; exact ⟨M, cl, h1 e⟩
  | false => simp? only; exact ⟨M, cl, h2 e⟩
def S_put_unknownsN (K : PySem.W.Frag) (n : Nat) : DSp := S2 fun x y M Q _ => ∃ (A : Alg) (t : Tm) (p : Addr) (acc : List Cd), x = t.D ∧ TOk A n t ∧ (∀ o ∈ A.ops, o.ar ≤ 2) ∧ y = .ref p ∧ M p = some (.lst (sL acc)) ∧ acc.length + lv n ≤ 500000 ∧ Q .non (mset M p (.lst (sL (putU t acc))))
def S_put_unknowns (K : PySem.W.Frag) : DSp := S_put_unknownsN K 14
theorem ok_put_unknowns (m : Mg K mg) {f : Addr} {fd : FuncData}  (Fd : FunT K "put_unknowns" s_put_unknowns f fd) (h : mg "put_unknowns" = some (.ref f)) : ∀ n, Fn P w K mg base (n + 0 + 1) "put_unknowns" ["term", "found"] (S_put_unknownsN K n) := by
  refine fn_rec (c := 0) h Fd.kp (Fd.bindsN fun _ _ _ _ _ _ us hl => match us, hl with | [_, _], _ => rfl) fun n F_put_unknowns => ?_
  refine dfn Fd sc_put_unknowns (fun ds M Q E h => by obtain ⟨_, _, rfl, _⟩ := S2.of h; rfl) fun cdv A outer s H E Ed hr => ⟨_, (dss_cons (ds_if (dt_isi .str (by decide) rfl m.isinstance rfl m.str boot_str (vr 0)) (dss_cons (ds_if (dt_notIn (Rm65 hr) (vr 0) (vr 1)) (dss_one (ds_expr (de_app (vr 1) (vr 0)))) dss_nil) (dss_one ds_retN)) dss_nil) (dss_one (dFor1 (passes_of rfl) (di_seq (de_sl (vr 0) (do_some de_int) do_none)) (gN 2 sc_put_unknowns.nd) (dss_one (ds_expr (cF F_put_unknowns hr (by omega) rfl (fun σ => passAt (takes_of rfl rfl rfl rfl) σ) (da_cons (vr 2) (da_cons (vr 1) da_nil)))))))), fun ds M Q cl h => ?_⟩
  obtain ⟨a0, a1, rfl, h⟩ := S2.of h

  obtain ⟨A, t, p, acc, rfl, ht, har, rfl, hp, hz, q⟩ := h
  cases t with
  | var w =>
    simp? only [Tm.D_var, vw_l hp]
    refine ⟨.inl (all_flat_str acc), ?_⟩
    rw [show sL acc = acc.map D.str from rfl, any_deq_str]
    rw [putU_var] at q
    by_cases hw : w ∈ acc
    · rw [if_pos hw, mset_self hp] at q
      rw [List.contains_iff_mem.mpr hw]
      simp? only
      exact ⟨M, cl, q⟩
    · rw [if_neg hw] at q
      have : acc.contains w = false := by rw [Bool.eq_false_iff]; exact fun h => hw (List.contains_iff_mem.mp h)
      rw [this]
      simp? only
      have := lv_pos n
      refine ⟨p, _, rfl, hp, _, hp, szl' (by rw [sL_len]; omega), _, cl.set (by rw [hp]; simp) (by simp), ?_⟩
      rw [sL, List.map_append] at q; exact q
  | node s ts =>
    cases n with
    | zero => exact ht.elim
    | succ n =>
      obtain ⟨⟨o, eo, hl⟩, hts⟩ := ht
      have hlts : ts.length ≤ 2 := by rw [hl]; exact har o (op?_some eo).1
      simp? only [Tm.D_node]
      refine dFor_inv ts Tm.D (fun i ρ M' => M' = mset M p (.lst (sL ((ts.take i).foldl (fun a t => putU t a) acc))) ∧ ∃ o2, ρ = [some (.tup (.str s :: ts.map Tm.D)), some (.ref p), o2]) (fun R hR => ?_) ⟨(mset_self hp).symm, _, rfl⟩ ?_ ?_
      · simp? only; exact hR
      · rintro i t ρ M' hi ⟨rfl, o2, rfl⟩
        simp? only [prev, dExpr]
        have hm := List.mem_of_getElem? hi
        refine ⟨A, t, p, _, rfl, hts t hm, har, rfl, mset_same, ?_, ?_⟩
        · have h1 := putUs_len har (ts.take i) acc fun u hu => hts u (List.mem_of_mem_take hu)
          have hi2 : i < ts.length := (List.getElem?_eq_some_iff.mp hi).1
          have h2 : (ts.take i).length * lv n ≤ 1 * lv n := Nat.mul_le_mul_right _ (by rw [List.length_take]; omega)
          have h3 : lv (n + 1) = 2 * lv n := rfl
          omega
        · refine ⟨?_, _, rfl⟩
          rw [mset_mset, List.take_add_one, hi, Option.toList_some, List.foldl_append]; rfl
      · rintro ρ M' ⟨rfl, o2, rfl⟩
        rw [putU_node] at q
        rw [List.take_length]
        exact ⟨_, cl.set (by rw [hp]; simp) (by simp), q⟩
theorem fn_put_unknowns (m : Mg K mg) {f : Addr} {fd : FuncData}  (Fd : FunT K "put_unknowns" s_put_unknowns f fd) (h : mg "put_unknowns" = some (.ref f)) : Fn P w K mg base 15 "put_unknowns" ["term", "found"] (S_put_unknowns K) := ok_put_unknowns m  Fd h 14

theorem dlk_lk {kv : List (Cd × Tm)} {w : Cd} : dlk (kv.map fun p => ((.inr p.1 : DK), p.2.D)) (.inr w) = (kv.lookup w).map Tm.D := by
  induction kv with
  | nil => rfl
  | cons p r ih =>
    obtain ⟨x, t⟩ := p
    rw [List.map_cons, dlk_cons, ih, List.lookup_cons]
    by_cases e : x = w
    · subst e; simp
    · have h1 : (w == x) = false := by simpa using fun h => e h.symm
      rw [if_neg (by intro h; cases h; exact e rfl), h1]
def S_replacedN (K : PySem.W.Frag) (n : Nat) : DSp := S2 fun x y M Q _ => ∃ (A : Alg) (t : Tm) (kv : List (Cd × Tm)), x = t.D ∧ TOk A n t ∧ (∀ o ∈ A.ops, o.ar ≤ 2) ∧ vw M y = .dic (kv.map fun p => (.inr p.1, p.2.D)) ∧ Q (t.sub fun w => kv.lookup w).D M
def S_replaced (K : PySem.W.Frag) : DSp := S_replacedN K 14
theorem ok_replaced (m : Mg K mg) {f : Addr} {fd : FuncData}  (Fd : FunT K "replaced" s_replaced f fd) (h : mg "replaced" = some (.ref f)) : ∀ n, Fn P w K mg base (n + 0 + 1) "replaced" ["term", "images"] (S_replacedN K n) := by
  refine fn_rec (c := 0) h Fd.kp (Fd.bindsN fun _ _ _ _ _ _ us hl => match us, hl with | [_, _], _ => rfl) fun n F_replaced => ?_
  refine dfn Fd sc_replaced (fun ds M Q E h => by obtain ⟨_, _, rfl, _⟩ := S2.of h; rfl) fun cdv A outer s H E Ed hr => ⟨_, (dss_cons (ds_if (dt_isi .str (by decide) rfl m.isinstance rfl m.str boot_str (vr 0)) (dss_one (ds_ret (de_get (Rm1 hr) (vr 1) (vr 0) (vr 0)))) dss_nil) (dss_one (ds_ret (de_tup (da_cons (de_ix (Rm1 hr) (vr 0) de_int) (da_star (de_lc rfl sc_replaced.nd (di_seq (de_sl (vr 0) (do_some de_int) do_none)) (blkOk_by (own := [("part", 2)]) (N := ["term", "images", "part"]) (sc := defScope s_replaced) (by decide +kernel)) (fun _ _ _ _ _ => (gN 2 sc_replaced.nd)) (fun _ _ _ _ _ => dts_nil) (fun _ _ _ _ _ => (cF F_replaced hr (by omega) rfl no_pass (da_cons (vr 2) (da_cons (vr 1) da_nil)))) (by decide)) da_nil)))))), fun ds M Q cl h => ?_⟩
  obtain ⟨a0, a1, rfl, h⟩ := S2.of h

  obtain ⟨A, t, kv, rfl, ht, har, hy, q⟩ := h
  cases t with
  | var w =>
    simp? only [Tm.D_var, hy, dfind_s]
    refine ⟨⟨_, rfl⟩, _, rfl, M, cl, ?_⟩
    rw [dlk_lk]
    rw [sub_var] at q
    cases e : kv.lookup w with
    | none => rw [e] at q; rw [Option.getD_none, Tm.D_var] at q; exact q
    | some u => rw [e] at q; exact q
  | node s ts =>
    simp? only [Tm.D_node, hy]
    cases n with
    | zero => exact ht.elim
    | succ n =>
      obtain ⟨⟨o, eo, hl⟩, hts⟩ := ht
      have hlts : ts.length ≤ 2 := by rw [hl]; exact har o (op?_some eo).1
      refine ⟨_, atI0, ?_⟩
      refine dLc_map ts Tm.D (fun t => (t.sub fun w => kv.lookup w).D) (fun R hR => ?_) (by omega) (fun i t hi R hR => ?_) ?_
      · simp? only; exact hR
      · simp? only [prev]
        exact ⟨A, t, kv, rfl, hts t (List.mem_of_getElem? hi), har, hy, hR⟩
      · simp? only [List.append_nil, List.length_map]
        refine ⟨szl (by omega), M, cl, ?_⟩
        rw [sub_node, Tm.D_node, List.map_map] at q
        exact q
theorem fn_replaced (m : Mg K mg) {f : Addr} {fd : FuncData}  (Fd : FunT K "replaced" s_replaced f fd) (h : mg "replaced" = some (.ref f)) : Fn P w K mg base 15 "replaced" ["term", "images"] (S_replaced K) := ok_replaced m  Fd h 14

def S_worked_outN (K : PySem.W.Frag) (n : Nat) : DSp := S3 fun x y z M Q _ => ∃ (C : Addr) (A : Alg) (t : Tm) (kv : List (DK × D)) (env : Cd → Nat), x = A.obj C ∧ okc_Algebra K C ∧ A.Ok ∧ y = t.D ∧ TOk A n t ∧ vw M z = .dic kv ∧ (∀ w ∈ unk t, env w < A.n ∧ dlk kv (.inr w) = some (.str (A.nm (env w)))) ∧ Q (.str (A.nm (A.ev env t))) M
def S_worked_out (K : PySem.W.Frag) : DSp := S_worked_outN K 14
theorem ok_worked_out (m : Mg K mg) {f : Addr} {fd : FuncData}  (Fd : FunT K "worked_out" s_worked_out f fd) (h : mg "worked_out" = some (.ref f)) : ∀ n, Fn P w K mg base (n + 0 + 1) "worked_out" ["algebra", "term", "values"] (S_worked_outN K n) := by
  refine fn_rec (c := 0) h Fd.kp (Fd.bindsN fun _ _ _ _ _ _ us hl => match us, hl with | [_, _, _], _ => rfl) fun n F_worked_out => ?_
  refine dfn Fd sc_worked_out (fun ds M Q E h => by obtain ⟨_, _, _, rfl, _⟩ := S3.of h; rfl) fun cdv A outer s H E Ed hr => ⟨_, (dss_cons (ds_if (dt_isi .str (by decide) rfl m.isinstance rfl m.str boot_str (vr 1)) (dss_one (ds_ret (de_ix (Rm1 hr) (vr 2) (vr 1)))) dss_nil) (dss_one (ds_ret (de_ix (Rm1 hr) (de_ix (Rm1 hr) (de_fld (ok := okc_Algebra K) (f := "tables") (fun C hC => m.fl_Algebra_tables C hC) (vr 0)) (de_ix (Rm1 hr) (vr 1) de_int)) (de_tupOf rfl m.tuple (de_lc rfl sc_worked_out.nd (di_seq (de_sl (vr 1) (do_some de_int) do_none)) (blkOk_by (own := [("part", 3)]) (N := ["algebra", "term", "values", "part"]) (sc := defScope s_worked_out) (by decide +kernel)) (fun _ _ _ _ _ => (gN 3 sc_worked_out.nd)) (fun _ _ _ _ _ => dts_nil) (fun _ _ _ _ _ => (cF F_worked_out hr (by omega) rfl no_pass (da_cons (vr 0) (da_cons (vr 3) (da_cons (vr 2) da_nil))))) (by decide))))))), fun ds M Q cl h => ?_⟩
  obtain ⟨a0, a1, a2, rfl, h⟩ := S3.of h

  obtain ⟨C, A, t, kv, env, rfl, hC, ok, rfl, ht, hz, he, q⟩ := h
  cases t with
  | var w =>
    simp? only [Tm.D_var, hz, dfind_s]
    refine ⟨_, by rw [(he w (unk_var.mpr rfl)).2], M, cl, ?_⟩
    rwa [ev_var] at q
  | node s ts =>
    simp? only [Tm.D_node, hz]
    rw [o_tables hC]
    cases n with
    | zero => exact ht.elim
    | succ n =>
      obtain ⟨⟨o, eo, hl⟩, hts⟩ := ht
      obtain ⟨ho, rfl⟩ := op?_some eo
      have hlts : ts.length ≤ 2 := by rw [hl]; exact (ok.op o ho).ar
      have hlt : ∀ t ∈ ts, A.ev env t < A.n := fun t ht => ev_lt ok (hts t ht) fun w hw => (he w (unk_node.mpr ⟨t, ht, hw⟩)).1
      refine ⟨_, atI0, ?_⟩
      simp? only [dfind_s, tabs_look ok ho]
      refine ⟨_, rfl, ?_⟩
      refine dLc_map ts Tm.D (fun t => .str (A.nm (A.ev env t))) (fun R hR => ?_) (by omega) (fun i t hi R hR => ?_) ?_
      · simp? only; exact hR
      · simp? only [prev]
        have hm := List.mem_of_getElem? hi
        exact ⟨C, A, t, kv, env, rfl, hC, ok, rfl, hts t hm, hz, fun w hw => he w (unk_node.mpr ⟨t, hm, hw⟩), hR⟩
      · simp? only
        have hr := tab_look ok ho (row := ts.map (A.ev env)) (by rw [List.length_map]; exact hl) fun x hx => by
          obtain ⟨t, ht, rfl⟩ := List.mem_map.mp hx
          exact hlt t ht
        rw [ev_node eo] at q
        refine ⟨_, ?_, M, cl, q⟩
        rw [dfind_t, show (ts.map fun t => D.str (A.nm (A.ev env t))) = ((ts.map (A.ev env)).map A.nm).map D.str by rw [List.map_map, List.map_map]; rfl, dkeys_str]
        simp only [Option.map_some, hr]
theorem fn_worked_out (m : Mg K mg) {f : Addr} {fd : FuncData}  (Fd : FunT K "worked_out" s_worked_out f fd) (h : mg "worked_out" = some (.ref f)) : Fn P w K mg base 15 "worked_out" ["algebra", "term", "values"] (S_worked_out K) := ok_worked_out m  Fd h 14

theorem lookup_mem {α : Type} {kv : List (Cd × α)} {w : Cd} {v : α} (h : kv.lookup w = some v) : (w, v) ∈ kv := by
  induction kv with
  | nil => cases h
  | cons p r ih =>
    obtain ⟨x, y⟩ := p
    rw [List.lookup_cons] at h
    by_cases e : w = x
    · subst e
      simp at h; subst h; simp
    · have h1 : (w == x) = false := by simpa using e
      rw [h1] at h
      exact List.mem_cons_of_mem _ (ih h)
theorem find_at {α : Type} {p : α → Bool} {xs : List α} {i : Nat} {x : α} (hi : xs[i]? = some x) (h : ∀ y ∈ xs.take i, p y = false) (hx : p x = true) : xs.find? p = some x := by
  rw [List.find?_eq_some_iff_getElem]
  obtain ⟨hlt, hget⟩ := List.getElem?_eq_some_iff.mp hi
  refine ⟨hx, i, hlt, hget, fun j hj => ?_⟩
  have := h xs[j] (List.mem_iff_getElem?.mpr ⟨j, by rw [List.getElem?_take_of_lt hj]; exact List.getElem?_eq_getElem _⟩)
  simpa using this
theorem take_snoc {α : Type} {P : α → Prop} {xs : List α} {i : Nat} {x : α} (hi : xs[i]? = some x) (h : ∀ y ∈ xs.take i, P y) (hx : P x) : ∀ y ∈ xs.take (i + 1), P y := fun y hy => by
  rw [List.take_add_one, hi, Option.toList_some] at hy
  rcases List.mem_append.mp hy with h1 | h1
  · exact h y h1
  · rw [List.mem_singleton.mp h1]; exact hx
theorem isWord_Wrd {s : Cd} (h : isWord (.str s) = true) : Wrd s := by
  have h1 := isWord_wrd h
  refine ⟨by omega, fun c hc => ?_⟩
  simp only [isWord, isMem, Bool.and_eq_true, List.all_eq_true, decide_eq_true_eq] at h
  have h2 := h.1.2.2 c hc
  have : ∀ c ∈ chars, c < 0x110000 := by decide
  exact this c h2
/-- a dict of texts -/
def sD (kv : List (Cd × Cd)) : List (DK × D) := kv.map fun p => (.inr p.1, .str p.2)
theorem dlk_sD {kv : List (Cd × Cd)} {w : Cd} : dlk (sD kv) (.inr w) = (kv.lookup w).map D.str := by
  induction kv with
  | nil => rfl
  | cons p r ih =>
    obtain ⟨x, t⟩ := p
    unfold sD at ih ⊢
    rw [List.map_cons, dlk_cons, ih, List.lookup_cons]
    by_cases e : x = w
    · subst e; simp
    · have h1 : (w == x) = false := by simpa using fun h => e h.symm
      rw [if_neg (by intro h; cases h; exact e rfl), h1]
/-- what term_value says -/
def badU (A : Alg) (kv : List (Cd × Cd)) (w : Cd) : Bool := match kv.lookup w with
  | none => true
  | some v => decide (v ∉ A.mem)
def envOf (A : Alg) (kv : List (Cd × Cd)) (w : Cd) : Nat := A.pl ((kv.lookup w).getD [])
def TvSay (K : PySem.W.Frag) (A : Alg) (kv : List (Cd × Cd)) (t : Tm) (M : Mp) (Q : D → Mp → Prop) (E : Addr → List (Str × D) → Mp → Prop) : Prop := match (unk t).find? (badU A kv) with
  | some w => (match kv.lookup w with
    | none => E (He.ga K "NoValue") [("name", .str w)] M
    | some v => E (He.ga K "UnknownMember") [("name", .str v)] M)
  | none => Q (.str (A.nm (A.ev (envOf A kv) t))) M
end
end EK


set_option Elab.async false
set_option linter.all false
set_option maxRecDepth 100000
set_option maxHeartbeats 400000
namespace EK
open PySem PySem.Spec PyProof.Rows L2 DL
local macro_rules
  | `(tactic| simp? only [$ls,*]) => `(tactic| simp only [$ls,*, dVar, dC, dOp, dTest, dTru, dAnd, dOr, dNot, dAndV, dOrV, dNotV, dIfE, dNil, dCons, dStar, dTup, dLst, dLstM, dFrz, dNeg, oEq, oNe, dNoO, dSoO, dSl, dNext, dSeq, dBreak, dCont, dExpr, dRet, dRetN, dIf, gNm, gNl, gCn, gTp, dAsg, dSet, dAug, dIter, dRng1, dRng2, dYes, dCallB, f1, dIsi, dJoinAt, dFmt, dJs, dJoined, dCall, dstart, rget, rset, dwipe, gSb, dApp, dPop, fMax2, fMin2, dNever, dPairs, dDispG, dDisp, dDispM, dNewK, dNewT, keyD, if_true, if_false, decide_eq_true_eq, Bool.false_eq_true, List.map_cons, List.map_nil, List.length_cons, List.length_nil, List.cons_append, List.nil_append, Nat.reduceAdd, Nat.reduceSub, List.reduceReplicate, e_vw_non, e_vw_bl, e_vw_int, e_vw_str, e_vw_scr, e_vw_lst, e_vw_tup, e_vw_dic, e_vw_dit, e_vw_obj, e_vw_ty, e_flat_non, e_isn_non, e_ty_non, e_flat_bl, e_isn_bl, e_ty_bl, e_flat_int, e_isn_int, e_ty_int, e_flat_str, e_isn_str, e_ty_str, e_flat_scr, e_isn_scr, e_ty_scr, e_flat_lst, e_isn_lst, e_ty_lst, e_flat_tup, e_isn_tup, e_ty_tup, e_flat_dic, e_isn_dic, e_ty_dic, e_flat_dit, e_isn_dit, e_flat_obj, e_isn_obj, e_flat_ty, e_isn_ty, e_add_ii, e_add_ss, e_add_ll, e_add_tt, e_iadd_ii, e_iadd_ss, e_sub_ii, e_mul_ii, e_mul_li, e_mul_si, e_fdiv_ii, e_mod_ii, e_pow_ii, e_deq_nn, e_deq_ii, e_deq_ss, e_deq_bb, e_deq_tt, e_deq_ll, e_deq_st, e_deq_ts, e_deql_n, e_deql_c, e_deql_nc, e_deql_cn, e_isN, e_ix_l, e_ix_t, e_ix_c, e_ix_s, e_ix_d, e_ix_dt, e_in_l, e_in_t, e_in_s, e_in_d, e_in_dt, e_sl_l, e_sl_s, e_len_lst, e_len_tup, e_len_s, e_len_c, e_len_d, e_int_i, e_abs_i, e_str_i, e_tup_l, e_tup_t, e_oLst0_l, e_oLst0_t, e_oLst0M_l, e_oLst0M_t, e_set_l, e_set_d, e_set_t, e_key_i, e_key_s, e_isT_non_bool, e_isT_non_int, e_isT_non_str, e_isT_non_list, e_isT_non_tuple, e_isT_non_dict, e_isT_bool_bool, e_isT_bool_int, e_isT_bool_str, e_isT_bool_list, e_isT_bool_tuple, e_isT_bool_dict, e_isT_int_bool, e_isT_int_int, e_isT_int_str, e_isT_int_list, e_isT_int_tuple, e_isT_int_dict, e_isT_str_bool, e_isT_str_int, e_isT_str_str, e_isT_str_list, e_isT_str_tuple, e_isT_str_dict, e_isT_list_bool, e_isT_list_int, e_isT_list_str, e_isT_list_list, e_isT_list_tuple, e_isT_list_dict, e_isT_tuple_bool, e_isT_tuple_int, e_isT_tuple_str, e_isT_tuple_list, e_isT_tuple_tuple, e_isT_tuple_dict, e_isT_dict_bool, e_isT_dict_int, e_isT_dict_str, e_isT_dict_list, e_isT_dict_tuple, e_isT_dict_dict, e_lt, e_le, e_gt, e_ge, e_fld, e_meth, e_inO, e_lenO, e_eqO, e_S1, e_S2, e_S3, e_S4, dChain, dPar, dIsi2, dMake, dRaise, dX0, dXN, dTryM, dMix, Bool.not_true, Bool.not_false, eq_self, true_and, and_true, true_or, and_self, e_mulM_li, e_addM_ll, dFrzE, Bool.false_bne, Bool.true_bne, dGet, dGet1, dDpop, dIdx, e_dic0, e_dic0M, e_same, sl1, dkey_s, e_cxK, dXf, e_sameP, e_addT, dFrzO, oFrz, dClr, e_lstD])
  | `(tactic| simp? only) => `(tactic| simp? only [eq_self])
section
variable {P : Program} {w : World} {K : PySem.W.Frag} {mg : Str → Option Value} {base : Heap}
theorem sigL_ok {A : Alg} (ok : A.Ok) : cmpOk (.lst (A.ops.map Op.sigD)) = true := by
  have key : ∀ l : List Op, (∀ o ∈ l, Wrd o.sg) → dPlL (l.map Op.sigD) = true ∧ dDepL (l.map Op.sigD) ≤ 1 := by
    intro l
    induction l with
    | nil => intro _; simp [dPlL, dDepL]
    | cons o l ih =>
      intro h
      obtain ⟨h1, h2⟩ := ih fun x hx => h x (by simp [hx])
      have hw := h o (by simp)
      have hall : o.sg.all (· < 0x110000) = true := List.all_eq_true.mpr fun c hc => decide_eq_true (hw.2 c hc)
      constructor
      · simp only [List.map_cons, dPlL, Op.sigD, dPl, Bool.and_eq_true, Bool.and_true]
        exact ⟨hall, h1⟩
      · simp only [List.map_cons, dDepL, Op.sigD, dDep]
        omega
  obtain ⟨h1, h2⟩ := key A.ops fun o ho => (ok.op o ho).wd
  exact cmpOk_pl (by simpa only [dPl] using h1) (by simp only [dDep]; omega)
theorem sLs_ok {ns : List Cd} (h : ∀ s ∈ ns, Wrd s) : cmpOk (.lst (sL ns)) = true := by
  obtain ⟨h1, h2⟩ := plL_sL h
  exact cmpOk_pl (by simpa only [dPl] using h1) (by simp only [dDep]; omega)
theorem nil_ok : cmpOk (.lst []) = true := rfl
theorem op?_of {A : Alg} (ok : A.Ok) {o : Op} (ho : o ∈ A.ops) : A.op? o.sg = some o := by
  cases e : A.op? o.sg with
  | none => exact absurd (List.mem_map_of_mem (f := (·.sg)) ho) (op?_none e)
  | some o' =>
    obtain ⟨h1, h2⟩ := op?_some e
    obtain ⟨i, hi⟩ := List.mem_iff_getElem?.mp ho
    obtain ⟨j, hj⟩ := List.mem_iff_getElem?.mp h1
    have a : (A.ops.map (·.sg))[i]? = some o.sg := by rw [List.getElem?_map, hi]; rfl
    have b : (A.ops.map (·.sg))[j]? = some o.sg := by rw [List.getElem?_map, hj]; simp [h2]
    have := (List.getElem?_inj (by have := (List.getElem?_eq_some_iff.mp a).1; omega) ok.sn).mp (a.trans b.symm)
    subst this
    rw [hi] at hj; cases hj; rfl
def x0 : Cd := [120, 48]
def S__law_termN (K : PySem.W.Frag) (n : Nat) : DSp := S4 fun x y z u M Q _ => ∃ (p c : Addr) (A : Alg) (ns : List Cd) (deep : Nat), x = .ref p ∧ M p = some (.src c) ∧ y = A.lawD ∧ A.Good ∧ z = .lst (sL ns) ∧ ns.length ≤ 1000 ∧ (∀ s ∈ ns, isWord (.str s) = true) ∧ u = .int (deep : Nat) ∧ deep ≤ n ∧
  ∀ t, TOk A (deep + 1) t → (∀ w ∈ unk t, w ∈ ns ∨ (ns = [] ∧ w = x0)) → Q t.D M
def S__law_term (K : PySem.W.Frag) : DSp := S__law_termN K 14
theorem ok__law_term (m : Mg K mg) {f : Addr} {fd : FuncData} (F__law_pick : Fn P w K mg base 1 "_law_pick" ["source", "many"] (S__law_pick K)) (Fd : FunT K "_law_term" s__law_term f fd) (h : mg "_law_term" = some (.ref f)) : ∀ n, Fn P w K mg base (n + 1 + 1) "_law_term" ["source", "algebra", "names", "deep"] (S__law_termN K n) := by
  refine fn_rec (c := 1) h Fd.kp (Fd.bindsN fun _ _ _ _ _ _ us hl => match us, hl with | [_, _, _, _], _ => rfl) fun n F__law_term => ?_
  refine dfn Fd sc__law_term (fun ds M Q E h => by obtain ⟨_, _, _, _, rfl, _⟩ := S4.of h; rfl) fun cdv A outer s H E Ed hr => ⟨_, (dss_cons (sSet 4 sc__law_term.nd (de_ix (Rm1 hr) (vr 1) (de_str [115, 105, 103, 110, 115] (by kernel_rfl)))) (dss_cons (ds_if (DW.dt (dw_or (dt_eq (Rm64 hr) (vr 3) de_int) (dw_or (dt_eq (Rm64 hr) (vr 4) (de_lst da_nil)) (dw_or1 (DW.dt (dw_and (dt_eq (Rm64 hr) (cF F__law_pick hr (by omega) rfl (fun σ => passAt (takes_of rfl rfl rfl rfl) σ) (da_cons (vr 0) (da_cons de_int da_nil))) de_int) (dw_and1 (dt_ne (Rm64 hr) (vr 2) (de_lst da_nil))))))))) (dss_cons (ds_setLc (i := 5) rfl sc__law_term.nd rfl rfl (sw_true rfl rfl rfl (by decide +kernel)) (di_seq (vr 4)) (blkOk_by (own := [("pair", 6)]) (N := ["source", "algebra", "names", "deep", "signs", "low", "pair", "bits", "k"]) (sc := defScope s__law_term) (by decide +kernel)) (fun _ _ _ _ _ => (gN 6 sc__law_term.nd)) (fun _ _ _ _ _ => (dts_one (dt_eq (Rm64 hr) (de_ix (Rm1 hr) (vr 6) de_int) de_int))) (fun _ _ _ _ _ => (de_ix (Rm1 hr) (vr 6) de_int)) (by decide)) (dss_cons (ds_if (DW.dt (dw_and (dt_eq (Rm64 hr) (vr 2) (de_lst da_nil)) (dw_and1 (dt_ne (Rm64 hr) (vr 5) (de_lst da_nil))))) (dss_one (ds_ret (de_tup (da_cons (de_ix (Rm1 hr) (vr 5) (cF F__law_pick hr (by omega) rfl (fun σ => passAt (takes_of rfl rfl rfl rfl) σ) (da_cons (vr 0) (da_cons (de_len rfl m.len (vr 5)) da_nil)))) da_nil)))) dss_nil) (dss_one (ds_ret (de_if (dt_ne (Rm64 hr) (vr 2) (de_lst da_nil)) (de_ix (Rm1 hr) (vr 2) (cF F__law_pick hr (by omega) rfl (fun σ => passAt (takes_of rfl rfl rfl rfl) σ) (da_cons (vr 0) (da_cons (de_len rfl m.len (vr 2)) da_nil)))) (de_str [120, 48] (by kernel_rfl))))))) dss_nil) (dss_cons (sSet 6 sc__law_term.nd (de_ix (Rm1 hr) (vr 4) (cF F__law_pick hr (by omega) rfl (fun σ => passAt (takes_of rfl rfl rfl rfl) σ) (da_cons (vr 0) (da_cons (de_len rfl m.len (vr 4)) da_nil))))) (dss_cons (ds_setLc (i := 7) rfl sc__law_term.nd rfl rfl (sw_true rfl rfl rfl (by decide +kernel)) (di_range1 rfl m.range (de_ix (Rm1 hr) (vr 6) de_int)) (blkOk_by (own := [("k", 8)]) (N := ["source", "algebra", "names", "deep", "signs", "low", "pair", "bits", "k"]) (sc := defScope s__law_term) (by decide +kernel)) (fun _ _ _ _ _ => (gN 8 sc__law_term.nd)) (fun _ _ _ _ _ => dts_nil) (fun _ _ _ _ _ => (cF F__law_term hr (by omega) rfl no_pass (da_cons (vr 0) (da_cons (vr 1) (da_cons (vr 2) (da_cons (de_sub (vr 3) de_int) da_nil)))))) (by decide)) (dss_one (ds_ret (de_tupOf rfl m.tuple (de_add (de_lst (da_cons (de_ix (Rm1 hr) (vr 6) de_int) da_nil)) (vr 7))))))))), fun ds M Q cl h => ?_⟩
  obtain ⟨a0, a1, a2, a3, rfl, h⟩ := S4.of h

  obtain ⟨p, c, A, ns, deep, rfl, hp, rfl, g, rfl, hz, hns, rfl, hd, q⟩ := h
  have ok := g.ok
  have lo := ok.lo
  have gwd : ∀ s ∈ ns, Wrd s := fun s hs => isWord_Wrd (hns s hs)
  have z0 : (0 : Nat) ≤ sizeLine := szl (by omega)
  have z1 : (1 : Nat) ≤ sizeLine := szl (by omega)
  simp only [vw_lawD, ix_lawD, lk_sig, dVar, dC, dOp, dTest, dTru, dAnd, dOr, dNot, dAndV, dOrV, dNotV, dIfE, dNil, dCons, dStar, dTup, dLst, dLstM, dFrz, dNeg, oEq, oNe, dNoO, dSoO, dSl, dNext, dSeq, dBreak, dCont, dExpr, dRet, dRetN, gNm, gNl, gCn, gTp, dAsg, dSet, dAug, dIter, dRng1, dRng2, dYes, dCallB, f1, dIsi, dJoinAt, dFmt, dJs, dJoined, dCall, dstart, rget, rset, dwipe, gSb, dApp, dPop, fMax2, fMin2, dNever, dPairs, dDispG, dDisp, dDispM, dNewK, dNewT, keyD, if_true, if_false, decide_eq_true_eq, Bool.false_eq_true, List.map_cons, List.map_nil, List.length_cons, List.length_nil, List.cons_append, List.nil_append, Nat.reduceAdd, Nat.reduceSub, List.reduceReplicate, e_vw_non, e_vw_bl, e_vw_int, e_vw_str, e_vw_scr, e_vw_lst, e_vw_tup, e_vw_dic, e_vw_dit, e_vw_obj, e_vw_ty, e_flat_non, e_isn_non, e_ty_non, e_flat_bl, e_isn_bl, e_ty_bl, e_flat_int, e_isn_int, e_ty_int, e_flat_str, e_isn_str, e_ty_str, e_flat_scr, e_isn_scr, e_ty_scr, e_flat_lst, e_isn_lst, e_ty_lst, e_flat_tup, e_isn_tup, e_ty_tup, e_flat_dic, e_isn_dic, e_ty_dic, e_flat_dit, e_isn_dit, e_flat_obj, e_isn_obj, e_flat_ty, e_isn_ty, e_add_ii, e_add_ss, e_add_ll, e_add_tt, e_iadd_ii, e_iadd_ss, e_sub_ii, e_mul_ii, e_mul_li, e_mul_si, e_fdiv_ii, e_mod_ii, e_pow_ii, e_deq_nn, e_deq_ii, e_deq_ss, e_deq_bb, e_deq_tt, e_deq_ll, e_deq_st, e_deq_ts, e_deql_n, e_deql_c, e_deql_nc, e_deql_cn, e_isN, e_ix_l, e_ix_t, e_ix_c, e_ix_s, e_ix_d, e_ix_dt, e_in_l, e_in_t, e_in_s, e_in_d, e_in_dt, e_sl_l, e_sl_s, e_len_lst, e_len_tup, e_len_s, e_len_c, e_len_d, e_int_i, e_abs_i, e_str_i, e_tup_l, e_tup_t, e_oLst0_l, e_oLst0_t, e_oLst0M_l, e_oLst0M_t, e_set_l, e_set_d, e_set_t, e_key_i, e_key_s, e_isT_non_bool, e_isT_non_int, e_isT_non_str, e_isT_non_list, e_isT_non_tuple, e_isT_non_dict, e_isT_bool_bool, e_isT_bool_int, e_isT_bool_str, e_isT_bool_list, e_isT_bool_tuple, e_isT_bool_dict, e_isT_int_bool, e_isT_int_int, e_isT_int_str, e_isT_int_list, e_isT_int_tuple, e_isT_int_dict, e_isT_str_bool, e_isT_str_int, e_isT_str_str, e_isT_str_list, e_isT_str_tuple, e_isT_str_dict, e_isT_list_bool, e_isT_list_int, e_isT_list_str, e_isT_list_list, e_isT_list_tuple, e_isT_list_dict, e_isT_tuple_bool, e_isT_tuple_int, e_isT_tuple_str, e_isT_tuple_list, e_isT_tuple_tuple, e_isT_tuple_dict, e_isT_dict_bool, e_isT_dict_int, e_isT_dict_str, e_isT_dict_list, e_isT_dict_tuple, e_isT_dict_dict, e_lt, e_le, e_gt, e_ge, e_fld, e_meth, e_inO, e_lenO, e_eqO, e_S1, e_S2, e_S3, e_S4, dChain, dPar, dIsi2, dMake, dRaise, dX0, dXN, dTryM, dMix, Bool.not_true, Bool.not_false, eq_self, true_and, and_true, true_or, and_self, e_mulM_li, e_addM_ll, dFrzE, Bool.false_bne, Bool.true_bne, dGet, dGet1, dDpop, dIdx, e_dic0, e_dic0M, e_same, sl1, dkey_s, e_cxK, dXf, e_sameP, e_addT, dFrzO, oFrz, dClr, e_lstD]
  refine ⟨_, rfl, ?_⟩
  refine dIf_or (Pf := 0 < deep ∧ A.ops ≠ []) (fun R h1 h2 => ?_) ?_ fun hf => ?_
  · simp? only
    by_cases h0 : deep = 0
    · rw [if_pos (by simp [h0])]; exact h1
    · rw [if_neg (by simp; omega)]
      refine ⟨z0, .inr ⟨sigL_ok ok, nil_ok⟩, ?_⟩
      rw [deqL_nil]
      cases eops : A.ops with
      | nil => rw [eops] at *; exact h1
      | cons o os =>
        have hne : A.ops ≠ [] := by rw [eops]; simp
        simp? only [List.map_cons, List.isEmpty_cons]
        refine ⟨p, c, 4, rfl, hp, by decide, fun k hk => ?_⟩
        simp? only
        by_cases hk0 : k = 0
        · rw [if_pos (by simp [hk0])]
          refine ⟨z0, .inr ⟨sLs_ok gwd, nil_ok⟩, ?_⟩
          rw [deqL_nil]
          cases hb : !(sL ns).isEmpty with
          | true => exact h1
          | false => exact h2 ⟨by omega, hne⟩
        · rw [if_neg (by simp; omega)]
          exact h2 ⟨by omega, hne⟩
  · simp? only
    refine dLc_filter A.ops Op.sigD (fun o => decide (o.ar = 0)) (fun o => .str o.sg) (fun R hR => ?_) (by omega) (fun i o hi R R' h1 h2 => ?_) ?_
    · simp? only; exact hR
    · simp? only [Op.sigD]
      refine ⟨_, atI_n (j := 1) rfl rfl, ?_⟩
      simp? only
      by_cases ha : o.ar = 0
      · rw [if_pos (by simp [ha])]
        exact ⟨_, atI0, h1 (by simp [ha])⟩
      · rw [if_neg (by simp; omega)]
        exact h2 (by simp [ha])
    · have vlow : ∀ M', vw M' (D.lst ((A.ops.filter fun o => decide (o.ar = 0)).map fun o => D.str o.sg)) = .lst ((A.ops.filter fun o => decide (o.ar = 0)).map fun o => D.str o.sg) := fun _ => rfl
      simp? only [deqL_nil, vlow]
      refine ⟨z0, .inr ⟨sLs_ok gwd, nil_ok⟩, ?_⟩
      cases hns2 : ns with
      | cons n0 nr =>
        have gw2 := gwd
        rw [hns2] at gw2
        simp? only [sL, List.map_cons, List.isEmpty_cons]
        rw [List.length_map]
        refine ⟨z0, .inr ⟨sLs_ok gw2, nil_ok⟩, p, c, nr.length + 1, rfl, hp, by rw [hns2, List.length_cons] at hz; omega, fun k hk => ?_⟩
        have hlt : k < (n0 :: nr).length := by rw [List.length_cons]; omega
        simp? only
        refine ⟨_, atI_nat (v := .str (n0 :: nr)[k]) ?_, M, cl, ?_⟩
        · rw [← List.map_cons, List.getElem?_map, List.getElem?_eq_getElem hlt]; rfl
        · have hmem : (n0 :: nr)[k] ∈ ns := by rw [hns2]; exact List.getElem_mem hlt
          have := q (.var (n0 :: nr)[k]) (hns _ hmem) fun w hw => .inl (by rw [unk_var.mp hw]; exact hmem)
          rwa [Tm.D_var] at this
      | nil =>
        have hns0 := hns2
        simp? only [sL, List.map_nil, List.isEmpty_nil]
        have elow : ((A.ops.filter fun o => decide (o.ar = 0)).map fun o => D.str o.sg) = sL ((A.ops.filter fun o => decide (o.ar = 0)).map (·.sg)) := by rw [sL, List.map_map]; rfl
        rw [elow]
        refine ⟨z0, .inr ⟨sLs_ok fun s hs => ?_, nil_ok⟩, ?_⟩
        · obtain ⟨o, ho, rfl⟩ := List.mem_map.mp hs
          exact (ok.op o (List.mem_filter.mp ho).1).wd
        generalize elo : A.ops.filter (fun o => decide (o.ar = 0)) = low
        cases low with
        | nil =>
          simp? only [sL, List.map_nil, List.isEmpty_nil]
          refine ⟨z0, .inr nil_ok, M, cl, ?_⟩
          have hx : isWord (.str x0) = true := by decide
          have := q (.var x0) hx fun w hw => .inr ⟨hns0, unk_var.mp hw⟩
          rwa [Tm.D_var] at this
        | cons l0 lr =>
          have hll : (l0 :: lr).length ≤ 20 := by rw [← elo]; exact Nat.le_trans (List.length_filter_le _ _) lo
          simp? only [sL, List.map_cons, List.isEmpty_cons, List.length_map]
          refine ⟨p, c, lr.length + 1, rfl, hp, by rw [List.length_cons] at hll; omega, fun k hk => ?_⟩
          have hlt : k < (l0 :: lr).length := by rw [List.length_cons]; omega
          have hom : (l0 :: lr)[k] ∈ A.ops.filter fun o => decide (o.ar = 0) := by rw [elo]; exact List.getElem_mem hlt
          obtain ⟨hom, har⟩ := List.mem_filter.mp hom
          simp? only
          refine ⟨_, atI_nat (v := .str (l0 :: lr)[k].sg) ?_, z1, M, cl, ?_⟩
          · rw [← List.map_cons, ← List.map_cons, List.getElem?_map, List.getElem?_map, List.getElem?_eq_getElem hlt]; rfl
          · have := q (.node (l0 :: lr)[k].sg []) ⟨⟨_, op?_of ok hom, by simpa using (of_decide_eq_true har).symm⟩, fun _ h => by cases h⟩ fun w hw => by
              obtain ⟨t, ht, _⟩ := unk_node.mp hw; cases ht
            rwa [Tm.D_node] at this
  · simp? only
    rw [List.length_map]
    refine ⟨p, c, A.ops.length, rfl, hp, by omega, fun k hk => ?_⟩
    have hpos : 0 < A.ops.length := List.length_pos_iff.mpr hf.2
    have hlt : k < A.ops.length := by omega
    have hox : A.ops[k]? = some A.ops[k] := List.getElem?_eq_getElem hlt
    generalize A.ops[k] = o at hox
    have hom := List.mem_of_getElem? hox
    have hoo := ok.op o hom
    simp? only
    refine ⟨_, atI_nat (by rw [List.getElem?_map, hox]; rfl), ?_⟩
    simp? only [Op.sigD]
    cases n with
    | zero => omega
    | succ n =>
    refine dLc_ex (List.range o.ar) (fun i => .int (i : Nat)) Tm.D (fun _ t => TOk A deep t ∧ ∀ w ∈ unk t, w ∈ ns ∨ (ns = [] ∧ w = x0)) (fun R hR => ?_) (by rw [List.length_range]; have := hoo.ar; omega) (fun i x hi R hR => ?_) fun ts htl hts => ?_
    · simp? only
      refine ⟨_, atI_n (j := 1) rfl rfl, ?_⟩
      simp? only [rngD_nat]
      have := hoo.ar
      exact ⟨by omega, by omega, hR⟩
    · simp? only [prev]
      refine ⟨p, c, A, ns, deep - 1, rfl, hp, rfl, g, rfl, hz, hns, by congr 1; omega, by omega, fun t ht hw => hR t ⟨by rwa [show deep - 1 + 1 = deep by omega] at ht, hw⟩⟩
    · simp? only
      refine ⟨_, atI0, z1, ?_⟩
      have := hoo.ar
      rw [List.length_range] at htl
      simp? only [List.length_map]
      refine ⟨szl (by omega), M, cl, ?_⟩
      have hall : ∀ t ∈ ts, TOk A deep t ∧ ∀ w ∈ unk t, w ∈ ns ∨ (ns = [] ∧ w = x0) := fun t ht => by
        obtain ⟨i, hi⟩ := List.mem_iff_getElem?.mp ht
        have hi2 : i < ts.length := (List.getElem?_eq_some_iff.mp hi).1
        exact hts i i t (by rw [List.getElem?_range (by omega)]) hi
      have := q (.node o.sg ts) ⟨⟨o, op?_of ok hom, htl⟩, fun t ht => (hall t ht).1⟩ fun w hw => by
        obtain ⟨t, ht, hw⟩ := unk_node.mp hw
        exact (hall t ht).2 w hw
      rw [Tm.D_node] at this
      exact this
theorem fn__law_term (m : Mg K mg) {f : Addr} {fd : FuncData} (F__law_pick : Fn P w K mg base 1 "_law_pick" ["source", "many"] (S__law_pick K)) (Fd : FunT K "_law_term" s__law_term f fd) (h : mg "_law_term" = some (.ref f)) : Fn P w K mg base 16 "_law_term" ["source", "algebra", "names", "deep"] (S__law_term K) := ok__law_term m F__law_pick Fd h 14

def S__law_workedN (K : PySem.W.Frag) (n : Nat) : DSp := S3 fun x y z M Q _ => ∃ (A : Alg) (t : Tm) (kv : List (DK × D)) (env : Cd → Nat), x = A.lawD ∧ A.Ok ∧ y = t.D ∧ TOk A n t ∧ vw M z = .dic kv ∧ (∀ w ∈ unk t, env w < A.n ∧ dlk kv (.inr w) = some (.int (env w : Nat))) ∧ Q (.int (A.ev env t : Nat)) M
def S__law_worked (K : PySem.W.Frag) : DSp := S__law_workedN K 14
theorem ok__law_worked (m : Mg K mg) {f : Addr} {fd : FuncData} (F__law_at : Fn P w K mg base 1 "_law_at" ["algebra", "k", "row"] (S__law_at K)) (Fd : FunT K "_law_worked" s__law_worked f fd) (h : mg "_law_worked" = some (.ref f)) : ∀ n, Fn P w K mg base (n + 1 + 1) "_law_worked" ["algebra", "term", "values"] (S__law_workedN K n) := by
  refine fn_rec (c := 1) h Fd.kp (Fd.bindsN fun _ _ _ _ _ _ us hl => match us, hl with | [_, _, _], _ => rfl) fun n F__law_worked => ?_
  refine dfn Fd sc__law_worked (fun ds M Q E h => by obtain ⟨_, _, _, rfl, _⟩ := S3.of h; rfl) fun cdv A outer s H E Ed hr => ⟨_, (dss_cons (ds_if (dt_isi .str (by decide) rfl m.isinstance rfl m.str boot_str (vr 1)) (dss_one (ds_ret (de_ix (Rm1 hr) (vr 2) (vr 1)))) dss_nil) (dss_cons (ds_setLc (i := 3) rfl sc__law_worked.nd rfl rfl (sw_true rfl rfl rfl (by decide +kernel)) (di_seq (de_ix (Rm1 hr) (vr 0) (de_str [115, 105, 103, 110, 115] (by kernel_rfl)))) (blkOk_by (own := [("pair", 5)]) (N := ["algebra", "term", "values", "words", "row", "pair", "bit"]) (sc := defScope s__law_worked) (by decide +kernel)) (fun _ _ _ _ _ => (gN 5 sc__law_worked.nd)) (fun _ _ _ _ _ => dts_nil) (fun _ _ _ _ _ => (de_ix (Rm1 hr) (vr 5) de_int)) (by decide)) (dss_cons (ds_setLc (i := 4) rfl sc__law_worked.nd rfl rfl (sw_true rfl rfl rfl (by decide +kernel)) (di_seq (de_sl (vr 1) (do_some de_int) do_none)) (blkOk_by (own := [("bit", 6)]) (N := ["algebra", "term", "values", "words", "row", "pair", "bit"]) (sc := defScope s__law_worked) (by decide +kernel)) (fun _ _ _ _ _ => (gN 6 sc__law_worked.nd)) (fun _ _ _ _ _ => dts_nil) (fun _ _ _ _ _ => (cF F__law_worked hr (by omega) rfl no_pass (da_cons (vr 0) (da_cons (vr 6) (da_cons (vr 2) da_nil))))) (by decide)) (dss_one (ds_ret (cF F__law_at hr (by omega) rfl (fun σ => passAt (takes_of rfl rfl rfl rfl) σ) (da_cons (vr 0) (da_cons (de_idx (vr 3) (de_ix (Rm1 hr) (vr 1) de_int)) (da_cons (vr 4) da_nil))))))))), fun ds M Q cl h => ?_⟩
  obtain ⟨a0, a1, a2, rfl, h⟩ := S3.of h

  obtain ⟨A, t, kv, env, rfl, ok, rfl, ht, hz, he, q⟩ := h
  cases t with
  | var w =>
    simp? only [Tm.D_var, hz, dfind_s]
    refine ⟨_, by rw [(he w (unk_var.mpr rfl)).2], M, cl, ?_⟩
    rwa [ev_var] at q
  | node s ts =>
    simp? only [Tm.D_node, hz, vw_lawD, ix_lawD, lk_sig]
    cases n with
    | zero => exact ht.elim
    | succ n =>
    have lo := ok.lo
    obtain ⟨⟨o, eo, hl⟩, hts⟩ := ht
    obtain ⟨ho, rfl⟩ := op?_some eo
    have hlts : ts.length ≤ 2 := by rw [hl]; exact (ok.op o ho).ar
    have hlt : ∀ t ∈ ts, A.ev env t < A.n := fun t ht => ev_lt ok (hts t ht) fun w hw => (he w (unk_node.mpr ⟨t, ht, hw⟩)).1
    refine dLc_map A.ops Op.sigD (fun o => .str o.sg) (fun R hR => ?_) (by omega) (fun i o hi R hR => ?_) ?_
    · simp? only [vw_lawD, ix_lawD, lk_sig]; exact ⟨_, rfl, hR⟩
    · simp? only [Op.sigD]; exact ⟨_, atI0, hR⟩
    refine dLc_map ts Tm.D (fun t => .int (A.ev env t : Nat)) (fun R hR => ?_) (by omega) (fun i t hi R hR => ?_) ?_
    · simp? only; exact hR
    · simp? only [prev]
      have hm := List.mem_of_getElem? hi
      exact ⟨A, t, kv, env, rfl, ok, rfl, hts t hm, hz, fun w hw => he w (unk_node.mpr ⟨t, hm, hw⟩), hR⟩
    · obtain ⟨j, hj⟩ := List.mem_iff_getElem?.mp ho
      simp? only
      refine ⟨⟨_, rfl⟩, _, atI0, A.ops.map (·.sg), o.sg, j, by rw [List.map_map]; rfl, rfl, by rw [List.getElem?_map, hj]; rfl, fun m z hm hz2 e => ?_, A, j, o, ts.map (A.ev env), rfl, ok, rfl, hj, by simp only [nL, List.map_map]; rfl, by rw [List.length_map]; exact hl, fun v hv => ?_, M, cl, ?_⟩
      · subst e
        have hj' : (A.ops.map (·.sg))[j]? = some o.sg := by rw [List.getElem?_map, hj]; rfl
        have := (List.getElem?_inj (by have := (List.getElem?_eq_some_iff.mp hz2).1; omega) ok.sn).mp (hz2.trans hj'.symm)
        omega
      · obtain ⟨t, ht, rfl⟩ := List.mem_map.mp hv
        exact hlt t ht
      · rw [ev_node eo] at q; exact q
theorem fn__law_worked (m : Mg K mg) {f : Addr} {fd : FuncData} (F__law_at : Fn P w K mg base 1 "_law_at" ["algebra", "k", "row"] (S__law_at K)) (Fd : FunT K "_law_worked" s__law_worked f fd) (h : mg "_law_worked" = some (.ref f)) : Fn P w K mg base 16 "_law_worked" ["algebra", "term", "values"] (S__law_worked K) := ok__law_worked m F__law_at Fd h 14

def S__law_unknownsN (K : PySem.W.Frag) (n : Nat) : DSp := S1 fun x M Q _ => ∃ (A : Alg) (t : Tm), x = t.D ∧ TOk A n t ∧ (∀ o ∈ A.ops, o.ar ≤ 2) ∧ n ≤ 15 ∧ Q (.lst (sL (unk t))) M
def S__law_unknowns (K : PySem.W.Frag) : DSp := S__law_unknownsN K 14
theorem ok__law_unknowns (m : Mg K mg) {f : Addr} {fd : FuncData}  (Fd : FunT K "_law_unknowns" s__law_unknowns f fd) (h : mg "_law_unknowns" = some (.ref f)) : ∀ n, Fn P w K mg base (n + 0 + 1) "_law_unknowns" ["term"] (S__law_unknownsN K n) := by
  refine fn_rec (c := 0) h Fd.kp (Fd.bindsN fun _ _ _ _ _ _ us hl => match us, hl with | [_], _ => rfl) fun n F__law_unknowns => ?_
  refine dfn Fd sc__law_unknowns (fun ds M Q E h => by obtain ⟨_, rfl, _⟩ := S1.of h; rfl) fun cdv A outer s H E Ed hr => ⟨_, (dss_cons (ds_if (dt_isi .str (by decide) rfl m.isinstance rfl m.str boot_str (vr 0)) (dss_one (ds_ret (de_lst (da_cons (vr 0) da_nil)))) dss_nil) (dss_cons (sSet 1 sc__law_unknowns.nd (de_lst da_nil)) (dss_cons (dFor1 (passes_of rfl) (di_seq (de_sl (vr 0) (do_some de_int) do_none)) (gN 2 sc__law_unknowns.nd) (dss_one (sSet 1 sc__law_unknowns.nd (de_add (vr 1) (de_lc rfl sc__law_unknowns.nd (di_seq (cF F__law_unknowns hr (by omega) rfl (fun σ => passAt (takes_of rfl rfl rfl rfl) σ) (da_cons (vr 2) da_nil))) (blkOk_by (own := [("name", 3)]) (N := ["term", "found", "bit", "name"]) (sc := defScope s__law_unknowns) (by decide +kernel)) (fun _ _ _ _ _ => (gN 3 sc__law_unknowns.nd)) (fun _ _ _ _ _ => (dts_one (dt_notIn (Rm65 hr) (vr 3) (vr 1)))) (fun _ _ _ _ _ => (vr 3)) (by decide)))))) (dss_one (ds_ret (vr 1)))))), fun ds M Q cl h => ?_⟩
  obtain ⟨a0, rfl, h⟩ := S1.of h

  obtain ⟨A, t, rfl, ht, har, hn, q⟩ := h
  cases t with
  | var w =>
    simp? only [Tm.D_var]
    refine ⟨szl (by omega), M, cl, ?_⟩
    have : unk (.var w) = [w] := by rw [unk, putU_var]; simp
    rw [this] at q; exact q
  | node s ts =>
    simp? only [Tm.D_node]
    cases n with
    | zero => exact ht.elim
    | succ n =>
    obtain ⟨⟨o, eo, hl⟩, hts⟩ := ht
    have hlts : ts.length ≤ 2 := by rw [hl]; exact har o (op?_some eo).1
    have hlv : lv n ≤ 16384 := by
      have : ∀ n : Fin 15, lv n.val ≤ 16384 := by decide
      exact this ⟨n, by omega⟩
    refine ⟨szl (by omega), ?_⟩
    refine dFor_inv ts Tm.D (fun i ρ M' => M' = M ∧ ∃ o2 o3, ρ = [some (.tup (.str s :: ts.map Tm.D)), some (.lst (sL ((ts.take i).foldl (fun a t => putU t a) []))), o2, o3]) (fun R hR => ?_) ⟨rfl, _, _, rfl⟩ ?_ ?_
    · simp? only; exact hR
    · rintro i t ρ M' hi ⟨rfl, o2, o3, rfl⟩
      have hm := List.mem_of_getElem? hi
      have hi2 : i < ts.length := (List.getElem?_eq_some_iff.mp hi).1
      have hl1 := putUs_len har (ts.take i) [] fun u hu => hts u (List.mem_of_mem_take hu)
      have hl2 := putU_len har (acc := []) (hts t hm)
      have h2 : (ts.take i).length * lv n ≤ 1 * lv n := Nat.mul_le_mul_right _ (by rw [List.length_take]; omega)
      simp only [List.length_nil] at hl1 hl2
      simp? only [prev]
      generalize ea : (ts.take i).foldl (fun a t => putU t a) [] = acc at *
      have hun : (unk t).length ≤ 0 + lv n := hl2
      refine dLc_filter (unk t) D.str (fun w => decide (w ∉ acc)) D.str (fun R hR => ?_) (by omega) (fun i w hi R R' h1 h2 => ?_) ?_
      · simp? only; exact ⟨A, t, rfl, hts t hm, har, by omega, hR⟩
      · simp? only
        refine ⟨.inl (all_flat_str acc), ?_⟩
        rw [show sL acc = acc.map D.str from rfl, any_deq_str]
        by_cases hw : w ∈ acc
        · rw [List.contains_iff_mem.mpr hw]
          exact h2 (by simpa using hw)
        · have : acc.contains w = false := by rw [Bool.eq_false_iff]; exact fun h => hw (List.contains_iff_mem.mp h)
          rw [this]
          exact h1 (by simpa using hw)
      · simp? only [sL_len, List.length_map]
        have hf := List.length_filter_le (fun w => decide (w ∉ acc)) (unk t)
        refine ⟨szl (by omega), some t.D, o3, ?_⟩
        rw [List.take_add_one, hi, Option.toList_some, List.foldl_append, ea, List.foldl_cons, List.foldl_nil, putU_app, sL, sL, List.map_append]
    · rintro ρ M' ⟨rfl, o2, o3, rfl⟩
      rw [List.take_length]
      rw [unk, putU_node] at q
      simp? only
      exact ⟨M', cl, q⟩
theorem fn__law_unknowns (m : Mg K mg) {f : Addr} {fd : FuncData}  (Fd : FunT K "_law_unknowns" s__law_unknowns f fd) (h : mg "_law_unknowns" = some (.ref f)) : Fn P w K mg base 15 "_law_unknowns" ["term"] (S__law_unknowns K) := ok__law_unknowns m  Fd h 14

end
end EK


set_option Elab.async false
set_option linter.all false
set_option maxRecDepth 100000
set_option maxHeartbeats 400000
namespace EK
open PySem PySem.Spec PyProof.Rows L2 DL
local macro_rules
  | `(tactic| simp? only [$ls,*]) => `(tactic| simp only [$ls,*, dVar, dC, dOp, dTest, dTru, dAnd, dOr, dNot, dAndV, dOrV, dNotV, dIfE, dNil, dCons, dStar, dTup, dLst, dLstM, dFrz, dNeg, oEq, oNe, dNoO, dSoO, dSl, dNext, dSeq, dBreak, dCont, dExpr, dRet, dRetN, dIf, gNm, gNl, gCn, gTp, dAsg, dSet, dAug, dIter, dRng1, dRng2, dYes, dCallB, f1, dIsi, dJoinAt, dFmt, dJs, dJoined, dCall, dstart, rget, rset, dwipe, gSb, dApp, dPop, fMax2, fMin2, dNever, dPairs, dDispG, dDisp, dDispM, dNewK, dNewT, keyD, if_true, if_false, decide_eq_true_eq, Bool.false_eq_true, List.map_cons, List.map_nil, List.length_cons, List.length_nil, List.cons_append, List.nil_append, Nat.reduceAdd, Nat.reduceSub, List.reduceReplicate, e_vw_non, e_vw_bl, e_vw_int, e_vw_str, e_vw_scr, e_vw_lst, e_vw_tup, e_vw_dic, e_vw_dit, e_vw_obj, e_vw_ty, e_flat_non, e_isn_non, e_ty_non, e_flat_bl, e_isn_bl, e_ty_bl, e_flat_int, e_isn_int, e_ty_int, e_flat_str, e_isn_str, e_ty_str, e_flat_scr, e_isn_scr, e_ty_scr, e_flat_lst, e_isn_lst, e_ty_lst, e_flat_tup, e_isn_tup, e_ty_tup, e_flat_dic, e_isn_dic, e_ty_dic, e_flat_dit, e_isn_dit, e_flat_obj, e_isn_obj, e_flat_ty, e_isn_ty, e_add_ii, e_add_ss, e_add_ll, e_add_tt, e_iadd_ii, e_iadd_ss, e_sub_ii, e_mul_ii, e_mul_li, e_mul_si, e_fdiv_ii, e_mod_ii, e_pow_ii, e_deq_nn, e_deq_ii, e_deq_ss, e_deq_bb, e_deq_tt, e_deq_ll, e_deq_st, e_deq_ts, e_deql_n, e_deql_c, e_deql_nc, e_deql_cn, e_isN, e_ix_l, e_ix_t, e_ix_c, e_ix_s, e_ix_d, e_ix_dt, e_in_l, e_in_t, e_in_s, e_in_d, e_in_dt, e_sl_l, e_sl_s, e_len_lst, e_len_tup, e_len_s, e_len_c, e_len_d, e_int_i, e_abs_i, e_str_i, e_tup_l, e_tup_t, e_oLst0_l, e_oLst0_t, e_oLst0M_l, e_oLst0M_t, e_set_l, e_set_d, e_set_t, e_key_i, e_key_s, e_isT_non_bool, e_isT_non_int, e_isT_non_str, e_isT_non_list, e_isT_non_tuple, e_isT_non_dict, e_isT_bool_bool, e_isT_bool_int, e_isT_bool_str, e_isT_bool_list, e_isT_bool_tuple, e_isT_bool_dict, e_isT_int_bool, e_isT_int_int, e_isT_int_str, e_isT_int_list, e_isT_int_tuple, e_isT_int_dict, e_isT_str_bool, e_isT_str_int, e_isT_str_str, e_isT_str_list, e_isT_str_tuple, e_isT_str_dict, e_isT_list_bool, e_isT_list_int, e_isT_list_str, e_isT_list_list, e_isT_list_tuple, e_isT_list_dict, e_isT_tuple_bool, e_isT_tuple_int, e_isT_tuple_str, e_isT_tuple_list, e_isT_tuple_tuple, e_isT_tuple_dict, e_isT_dict_bool, e_isT_dict_int, e_isT_dict_str, e_isT_dict_list, e_isT_dict_tuple, e_isT_dict_dict, e_lt, e_le, e_gt, e_ge, e_fld, e_meth, e_inO, e_lenO, e_eqO, e_S1, e_S2, e_S3, e_S4, dChain, dPar, dIsi2, dMake, dRaise, dX0, dXN, dTryM, dMix, Bool.not_true, Bool.not_false, eq_self, true_and, and_true, true_or, and_self, e_mulM_li, e_addM_ll, dFrzE, Bool.false_bne, Bool.true_bne, dGet, dGet1, dDpop, dIdx, e_dic0, e_dic0M, e_same, sl1, dkey_s, e_cxK, dXf, e_sameP, e_addT, dFrzO, oFrz, dClr, e_lstD])
  | `(tactic| simp? only) => `(tactic| simp? only [eq_self])
section
variable {P : Program} {w : World} {K : PySem.W.Frag} {mg : Str → Option Value} {base : Heap}
/-! ### where an equation fails -/
def nbOf (l r : Tm) : List Cd := putU r (unk l)
def envZ (nb : List Cd) (row : List Nat) (w : Cd) : Nat := ((nb.zip row).lookup w).getD 0
def neqRow (A : Alg) (l r : Tm) (row : List Nat) : Bool := decide (A.ev (envZ (nbOf l r) row) l ≠ A.ev (envZ (nbOf l r) row) r)
def failsAt (A : Alg) (l r : Tm) : Option (List Nat) := (rowsN A.n (nbOf l r).length).find? (neqRow A l r)
def rowD (A : Alg) (nb : List Cd) (row : List Nat) : List (DK × D) := eD (fun i => D.str (A.nm i)) (nb.zip row)
theorem nb_nodup {l r : Tm} : (nbOf l r).Nodup := putU_nodup r _ (unk_nodup l)
theorem nb_mem {l r : Tm} {w : Cd} : w ∈ nbOf l r ↔ w ∈ unk l ∨ w ∈ unk r := by
  unfold nbOf
  rw [putU_app]
  simp only [List.mem_append, List.mem_filter, decide_eq_true_eq]
  by_cases h1 : w ∈ unk l <;> by_cases h2 : w ∈ unk r <;> simp [h1, h2]
theorem zip_keys {α β : Type} {xs : List α} {ys : List β} (h : ys.length = xs.length) : (xs.zip ys).map (·.1) = xs := by
  rw [List.map_fst_zip]; omega
theorem lookup_zip {α : Type} {w : Cd} : ∀ {nb : List Cd} {row : List α}, row.length = nb.length → w ∈ nb → ∃ x ∈ row, (nb.zip row).lookup w = some x
  | [], _, _, h => by cases h
  | n :: nb, [], h, _ => by simp at h
  | n :: nb, x :: row, h, hm => by
    rw [List.zip_cons_cons, lookup_cons']
    by_cases e : n = w
    · exact ⟨x, by simp, by rw [if_pos e]⟩
    · obtain ⟨y, hy, e2⟩ := lookup_zip (w := w) (nb := nb) (row := row) (by simpa using h) ((List.mem_cons.mp hm).resolve_left fun z => e z.symm)
      exact ⟨y, by simp [hy], by rw [if_neg e]; exact e2⟩
theorem envZ_ok {n : Nat} {nb : List Cd} {row : List Nat} (hr : row ∈ rowsN n nb.length) {w : Cd} (hw : w ∈ nb) : envZ nb row w < n ∧ (nb.zip row).lookup w = some (envZ nb row w) := by
  obtain ⟨h1, h2⟩ := mem_rowsN.mp hr
  obtain ⟨x, hx, e⟩ := lookup_zip (row := row) h1 hw
  unfold envZ
  rw [e]
  exact ⟨h2 x hx, rfl⟩
theorem nm_inj' {A : Alg} (nd : A.mem.Nodup) {i j : Nat} (hi : i < A.n) (hj : j < A.n) : A.nm i = A.nm j ↔ i = j := by
  refine ⟨fun h => ?_, fun h => by rw [h]⟩
  have := pl_nm nd hi
  rw [h, pl_nm nd hj] at this
  exact this.symm
theorem tuples_rows {A : Alg} {k : Nat} : (tuplesOf (sL A.mem) k).map D.tup = (rowsN A.n k).map fun r => D.tup (sL (r.map A.nm)) := by
  rw [sL, tuplesOf_map, mem_nm, tuplesOf_map, List.map_map, List.map_map]
  rfl
theorem rowD_len {A : Alg} {nb : List Cd} {row : List Nat} : (rowD A nb row).length ≤ nb.length := by
  unfold rowD
  rw [eD_len, List.length_zip]; omega
theorem rowD_nodup {A : Alg} {nb : List Cd} {row : List Nat} (h : nb.Nodup) (hl : row.length = nb.length) : ((rowD A nb row).map (·.1)).Nodup := eD_keys (by rw [zip_keys hl]; exact h)
theorem rowD_flat {A : Alg} {nb : List Cd} {row : List Nat} : ∀ p ∈ rowD A nb row, flatD p.2 = true := fun q hq => by
  obtain ⟨x, _, rfl⟩ := List.mem_map.mp hq; rfl
def S_unknowns_of_both (K : PySem.W.Frag) : DSp := S2 fun x y M Q _ => ∃ (A : Alg) (l r : Tm), x = l.D ∧ y = r.D ∧ TOk A 14 l ∧ TOk A 14 r ∧ (∀ o ∈ A.ops, o.ar ≤ 2) ∧ lv 14 ≤ 200000 ∧ ∀ q, M q = none → Q (.ref q) (mset M q (.lst (sL (nbOf l r))))
theorem ok_unknowns_of_both (m : Mg K mg) {f : Addr} {fd : FuncData} (F_put_unknowns : Fn P w K mg base 15 "put_unknowns" ["term", "found"] (S_put_unknowns K)) (Fd : FunT K "unknowns_of_both" s_unknowns_of_both f fd) (h : mg "unknowns_of_both" = some (.ref f)) : Fn P w K mg base 16 "unknowns_of_both" ["left", "right"] (S_unknowns_of_both K) := by
  refine ⟨f, fd, ?_, h, Fd.kp, Fd.bindsN fun _ _ _ _ _ _ us hl => match us, hl with | [_, _], _ => rfl⟩
  refine dfn Fd sc_unknowns_of_both (fun ds M Q E h => by obtain ⟨_, _, rfl, _⟩ := S2.of h; rfl) fun cdv A outer s H E Ed hr => ⟨_, (dss_cons (sSet 2 sc_unknowns_of_both.nd (de_lstM da_nil)) (dss_cons (ds_expr (cF F_put_unknowns hr (by omega) rfl (fun σ => passAt (takes_of rfl rfl rfl rfl) σ) (da_cons (vr 0) (da_cons (vr 2) da_nil)))) (dss_cons (ds_expr (cF F_put_unknowns hr (by omega) rfl (fun σ => passAt (takes_of rfl rfl rfl rfl) σ) (da_cons (vr 1) (da_cons (vr 2) da_nil)))) (dss_one (ds_ret (vr 2)))))), fun ds M Q cl h => ?_⟩
  obtain ⟨a0, a1, rfl, h⟩ := S2.of h

  obtain ⟨A, l, r, rfl, rfl, hl, hr, har, hlv, q⟩ := h
  simp? only [dExpr]
  refine ⟨szl (by omega), fun p hp => ⟨A, l, p, [], rfl, hl, har, rfl, mset_same, by simp only [List.length_nil]; omega, ?_⟩⟩
  rw [mset_mset]
  have := putU_len har (acc := []) hl
  simp only [List.length_nil] at this
  refine ⟨A, r, p, _, rfl, hr, har, rfl, mset_same, by omega, ?_⟩
  rw [mset_mset]
  exact ⟨_, cl.set (by rw [hp]; simp) (by simp), q p hp⟩
def S_fails (K : PySem.W.Frag) : DSp := S3 fun x y z M Q E => ∃ (C : Addr) (A : Alg), x = A.obj C ∧ okc_Algebra K C ∧ A.Ok ∧ okT y = true ∧ dDep y ≤ 14 ∧ okT z = true ∧ dDep z ≤ 14 ∧ lv 14 ≤ 200000 ∧ (isTm A y = false ∨ isTm A z = false → E (He.ga K "BadTerm") [] M) ∧
  (∀ l r, y = l.D → z = r.D → TOk A 14 l → TOk A 14 r → (A.n + 1) ^ (nbOf l r).length ≤ 100000 ∧ (nbOf l r).length ≤ 10 ∧ (failsAt A l r = none → Q .non M) ∧ ∀ row, failsAt A l r = some row → ∀ p, M p = none → Q (.ref p) (mset M p (.dic (rowD A (nbOf l r) row))))
theorem ok_fails (m : Mg K mg) {f : Addr} {fd : FuncData} (F_check_term : Fn P w K mg base 18 "check_term" ["algebra", "term"] (S_check_term K)) (F_unknowns_of_both : Fn P w K mg base 16 "unknowns_of_both" ["left", "right"] (S_unknowns_of_both K)) (F_tuples_of : Fn P w K mg base 1 "tuples_of" ["things", "many"] (S_tuples_of K)) (M_Algebra_members : Mt P w K mg base 1 (okc_Algebra K) "members" ["self"] (S_Algebra_members K)) (F_worked_out : Fn P w K mg base 15 "worked_out" ["algebra", "term", "values"] (S_worked_out K)) (Fd : FunT K "fails" s_fails f fd) (h : mg "fails" = some (.ref f)) : Fn P w K mg base 19 "fails" ["algebra", "left", "right"] (S_fails K) := by
  refine ⟨f, fd, ?_, h, Fd.kp, Fd.bindsN fun _ _ _ _ _ _ us hl => match us, hl with | [_, _, _], _ => rfl⟩
  refine dfn Fd sc_fails (fun ds M Q E h => by obtain ⟨_, _, _, rfl, _⟩ := S3.of h; rfl) fun cdv A outer s H E Ed hr => ⟨_, (dss_cons (ds_expr (cF F_check_term hr (by omega) rfl (fun σ => passAt (takes_of rfl rfl rfl rfl) σ) (da_cons (vr 0) (da_cons (vr 1) da_nil)))) (dss_cons (ds_expr (cF F_check_term hr (by omega) rfl (fun σ => passAt (takes_of rfl rfl rfl rfl) σ) (da_cons (vr 0) (da_cons (vr 2) da_nil)))) (dss_cons (sSet 3 sc_fails.nd (de_frzE (cF F_unknowns_of_both hr (by omega) rfl (fun σ => passAt (takes_of rfl rfl rfl rfl) σ) (da_cons (vr 1) (da_cons (vr 2) da_nil))))) (dss_cons (dFor1 (passes_of rfl) (di_seq (cF F_tuples_of hr (by omega) rfl (fun σ => passAt (takes_of rfl rfl rfl rfl) σ) (da_cons (cM0 M_Algebra_members hr (by omega) (fun σ => passAt (takes_of rfl rfl rfl rfl) σ) (vr 0)) (da_cons (de_len rfl m.len (vr 3)) da_nil)))) (gN 4 sc_fails.nd) (dss_cons (ds_setDcGM (i := 5) (Rm1 hr) rfl sc_fails.nd rfl rfl (sw_trueD rfl rfl rfl (by decide +kernel)) (di_zip rfl m.zip (vr 3) (vr 4)) (blkOk_by (own := [("name", 6), ("value", 7)]) (N := ["algebra", "left", "right", "names", "row", "values", "name", "value"]) (sc := defScope s_fails) (by decide +kernel)) (fun _ _ _ _ _ => (dg_tup (n := 2) rfl (dgs_cons (gN 6 sc_fails.nd) (dgs_cons (gN 7 sc_fails.nd) dgs_nil)))) (fun _ _ _ _ _ => dts_nil) (fun _ _ _ _ _ => (vr 6)) (fun _ _ _ _ _ => (vr 7)) (by decide)) (dss_one (ds_if (dt_ne (Rm64 hr) (cF F_worked_out hr (by omega) rfl (fun σ => passAt (takes_of rfl rfl rfl rfl) σ) (da_cons (vr 0) (da_cons (vr 1) (da_cons (vr 5) da_nil)))) (cF F_worked_out hr (by omega) rfl (fun σ => passAt (takes_of rfl rfl rfl rfl) σ) (da_cons (vr 0) (da_cons (vr 2) (da_cons (vr 5) da_nil))))) (dss_one (ds_ret (vr 5))) dss_nil)))) (dss_one (ds_ret de_non)))))), fun ds M Q cl h => ?_⟩
  obtain ⟨a0, a1, a2, rfl, h⟩ := S3.of h

  obtain ⟨C, A, rfl, hC, ok, hy, hd, hz, hdz, hlv, h1, h2⟩ := h
  simp? only [dExpr]
  refine ⟨C, A, rfl, hC, ok, hy, hd, fun e1 => ?_, fun e => ⟨M, cl, h1 (.inl e)⟩⟩
  refine ⟨C, A, rfl, hC, ok, hz, hdz, fun e2 => ?_, fun e => ⟨M, cl, h1 (.inr e)⟩⟩
  obtain ⟨l, rfl, hl⟩ := isTm_tm e1 hd
  obtain ⟨r, rfl, hr⟩ := isTm_tm e2 hdz
  obtain ⟨hsz, hnb, q1, q2⟩ := h2 l r rfl rfl hl hr
  have har : ∀ o ∈ A.ops, o.ar ≤ 2 := fun o ho => (ok.op o ho).ar
  refine ⟨A, l, r, rfl, rfl, hl, hr, har, hlv, fun q0 hq0 => ⟨q0, _, _, rfl, mset_same, rfl, ?_⟩⟩
  rw [mdel_mset hq0]
  have nd := nb_nodup (l := l) (r := r)
  unfold failsAt at q1 q2
  have hul : ∀ w ∈ unk l, w ∈ nbOf l r := fun w hw => nb_mem.mpr (.inl hw)
  have hur : ∀ w ∈ unk r, w ∈ nbOf l r := fun w hw => nb_mem.mpr (.inr hw)
  have eneq : ∀ row, neqRow A l r row = decide (A.ev (envZ (nbOf l r) row) l ≠ A.ev (envZ (nbOf l r) row) r) := fun _ => rfl
  generalize nbOf l r = nb at *
  refine gen_nx (t := dFor _ _ _) fun R hR => ?_
  refine dFor_inv (rowsN A.n nb.length) (fun r => D.tup (sL (r.map A.nm))) (fun i ρ M' => DL.Sub M M' ∧ (∀ x ∈ (rowsN A.n nb.length).take i, neqRow A l r x = false) ∧ ∃ o4 o5 o6 o7, ρ = [some (A.obj C), some l.D, some r.D, some (.lst (sL nb)), o4, o5, o6, o7]) (fun R hR => ?_) ⟨cl, by simp, _, _, _, _, rfl⟩ ?_ ?_
  · simp? only
    refine ⟨isO_t rfl hC, C, A, rfl, hC, _, _, .inl rfl, rfl, ?_, by rw [sL_len]; exact hnb, ?_⟩
    · rw [sL_len, sL_len]; exact Nat.le_trans hsz (by omega)
    · rw [sL_len, tuples_rows]; exact hR
  · rintro i row ρ M' hi ⟨cl', hx, o4, o5, o6, o7, rfl⟩
    have hrm := List.mem_of_getElem? hi
    have hrl := (mem_rowsN.mp hrm).1
    simp only [dVar, dC, dOp, dTest, dTru, dAnd, dOr, dNot, dAndV, dOrV, dNotV, dIfE, dNil, dCons, dStar, dTup, dLst, dLstM, dFrz, dNeg, oEq, oNe, dNoO, dSoO, dSl, dNext, dSeq, dBreak, dCont, dExpr, dRet, dRetN, gNm, gNl, gCn, gTp, dAsg, dSet, dAug, dIter, dRng1, dRng2, dYes, dCallB, f1, dIsi, dJoinAt, dFmt, dJs, dJoined, dCall, dstart, rget, rset, dwipe, gSb, dApp, dPop, fMax2, fMin2, dNever, dPairs, dDispG, dDisp, dDispM, dNewK, dNewT, keyD, if_true, if_false, decide_eq_true_eq, Bool.false_eq_true, List.map_cons, List.map_nil, List.length_cons, List.length_nil, List.cons_append, List.nil_append, Nat.reduceAdd, Nat.reduceSub, List.reduceReplicate, e_vw_non, e_vw_bl, e_vw_int, e_vw_str, e_vw_scr, e_vw_lst, e_vw_tup, e_vw_dic, e_vw_dit, e_vw_obj, e_vw_ty, e_flat_non, e_isn_non, e_ty_non, e_flat_bl, e_isn_bl, e_ty_bl, e_flat_int, e_isn_int, e_ty_int, e_flat_str, e_isn_str, e_ty_str, e_flat_scr, e_isn_scr, e_ty_scr, e_flat_lst, e_isn_lst, e_ty_lst, e_flat_tup, e_isn_tup, e_ty_tup, e_flat_dic, e_isn_dic, e_ty_dic, e_flat_dit, e_isn_dit, e_flat_obj, e_isn_obj, e_flat_ty, e_isn_ty, e_add_ii, e_add_ss, e_add_ll, e_add_tt, e_iadd_ii, e_iadd_ss, e_sub_ii, e_mul_ii, e_mul_li, e_mul_si, e_fdiv_ii, e_mod_ii, e_pow_ii, e_deq_nn, e_deq_ii, e_deq_ss, e_deq_bb, e_deq_tt, e_deq_ll, e_deq_st, e_deq_ts, e_deql_n, e_deql_c, e_deql_nc, e_deql_cn, e_isN, e_ix_l, e_ix_t, e_ix_c, e_ix_s, e_ix_d, e_ix_dt, e_in_l, e_in_t, e_in_s, e_in_d, e_in_dt, e_sl_l, e_sl_s, e_len_lst, e_len_tup, e_len_s, e_len_c, e_len_d, e_int_i, e_abs_i, e_str_i, e_tup_l, e_tup_t, e_oLst0_l, e_oLst0_t, e_oLst0M_l, e_oLst0M_t, e_set_l, e_set_d, e_set_t, e_key_i, e_key_s, e_isT_non_bool, e_isT_non_int, e_isT_non_str, e_isT_non_list, e_isT_non_tuple, e_isT_non_dict, e_isT_bool_bool, e_isT_bool_int, e_isT_bool_str, e_isT_bool_list, e_isT_bool_tuple, e_isT_bool_dict, e_isT_int_bool, e_isT_int_int, e_isT_int_str, e_isT_int_list, e_isT_int_tuple, e_isT_int_dict, e_isT_str_bool, e_isT_str_int, e_isT_str_str, e_isT_str_list, e_isT_str_tuple, e_isT_str_dict, e_isT_list_bool, e_isT_list_int, e_isT_list_str, e_isT_list_list, e_isT_list_tuple, e_isT_list_dict, e_isT_tuple_bool, e_isT_tuple_int, e_isT_tuple_str, e_isT_tuple_list, e_isT_tuple_tuple, e_isT_tuple_dict, e_isT_dict_bool, e_isT_dict_int, e_isT_dict_str, e_isT_dict_list, e_isT_dict_tuple, e_isT_dict_dict, e_lt, e_le, e_gt, e_ge, e_fld, e_meth, e_inO, e_lenO, e_eqO, e_S1, e_S2, e_S3, e_S4, dChain, dPar, dIsi2, dMake, dRaise, dX0, dXN, dTryM, dMix, Bool.not_true, Bool.not_false, eq_self, true_and, and_true, true_or, and_self, e_mulM_li, e_addM_ll, dFrzE, Bool.false_bne, Bool.true_bne, dGet, dGet1, dDpop, dIdx, e_dic0, e_dic0M, e_same, sl1, dkey_s, e_cxK, dXf, e_sameP, e_addT, dFrzO, oFrz, dClr, e_lstD]
    refine dDcM_nodup (nb.zip row) (fun p => .tup [.str p.1, .str (A.nm p.2)]) (fun p => .str p.1) (fun p => .inr p.1) (fun p => .str (A.nm p.2)) (fun R hR => ?_) (by rw [List.length_zip]; omega) ?_ (fun p => rfl) (fun i p hp R2 h2 => ?_) fun q hq => ?_
    · simp? only [dZip]
      refine ⟨.l, .t, _, _, rfl, rfl, ?_⟩
      rw [sL, sL, List.map_map, zipD_map D.str (D.str ∘ A.nm)]
      exact hR
    · have : (nb.zip row).map (fun p => (Sum.inr p.1 : DK)) = ((nb.zip row).map (·.1)).map Sum.inr := by rw [List.map_map]; rfl
      rw [this, zip_keys hrl]
      exact List.Pairwise.map _ (fun a b h e => h (Sum.inr.inj e)) nd
    · simp? only; exact h2
    · have eD1 : ((nb.zip row).map fun p => ((Sum.inr p.1 : DK), D.str (A.nm p.2))) = rowD A nb row := rfl
      rw [eD1]
      have hlt : ∀ t, TOk A 14 t → (∀ w ∈ unk t, w ∈ nb) → A.ev (envZ nb row) t < A.n := fun t ht hu => ev_lt ok ht fun w hw => (envZ_ok hrm (hu w hw)).1
      have hkv : ∀ t, (∀ w ∈ unk t, w ∈ nb) → ∀ w ∈ unk t, envZ nb row w < A.n ∧ dlk (rowD A nb row) (.inr w) = some (.str (A.nm (envZ nb row w))) := fun t hu w hw => by
        obtain ⟨h1, h2⟩ := envZ_ok hrm (hu w hw)
        refine ⟨h1, ?_⟩
        unfold rowD
        rw [dlk_eD, h2]; rfl
      simp? only
      refine ⟨C, A, l, _, envZ nb row, rfl, hC, ok, rfl, hl, vw_d mset_same, hkv l hul, ?_⟩
      refine ⟨C, A, r, _, envZ nb row, rfl, hC, ok, rfl, hr, vw_d mset_same, hkv r hur, ?_⟩
      have hnew : DL.Sub M (mset M' q (.dic (rowD A nb row))) := cl'.new (sub_none cl' hq)
      have e3 := nm_inj' ok.nd (hlt l hl hul) (hlt r hr hur)
      simp? only
      by_cases e : A.ev (envZ nb row) l = A.ev (envZ nb row) r
      · rw [if_neg (by simp [e])]
        exact ⟨hnew, take_snoc hi hx (by rw [eneq]; simpa using e), _, _, _, _, rfl⟩
      · rw [if_pos (by simpa using fun z => e (e3.mp z))]
        exact ⟨mset M q (.dic (rowD A nb row)), cl'.set (by rw [sub_none cl' hq]; simp) (by simp), q2 row (find_at hi hx (by rw [eneq]; simpa using e)) q (sub_none cl' hq)⟩
  · rintro ρ M' ⟨cl', hx, o4, o5, o6, o7, rfl⟩
    rw [List.take_length] at hx
    refine hR _ _ ?_
    simp? only
    exact ⟨M, cl', q1 (List.find?_eq_none.mpr fun x hx2 => by rw [hx x hx2]; decide)⟩
end
end EK


set_option Elab.async false
set_option linter.all false
set_option maxRecDepth 100000
set_option maxHeartbeats 400000
namespace EK
open PySem PySem.Spec PyProof.Rows L2 DL
local macro_rules
  | `(tactic| simp? only [$ls,*]) => `(tactic| simp only [$ls,*, dVar, dC, dOp, dTest, dTru, dAnd, dOr, dNot, dAndV, dOrV, dNotV, dIfE, dNil, dCons, dStar, dTup, dLst, dLstM, dFrz, dNeg, oEq, oNe, dNoO, dSoO, dSl, dNext, dSeq, dBreak, dCont, dExpr, dRet, dRetN, dIf, gNm, gNl, gCn, gTp, dAsg, dSet, dAug, dIter, dRng1, dRng2, dYes, dCallB, f1, dIsi, dJoinAt, dFmt, dJs, dJoined, dCall, dstart, rget, rset, dwipe, gSb, dApp, dPop, fMax2, fMin2, dNever, dPairs, dDispG, dDisp, dDispM, dNewK, dNewT, keyD, if_true, if_false, decide_eq_true_eq, Bool.false_eq_true, List.map_cons, List.map_nil, List.length_cons, List.length_nil, List.cons_append, List.nil_append, Nat.reduceAdd, Nat.reduceSub, List.reduceReplicate, e_vw_non, e_vw_bl, e_vw_int, e_vw_str, e_vw_scr, e_vw_lst, e_vw_tup, e_vw_dic, e_vw_dit, e_vw_obj, e_vw_ty, e_flat_non, e_isn_non, e_ty_non, e_flat_bl, e_isn_bl, e_ty_bl, e_flat_int, e_isn_int, e_ty_int, e_flat_str, e_isn_str, e_ty_str, e_flat_scr, e_isn_scr, e_ty_scr, e_flat_lst, e_isn_lst, e_ty_lst, e_flat_tup, e_isn_tup, e_ty_tup, e_flat_dic, e_isn_dic, e_ty_dic, e_flat_dit, e_isn_dit, e_flat_obj, e_isn_obj, e_flat_ty, e_isn_ty, e_add_ii, e_add_ss, e_add_ll, e_add_tt, e_iadd_ii, e_iadd_ss, e_sub_ii, e_mul_ii, e_mul_li, e_mul_si, e_fdiv_ii, e_mod_ii, e_pow_ii, e_deq_nn, e_deq_ii, e_deq_ss, e_deq_bb, e_deq_tt, e_deq_ll, e_deq_st, e_deq_ts, e_deql_n, e_deql_c, e_deql_nc, e_deql_cn, e_isN, e_ix_l, e_ix_t, e_ix_c, e_ix_s, e_ix_d, e_ix_dt, e_in_l, e_in_t, e_in_s, e_in_d, e_in_dt, e_sl_l, e_sl_s, e_len_lst, e_len_tup, e_len_s, e_len_c, e_len_d, e_int_i, e_abs_i, e_str_i, e_tup_l, e_tup_t, e_oLst0_l, e_oLst0_t, e_oLst0M_l, e_oLst0M_t, e_set_l, e_set_d, e_set_t, e_key_i, e_key_s, e_isT_non_bool, e_isT_non_int, e_isT_non_str, e_isT_non_list, e_isT_non_tuple, e_isT_non_dict, e_isT_bool_bool, e_isT_bool_int, e_isT_bool_str, e_isT_bool_list, e_isT_bool_tuple, e_isT_bool_dict, e_isT_int_bool, e_isT_int_int, e_isT_int_str, e_isT_int_list, e_isT_int_tuple, e_isT_int_dict, e_isT_str_bool, e_isT_str_int, e_isT_str_str, e_isT_str_list, e_isT_str_tuple, e_isT_str_dict, e_isT_list_bool, e_isT_list_int, e_isT_list_str, e_isT_list_list, e_isT_list_tuple, e_isT_list_dict, e_isT_tuple_bool, e_isT_tuple_int, e_isT_tuple_str, e_isT_tuple_list, e_isT_tuple_tuple, e_isT_tuple_dict, e_isT_dict_bool, e_isT_dict_int, e_isT_dict_str, e_isT_dict_list, e_isT_dict_tuple, e_isT_dict_dict, e_lt, e_le, e_gt, e_ge, e_fld, e_meth, e_inO, e_lenO, e_eqO, e_S1, e_S2, e_S3, e_S4, dChain, dPar, dIsi2, dMake, dRaise, dX0, dXN, dTryM, dMix, Bool.not_true, Bool.not_false, eq_self, true_and, and_true, true_or, and_self, e_mulM_li, e_addM_ll, dFrzE, Bool.false_bne, Bool.true_bne, dGet, dGet1, dDpop, dIdx, e_dic0, e_dic0M, e_same, sl1, dkey_s, e_cxK, dXf, e_sameP, e_addT, dFrzO, oFrz, dClr, e_lstD])
  | `(tactic| simp? only) => `(tactic| simp? only [eq_self])
section
variable {P : Program} {w : World} {K : PySem.W.Frag} {mg : Str → Option Value} {base : Heap}
def kTerm : Cd := [116, 101, 114, 109]
def SaidB (K : PySem.W.Frag) (x y z : D) (M : Mp) (Q : D → Mp → Prop) : Prop := ∃ (C : Addr) (A : Alg), x = A.obj C ∧ okc_Algebra K C ∧ A.Ok ∧ okT y = true ∧ dDep y ≤ 14 ∧ okT z = true ∧ dDep z ≤ 14 ∧ (isTm A y = false ∨ isTm A z = false → Q (.str kTerm) M) ∧
  (∀ l r, y = l.D → z = r.D → TOk A 14 l → TOk A 14 r → (A.n + 1) ^ (nbOf l r).length ≤ 100000 ∧ (nbOf l r).length ≤ 10 ∧ (failsAt A l r = none → Q .non M) ∧ ∀ row, failsAt A l r = some row → ∀ p, M p = none → Q (.ref p) (mset M p (.dic (rowD A (nbOf l r) row))))
structure EqOk (A : Alg) (l r : Tm) : Prop where
  l14 : TOk A 14 l
  r14 : TOk A 14 r
  sz : (A.n + 1) ^ (nbOf l r).length ≤ 100000
  nb : (nbOf l r).length ≤ 10
section
variable {C : Addr} {A : Alg} {l r : Tm} {M : Mp} {Q : D → Mp → Prop}
theorem SaidB.none (hC : okc_Algebra K C) (ok : A.Ok) (g : EqOk A l r) (ef : failsAt A l r = .none) (q : Q .non M) : SaidB K (A.obj C) l.D r.D M Q :=
  have wd : ∀ o ∈ A.ops, Wrd o.sg := fun o ho => (ok.op o ho).wd
  ⟨C, A, rfl, hC, ok, okT_tm wd g.l14, dDep_tm g.l14, okT_tm wd g.r14, dDep_tm g.r14, fun e => by rw [tm_isTm g.l14, tm_isTm g.r14] at e; simp at e, fun l' r' el er _ _ => by
    obtain rfl := Tm.D_inj el
    obtain rfl := Tm.D_inj er
    exact ⟨g.sz, g.nb, fun _ => q, fun row e => by rw [ef] at e; cases e⟩⟩
theorem SaidB.some (hC : okc_Algebra K C) (ok : A.Ok) (g : EqOk A l r) {row : List Nat} (ef : failsAt A l r = .some row) (q : ∀ p, M p = .none → Q (.ref p) (mset M p (.dic (rowD A (nbOf l r) row)))) : SaidB K (A.obj C) l.D r.D M Q :=
  have wd : ∀ o ∈ A.ops, Wrd o.sg := fun o ho => (ok.op o ho).wd
  ⟨C, A, rfl, hC, ok, okT_tm wd g.l14, dDep_tm g.l14, okT_tm wd g.r14, dDep_tm g.r14, fun e => by rw [tm_isTm g.l14, tm_isTm g.r14] at e; simp at e, fun l' r' el er _ _ => by
    obtain rfl := Tm.D_inj el
    obtain rfl := Tm.D_inj er
    exact ⟨g.sz, g.nb, fun e => (by rw [ef] at e; cases e), fun row' e => by rw [ef] at e; cases e; exact q⟩⟩
theorem SaidB.bad (hC : okc_Algebra K C) (ok : A.Ok) {y z : D} (hy : okT y = true) (dy : dDep y ≤ 14) (hz : okT z = true) (dz : dDep z ≤ 14) (h : isTm A y = false ∨ isTm A z = false) (q : Q (.str kTerm) M) : SaidB K (A.obj C) y z M Q :=
  ⟨C, A, rfl, hC, ok, hy, dy, hz, dz, fun _ => q, fun l' r' el er hl hr => by
    subst el er
    rw [tm_isTm hl, tm_isTm hr] at h
    simp at h⟩
end
def S__law_said (K : PySem.W.Frag) : DSp := S3 fun x y z M Q _ => SaidB K x y z M Q
theorem e_said {x y z : D} {M : Mp} {Q : D → Mp → Prop} {E} : S__law_said K [x, y, z] M Q E = SaidB K x y z M Q := rfl
theorem ok__law_said (m : Mg K mg) {f : Addr} {fd : FuncData} (F_fails : Fn P w K mg base 19 "fails" ["algebra", "left", "right"] (S_fails K)) (Fd : FunT K "_law_said" s__law_said f fd) (h : mg "_law_said" = some (.ref f)) : Fn P w K mg base 20 "_law_said" ["made", "left", "right"] (S__law_said K) := by
  refine ⟨f, fd, ?_, h, Fd.kp, Fd.bindsN fun _ _ _ _ _ _ us hl => match us, hl with | [_, _, _], _ => rfl⟩
  refine dfn Fd sc__law_said (fun ds M Q E h => by obtain ⟨_, _, _, rfl, _⟩ := S3.of h; rfl) fun cdv A outer s H E Ed hr => ⟨_, (dss_cons (sSet 3 sc__law_said.nd (de_str [] (by kernel_rfl))) (dss_cons (ds_tryM rfl rfl (takes_of rfl rfl rfl rfl) (fun W Ee' pn xe tk po => (dss_one (sSet 3 sc__law_said.nd (cF F_fails hr (by omega) rfl (fun σ => passAt tk σ) (da_cons (vr 0) (da_cons (vr 1) (da_cons (vr 2) da_nil))))))) (.cons ⟨rfl, by decide, .inl m.g_BadTerm⟩ (fun a oe cls d pn hz hd => (dss_one (sSet 3 sc__law_said.nd (de_str [116, 101, 114, 109] (by kernel_rfl))))) .nil)) (dss_one (ds_ret (vr 3))))), fun ds M Q cl h => ?_⟩
  obtain ⟨a0, a1, a2, rfl, h⟩ := S3.of h

  obtain ⟨C, A, rfl, hC, ok, hy, hd, hz, hdz, h1, h2⟩ := h
  simp? only
  refine ⟨C, A, rfl, hC, ok, hy, hd, hz, hdz, by decide, fun e => ?_, fun l r el er hl hr => ?_⟩
  · simp? only [m.xm_BadTerm_BadTerm]
    exact ⟨M, cl, h1 e⟩
  · obtain ⟨a, b, q1, q2⟩ := h2 l r el er hl hr
    refine ⟨a, b, fun e => ?_, fun row e p hp => ?_⟩
    · simp? only
      exact ⟨M, cl, q1 e⟩
    · simp? only
      exact ⟨_, cl.set (by rw [hp]; simp) (by simp), q2 row e p hp⟩
def fI (k : Nat) : D := .int (k : Nat)
theorem getD_zip {nb : List Cd} {row : List Nat} {i : Nat} {s : Cd} {v : Nat} (hn : nb.Nodup) (h1 : nb[i]? = some s) (h2 : row[i]? = some v) : (nb.zip row)[i]? = some (s, v) ∧ s ∉ ((nb.zip row).take i).map (·.1) := by
  refine ⟨by rw [List.getElem?_zip_eq_some]; exact ⟨h1, h2⟩, fun hm => ?_⟩
  obtain ⟨⟨a, b⟩, hp, e⟩ := List.mem_map.mp hm
  obtain ⟨j, hj⟩ := List.mem_iff_getElem?.mp hp
  have hj2 : j < i := by
    have := (List.getElem?_eq_some_iff.mp hj).1
    rw [List.length_take] at this; omega
  rw [List.getElem?_take_of_lt hj2, List.getElem?_zip_eq_some] at hj
  have e : a = s := e
  subst e
  have := (List.getElem?_inj (by have := (List.getElem?_eq_some_iff.mp h1).1; omega) hn).mp (hj.1.trans h1.symm)
  omega
theorem pG_new {α : Type} {kv : List (Cd × α)} {s : Cd} {v : α} (h : s ∉ kv.map (·.1)) : pG kv s v = kv ++ [(s, v)] := by
  unfold pG
  rw [if_neg]
  intro hh
  obtain ⟨p, hp, e⟩ := List.any_eq_true.mp hh
  exact h (List.mem_map.mpr ⟨p, hp, by simpa using e⟩)
def S__law_due (K : PySem.W.Frag) : DSp := S3 fun x y z M Q _ => ∃ (A : Alg) (l r : Tm), x = A.lawD ∧ A.Ok ∧ A.n ≤ 1000 ∧ y = l.D ∧ z = r.D ∧ TOk A 14 l ∧ TOk A 14 r ∧ (A.n + 1) ^ (nbOf l r).length ≤ 100000 ∧ (nbOf l r).length ≤ 10 ∧
  (failsAt A l r = none → Q .non M) ∧ ∀ row, failsAt A l r = some row → ∀ p, M p = none → Q (.ref p) (mset M p (.dic (rowD A (nbOf l r) row)))
theorem ok__law_due (m : Mg K mg) {f : Addr} {fd : FuncData} (F__law_unknowns : Fn P w K mg base 15 "_law_unknowns" ["term"] (S__law_unknowns K)) (F__law_rows : Fn P w K mg base 1 "_law_rows" ["many", "arity"] (S__law_rows K)) (F__law_worked : Fn P w K mg base 16 "_law_worked" ["algebra", "term", "values"] (S__law_worked K)) (Fd : FunT K "_law_due" s__law_due f fd) (h : mg "_law_due" = some (.ref f)) : Fn P w K mg base 17 "_law_due" ["algebra", "left", "right"] (S__law_due K) := by
  refine ⟨f, fd, ?_, h, Fd.kp, Fd.bindsN fun _ _ _ _ _ _ us hl => match us, hl with | [_, _, _], _ => rfl⟩
  refine dfn Fd sc__law_due (fun ds M Q E h => by obtain ⟨_, _, _, rfl, _⟩ := S3.of h; rfl) fun cdv A outer s H E Ed hr => ⟨_, (dss_cons (sSet 3 sc__law_due.nd (de_ix (Rm1 hr) (vr 0) (de_str [109, 101, 109, 98, 101, 114, 115] (by kernel_rfl)))) (dss_cons (sSet 4 sc__law_due.nd (cF F__law_unknowns hr (by omega) rfl (fun σ => passAt (takes_of rfl rfl rfl rfl) σ) (da_cons (vr 1) da_nil))) (dss_cons (sSet 4 sc__law_due.nd (de_add (vr 4) (de_lc rfl sc__law_due.nd (di_seq (cF F__law_unknowns hr (by omega) rfl (fun σ => passAt (takes_of rfl rfl rfl rfl) σ) (da_cons (vr 2) da_nil))) (blkOk_by (own := [("name", 9)]) (N := ["algebra", "left", "right", "members", "names", "row", "values", "told", "k", "name"]) (sc := defScope s__law_due) (by decide +kernel)) (fun _ _ _ _ _ => (gN 9 sc__law_due.nd)) (fun _ _ _ _ _ => (dts_one (dt_notIn (Rm65 hr) (vr 9) (vr 4)))) (fun _ _ _ _ _ => (vr 9)) (by decide)))) (dss_cons (dFor1 (passes_of rfl) (di_seq (cF F__law_rows hr (by omega) rfl (fun σ => passAt (takes_of rfl rfl rfl rfl) σ) (da_cons (de_len rfl m.len (vr 3)) (da_cons (de_len rfl m.len (vr 4)) da_nil)))) (gN 5 sc__law_due.nd) (dss_cons (sSet 6 sc__law_due.nd de_newK) (dss_cons (sSet 7 sc__law_due.nd de_newK) (dss_cons (dFor1 (passes_of rfl) (di_range1 rfl m.range (de_len rfl m.len (vr 4))) (gN 8 sc__law_due.nd) (dss_cons (ds_asg (de_ix (Rm1 hr) (vr 5) (vr 8)) (gSub (Rm1 hr) (vr 6) (de_ix (Rm1 hr) (vr 4) (vr 8)))) (dss_one (ds_asg (de_ix (Rm1 hr) (vr 3) (de_ix (Rm1 hr) (vr 5) (vr 8))) (gSub (Rm1 hr) (vr 7) (de_ix (Rm1 hr) (vr 4) (vr 8))))))) (dss_one (ds_if (dt_ne (Rm64 hr) (cF F__law_worked hr (by omega) rfl (fun σ => passAt (takes_of rfl rfl rfl rfl) σ) (da_cons (vr 0) (da_cons (vr 1) (da_cons (vr 6) da_nil)))) (cF F__law_worked hr (by omega) rfl (fun σ => passAt (takes_of rfl rfl rfl rfl) σ) (da_cons (vr 0) (da_cons (vr 2) (da_cons (vr 6) da_nil))))) (dss_one (ds_ret (vr 7))) dss_nil)))))) (dss_one (ds_ret de_non)))))), fun ds M Q cl h => ?_⟩
  obtain ⟨a0, a1, a2, rfl, h⟩ := S3.of h

  obtain ⟨A, l, r, rfl, ok, hn, rfl, rfl, hl, hr, hsz, hnb, q1, q2⟩ := h
  have har : ∀ o ∈ A.ops, o.ar ≤ 2 := fun o ho => (ok.op o ho).ar
  have hul1 := putU_len har (acc := []) hl
  have hur1 := putU_len har (acc := []) hr
  have hlv : lv 14 ≤ 20000 := by decide
  simp only [List.length_nil] at hul1 hur1
  have enb : nbOf l r = unk l ++ (unk r).filter fun w => decide (w ∉ unk l) := by unfold nbOf; rw [putU_app]
  refine dSeq_gen fun R hR => ?_
  simp? only [vw_lawD, ix_lawD, lk_mem]
  refine ⟨_, rfl, ?_⟩
  refine hR _ _ ?_
  refine dSeq_gen fun R hR => ?_
  simp? only
  refine ⟨A, l, rfl, hl, har, by decide, ?_⟩
  refine hR _ _ ?_
  refine dSeq_gen fun R hR => ?_
  simp? only
  refine dLc_filter (unk r) D.str (fun w => decide (w ∉ unk l)) D.str (fun R hR => ?_) (by unfold unk; omega) (fun i w hi R R' h1 h2 => ?_) ?_
  · simp? only; exact ⟨A, r, rfl, hr, har, by decide, hR⟩
  · simp? only
    refine ⟨.inl (all_flat_str (unk l)), ?_⟩
    rw [show sL (unk l) = (unk l).map D.str from rfl, any_deq_str]
    by_cases hw : w ∈ unk l
    · rw [List.contains_iff_mem.mpr hw]
      exact h2 (by simpa using hw)
    · have : (unk l).contains w = false := by rw [Bool.eq_false_iff]; exact fun h => hw (List.contains_iff_mem.mp h)
      rw [this]
      exact h1 (by simpa using hw)
  simp? only [sL_len, List.length_map]
  have hf := List.length_filter_le (fun w => decide (w ∉ unk l)) (unk r)
  refine ⟨szl (by unfold unk at *; omega), ?_⟩
  rw [show sL (unk l) ++ ((unk r).filter fun w => decide (w ∉ unk l)).map D.str = sL (nbOf l r) by rw [enb, sL, sL, List.map_append]]
  refine hR _ _ ?_
  have nd := nb_nodup (l := l) (r := r)
  unfold failsAt at q1 q2
  have hul : ∀ w ∈ unk l, w ∈ nbOf l r := fun w hw => nb_mem.mpr (.inl hw)
  have hur : ∀ w ∈ unk r, w ∈ nbOf l r := fun w hw => nb_mem.mpr (.inr hw)
  have eneq : ∀ row, neqRow A l r row = decide (A.ev (envZ (nbOf l r) row) l ≠ A.ev (envZ (nbOf l r) row) r) := fun _ => rfl
  clear enb
  generalize nbOf l r = nb at *
  refine dSeq_gen fun R hR => ?_
  refine dFor_inv (rowsN A.n nb.length) (fun r => D.lst (nL r)) (fun i ρ M' => DL.Sub M M' ∧ (∀ x ∈ (rowsN A.n nb.length).take i, neqRow A l r x = false) ∧ ∃ o5 o6 o7 o8 o9, ρ = [some A.lawD, some l.D, some r.D, some (.lst (sL A.mem)), some (.lst (sL nb)), o5, o6, o7, o8, o9]) (fun R hR => ?_) ⟨cl, by simp, _, _, _, _, _, rfl⟩ ?_ ?_
  · simp? only
    exact ⟨A.n, nb.length, by rw [sL_len]; rfl, by rw [sL_len], hsz, hnb, hn, hR⟩
  · rintro i row ρ M' hi ⟨cl', hx, o5, o6, o7, o8, o9, rfl⟩
    have hrm := List.mem_of_getElem? hi
    obtain ⟨hrl, hrn⟩ := mem_rowsN.mp hrm
    simp only [gNm, rset]
    refine dSeq_gen fun R hR => ?_
    simp? only
    refine fun p1 hp1 => hR _ _ ?_
    refine dSeq_gen fun R hR => ?_
    simp? only
    refine fun p2 hp2 => hR _ _ ?_
    have p21 : p2 ≠ p1 := fun e => by rw [e, mset_same] at hp2; cases hp2
    have hp2' : M' p2 = none := by rwa [mset_ne p21] at hp2
    have B1 : ∀ a b, ov M' [(p2, a), (p1, b)] p1 = some b := fun a b => ov_at (l1 := [(p2, a)]) (by simpa using p21.symm)
    have B2 : ∀ a b, ov M' [(p2, a), (p1, b)] p2 = some a := fun a b => ov_get
    have W1 : ∀ a b b', mset (ov M' [(p2, a), (p1, b)]) p1 b' = ov M' [(p2, a), (p1, b')] := fun a b b' => ov_set (l1 := [(p2, a)]) (by simpa using p21.symm)
    have W2 : ∀ a b a', mset (ov M' [(p2, a), (p1, b)]) p2 a' = ov M' [(p2, a'), (p1, b)] := fun a b a' => mset_mset
    refine dSeq_gen fun R hR2 => ?_
    refine dFor_inv (List.range nb.length) (fun i => .int (i : Nat)) (fun i ρ M2 => M2 = ov M' [(p2, .dic (eD (fun i => D.str (A.nm i)) ((nb.zip row).take i))), (p1, .dic (eD fI ((nb.zip row).take i)))] ∧ ∃ o8 o9, ρ = [some A.lawD, some l.D, some r.D, some (.lst (sL A.mem)), some (.lst (sL nb)), some (.lst (nL row)), some (.ref p1), some (.ref p2), o8, o9]) (fun R hR => ?_) ⟨rfl, _, _, rfl⟩ ?_ ?_
    · simp? only [sL_len, rngD_nat]
      exact ⟨by omega, by omega, hR⟩
    · rintro j k ρ M2 hj ⟨rfl, o8, o9, rfl⟩
      obtain ⟨rfl, hlt⟩ := getR hj
      have g1 : nb[k]? = some nb[k] := List.getElem?_eq_getElem hlt
      have g2 : row[k]? = some (row[k]'(by omega)) := List.getElem?_eq_getElem (by omega)
      generalize nb[k] = s at g1
      generalize row[k]'(by omega) = v at g2
      have hv := hrn v (List.mem_of_getElem? g2)
      obtain ⟨g3, g4⟩ := getD_zip nd g1 g2
      have et : (nb.zip row).take (k + 1) = (nb.zip row).take k ++ [(s, v)] := by rw [List.take_add_one, g3]; rfl
      simp? only
      refine ⟨_, atI_nat (by rw [nL, List.getElem?_map, g2]; rfl), _, atI_nat (by rw [sL, List.getElem?_map, g1]; rfl), p1, _, rfl, B1 _ _, ?_⟩
      simp? only
      refine ⟨_, rfl, by rw [eD_len, List.length_take, List.length_zip]; exact szl' (by omega), ?_⟩
      rw [show dpu (eD fI ((nb.zip row).take k)) (.inr s) (.int (v : Nat)) = eD fI ((nb.zip row).take (k + 1)) by rw [et, ← pG_new g4]; exact dpu_eD, W1]
      refine ⟨_, atI_nat (by rw [nL, List.getElem?_map, g2]; rfl), ?_⟩
      simp? only
      refine ⟨_, atI_nat (by rw [sL, List.getElem?_map, nm_get hv]; rfl), _, atI_nat (by rw [sL, List.getElem?_map, g1]; rfl), p2, _, rfl, B2 _ _, ?_⟩
      simp? only
      refine ⟨_, rfl, by rw [eD_len, List.length_take, List.length_zip]; exact szl' (by omega), ?_⟩
      rw [show dpu (eD (fun i => D.str (A.nm i)) ((nb.zip row).take k)) (.inr s) (.str (A.nm v)) = eD (fun i => D.str (A.nm i)) ((nb.zip row).take (k + 1)) by rw [et, ← pG_new g4]; exact dpu_eD, W2]
      exact ⟨rfl, _, _, rfl⟩
    · rintro ρ M2 ⟨rfl, o8, o9, rfl⟩
      refine hR2 _ _ ?_
      rw [List.length_range, show (nb.zip row).take nb.length = nb.zip row from List.take_of_length_le (by rw [List.length_zip]; omega)]
      have hlt : ∀ t, TOk A 14 t → (∀ w ∈ unk t, w ∈ nb) → A.ev (envZ nb row) t < A.n := fun t ht hu => ev_lt ok ht fun w hw => (envZ_ok hrm (hu w hw)).1
      have hkv : ∀ t, (∀ w ∈ unk t, w ∈ nb) → ∀ w ∈ unk t, envZ nb row w < A.n ∧ dlk (eD fI (nb.zip row)) (.inr w) = some (.int (envZ nb row w : Nat)) := fun t hu w hw => by
        obtain ⟨h1, h2⟩ := envZ_ok hrm (hu w hw)
        refine ⟨h1, ?_⟩
        rw [dlk_eD, h2]; rfl
      simp? only
      refine ⟨A, l, _, envZ nb row, rfl, ok, rfl, hl, vw_d (B1 _ _), hkv l hul, ?_⟩
      refine ⟨A, r, _, envZ nb row, rfl, ok, rfl, hr, vw_d (B1 _ _), hkv r hur, ?_⟩
      have c1 : DL.Sub M (mset M' p1 (.dic (eD fI (nb.zip row)))) := cl'.new (sub_none cl' hp1)
      have hnew : DL.Sub M (ov M' [(p2, .dic (rowD A nb row)), (p1, .dic (eD fI (nb.zip row)))]) := c1.new (sub_none cl' hp2')
      simp? only
      by_cases e : A.ev (envZ nb row) l = A.ev (envZ nb row) r
      · rw [if_neg (by simp [e])]
        exact ⟨hnew, take_snoc hi hx (by rw [eneq]; simpa using e), _, _, _, _, _, rfl⟩
      · rw [if_pos (by simp; omega)]
        have z2 := sub_none cl' hp2'
        exact ⟨mset M p2 (.dic (rowD A nb row)), c1.set (by rw [z2]; simp) (by simp), q2 row (find_at hi hx (by rw [eneq]; simpa using e)) p2 z2⟩
  · rintro ρ M' ⟨cl', hx, o5, o6, o7, o8, o9, rfl⟩
    rw [List.take_length] at hx
    refine hR _ _ ?_
    simp? only
    exact ⟨M, cl', q1 (List.find?_eq_none.mpr fun x hx2 => by rw [hx x hx2]; decide)⟩
end
end EK


set_option Elab.async false
set_option linter.all false
set_option maxRecDepth 100000
set_option maxHeartbeats 400000
namespace EK
open PySem PySem.Spec PyProof.Rows L2 DL
local macro_rules
  | `(tactic| simp? only [$ls,*]) => `(tactic| simp only [$ls,*, dVar, dC, dOp, dTest, dTru, dAnd, dOr, dNot, dAndV, dOrV, dNotV, dIfE, dNil, dCons, dStar, dTup, dLst, dLstM, dFrz, dNeg, oEq, oNe, dNoO, dSoO, dSl, dNext, dSeq, dBreak, dCont, dExpr, dRet, dRetN, dIf, gNm, gNl, gCn, gTp, dAsg, dSet, dAug, dIter, dRng1, dRng2, dYes, dCallB, f1, dIsi, dJoinAt, dFmt, dJs, dJoined, dCall, dstart, rget, rset, dwipe, gSb, dApp, dPop, fMax2, fMin2, dNever, dPairs, dDispG, dDisp, dDispM, dNewK, dNewT, keyD, if_true, if_false, decide_eq_true_eq, Bool.false_eq_true, List.map_cons, List.map_nil, List.length_cons, List.length_nil, List.cons_append, List.nil_append, Nat.reduceAdd, Nat.reduceSub, List.reduceReplicate, e_vw_non, e_vw_bl, e_vw_int, e_vw_str, e_vw_scr, e_vw_lst, e_vw_tup, e_vw_dic, e_vw_dit, e_vw_obj, e_vw_ty, e_flat_non, e_isn_non, e_ty_non, e_flat_bl, e_isn_bl, e_ty_bl, e_flat_int, e_isn_int, e_ty_int, e_flat_str, e_isn_str, e_ty_str, e_flat_scr, e_isn_scr, e_ty_scr, e_flat_lst, e_isn_lst, e_ty_lst, e_flat_tup, e_isn_tup, e_ty_tup, e_flat_dic, e_isn_dic, e_ty_dic, e_flat_dit, e_isn_dit, e_flat_obj, e_isn_obj, e_flat_ty, e_isn_ty, e_add_ii, e_add_ss, e_add_ll, e_add_tt, e_iadd_ii, e_iadd_ss, e_sub_ii, e_mul_ii, e_mul_li, e_mul_si, e_fdiv_ii, e_mod_ii, e_pow_ii, e_deq_nn, e_deq_ii, e_deq_ss, e_deq_bb, e_deq_tt, e_deq_ll, e_deq_st, e_deq_ts, e_deql_n, e_deql_c, e_deql_nc, e_deql_cn, e_isN, e_ix_l, e_ix_t, e_ix_c, e_ix_s, e_ix_d, e_ix_dt, e_in_l, e_in_t, e_in_s, e_in_d, e_in_dt, e_sl_l, e_sl_s, e_len_lst, e_len_tup, e_len_s, e_len_c, e_len_d, e_int_i, e_abs_i, e_str_i, e_tup_l, e_tup_t, e_oLst0_l, e_oLst0_t, e_oLst0M_l, e_oLst0M_t, e_set_l, e_set_d, e_set_t, e_key_i, e_key_s, e_isT_non_bool, e_isT_non_int, e_isT_non_str, e_isT_non_list, e_isT_non_tuple, e_isT_non_dict, e_isT_bool_bool, e_isT_bool_int, e_isT_bool_str, e_isT_bool_list, e_isT_bool_tuple, e_isT_bool_dict, e_isT_int_bool, e_isT_int_int, e_isT_int_str, e_isT_int_list, e_isT_int_tuple, e_isT_int_dict, e_isT_str_bool, e_isT_str_int, e_isT_str_str, e_isT_str_list, e_isT_str_tuple, e_isT_str_dict, e_isT_list_bool, e_isT_list_int, e_isT_list_str, e_isT_list_list, e_isT_list_tuple, e_isT_list_dict, e_isT_tuple_bool, e_isT_tuple_int, e_isT_tuple_str, e_isT_tuple_list, e_isT_tuple_tuple, e_isT_tuple_dict, e_isT_dict_bool, e_isT_dict_int, e_isT_dict_str, e_isT_dict_list, e_isT_dict_tuple, e_isT_dict_dict, e_lt, e_le, e_gt, e_ge, e_fld, e_meth, e_inO, e_lenO, e_eqO, e_S1, e_S2, e_S3, e_S4, dChain, dPar, dIsi2, dMake, dRaise, dX0, dXN, dTryM, dMix, Bool.not_true, Bool.not_false, eq_self, true_and, and_true, true_or, and_self, e_mulM_li, e_addM_ll, dFrzE, Bool.false_bne, Bool.true_bne, dGet, dGet1, dDpop, dIdx, e_dic0, e_dic0M, e_same, sl1, dkey_s, e_cxK, dXf, e_sameP, e_addT, dFrzO, oFrz, dClr, e_lstD])
  | `(tactic| simp? only) => `(tactic| simp? only [eq_self])
section
variable {P : Program} {w : World} {K : PySem.W.Frag} {mg : Str → Option Value} {base : Heap}
theorem dSeq4_inv {a b c d t : TDS} {De : DEnds} {ρ : DEnv} {M : Mp} (I : DEnv → Mp → Prop) (h1 : ∀ R : DEnv → Mp → Prop, (∀ ρ M, I ρ M → R ρ M) → dSeq a (dSeq b (dSeq c (dSeq d fun _ ρ' M' => R ρ' M'))) De ρ M) (h2 : ∀ ρ M, I ρ M → t De ρ M) : dSeq a (dSeq b (dSeq c (dSeq d t))) De ρ M := h1 (fun ρ M => t De ρ M) h2
theorem Alg.Ok.ar2 {A : Alg} (ok : A.Ok) : ∀ o ∈ A.ops, o.ar ≤ 2 := fun o ho => (ok.op o ho).ar
theorem nameP.shape {s : Cd} (h : nameP s) : ∃ a d e r, s = a :: d :: e :: r ∧ 48 ≤ d ∧ d ≤ 57 := by
  obtain ⟨k, hk, a, r, rfl, _⟩ := h
  exact ⟨a, _, _, r, rfl, by omega, by omega⟩
theorem dcut01 {α : Type} {xs : List α} : dcut xs none (some 1) = xs.take 1 := by
  have h : HT.sIx xs.length xs.length (some 1) = min 1 xs.length := by simp [HT.sIx]; try omega
  simp only [dcut]
  rw [h]
  simp [HT.sIx]
theorem unk_subI {im : Cd → Option Tm} {w v : Cd} : ∀ {t : Tm}, v ∈ unk t → w ∈ unk ((im v).getD (.var v)) → w ∈ unk (t.sub im) := by
  intro t
  induction t using Tm.ind with
  | hv x => intro h h2; rw [unk_var.mp h] at h2; rw [sub_var]; exact h2
  | hn s ts ih =>
    intro h h2
    obtain ⟨t, ht, hv⟩ := unk_node.mp h
    rw [sub_node]
    exact unk_node.mpr ⟨_, List.mem_map_of_mem ht, ih t ht hv h2⟩
theorem unk_sub {im : Cd → Option Tm} {w : Cd} : ∀ {t : Tm}, w ∈ unk (t.sub im) → ∃ v ∈ unk t, w ∈ unk ((im v).getD (.var v)) := by
  intro t
  induction t using Tm.ind with
  | hv x => intro h; rw [sub_var] at h; exact ⟨x, unk_var.mpr rfl, h⟩
  | hn s ts ih =>
    intro h
    rw [sub_node] at h
    obtain ⟨u, hu, hw⟩ := unk_node.mp h
    obtain ⟨t, ht, rfl⟩ := List.mem_map.mp hu
    obtain ⟨v, hv, hw2⟩ := ih t ht hw
    exact ⟨v, unk_node.mpr ⟨t, ht, hv⟩, hw2⟩
theorem isTm_nosign {A : Alg} (h : ∀ o ∈ A.ops, nameP o.sg) (d : D) : isTm A (.tup [.str [110, 111, 115, 105, 103, 110], d]) = false := by
  rw [isTm_tup]
  have : A.op? [110, 111, 115, 105, 103, 110] = none := by
    refine op?_none' fun hm => ?_
    obtain ⟨o, ho, e⟩ := List.mem_map.mp hm
    obtain ⟨a, dd, ee, r, e2, h1, h2⟩ := (h o ho).shape
    rw [e2] at e
    simp only [List.cons.injEq] at e
    omega
  simp only [this, Bool.false_and]
theorem nodup_len : ∀ {xs ys : List Cd}, xs.Nodup → (∀ x ∈ xs, x ∈ ys) → xs.length ≤ ys.length
  | [], _, _, _ => Nat.zero_le _
  | x :: xs, ys, h, hs => by
    rw [List.nodup_cons] at h
    have hx := hs x (by simp)
    have h1 := nodup_len (xs := xs) (ys := ys.erase x) h.2 fun z hz => (List.mem_erase_of_ne fun e => h.1 (by rw [← e]; exact hz)).mpr (hs z (by simp [hz]))
    rw [List.length_erase_of_mem hx] at h1
    have := List.length_pos_of_mem hx
    simp only [List.length_cons]; omega
theorem nb_len {l r : Tm} {nms : List Cd} (h1 : ∀ w ∈ unk l, w ∈ nms) (h2 : ∀ w ∈ unk r, w ∈ nms) : (nbOf l r).length ≤ nms.length :=
  nodup_len nb_nodup fun w hw => (nb_mem.mp hw).elim (h1 w) (h2 w)
theorem fails_self {A : Alg} {l : Tm} : failsAt A l l = none := by
  unfold failsAt
  rw [List.find?_eq_none]
  intro row _
  simp [neqRow]
theorem fails_iff {A : Alg} {l r : Tm} : failsAt A l r = none ↔ ∀ env : Cd → Nat, (∀ w ∈ nbOf l r, env w < A.n) → A.ev env l = A.ev env r := by
  unfold failsAt
  rw [List.find?_eq_none]
  constructor
  · intro h env he
    have hr : (nbOf l r).map env ∈ rowsN A.n (nbOf l r).length := mem_rowsN.mpr ⟨by simp, fun x hx => by
      obtain ⟨w, hw, rfl⟩ := List.mem_map.mp hx
      exact he w hw⟩
    have h1 := h _ hr
    simp only [neqRow, decide_eq_true_eq, ne_eq, Classical.not_not] at h1
    have key : ∀ w ∈ nbOf l r, env w = envZ (nbOf l r) ((nbOf l r).map env) w := by
      intro w hw
      unfold envZ
      have : ∀ (nb : List Cd), w ∈ nb → (nb.zip (nb.map env)).lookup w = some (env w) := by
        intro nb
        induction nb with
        | nil => intro h; cases h
        | cons n nb ih =>
          intro h
          rw [List.map_cons, List.zip_cons_cons, lookup_cons']
          by_cases e : n = w
          · rw [if_pos e, e]
          · rw [if_neg e]; exact ih ((List.mem_cons.mp h).resolve_left fun z => e z.symm)
      rw [this _ hw]; rfl
    rw [ev_congr l fun w hw => key w (nb_mem.mpr (.inl hw)), ev_congr r fun w hw => key w (nb_mem.mpr (.inr hw))]
    exact h1
  · intro h row hrow
    simp only [neqRow, decide_eq_true_eq, ne_eq, Classical.not_not]
    exact h _ fun w hw => (envZ_ok hrow hw).1
theorem fails_sub {A : Alg} (ok : A.Ok) {l r : Tm} {im : Cd → Option Tm} {m : Nat} (h : failsAt A l r = none) (hi : ∀ w u, im w = some u → TOk A m u) (hi2 : ∀ w ∈ nbOf l r, ∃ u, im w = some u) : failsAt A (l.sub im) (r.sub im) = none := by
  rw [fails_iff] at h ⊢
  intro env he
  rw [ev_sub, ev_sub]
  refine h _ fun w hw => ?_
  obtain ⟨u, e⟩ := hi2 w hw
  simp only [e, Option.getD_some]
  refine ev_lt ok (hi w u e) fun x hx => he x ?_
  rcases nb_mem.mp hw with h1 | h1
  · exact nb_mem.mpr (.inl (unk_subI h1 (by rw [e]; exact hx)))
  · exact nb_mem.mpr (.inr (unk_subI h1 (by rw [e]; exact hx)))
theorem keys_ok {A : Alg} {nb : List Cd} {row : List Nat} (hl : row.length = nb.length) (h : ∀ s ∈ nb, isWord (.str s) = true) : cmpOk (.lst ((rowD A nb row).map fun p => kD p.1)) = true := by
  unfold rowD
  rw [keys_eD, zip_keys hl]
  exact sLs_ok fun s hs => isWord_Wrd (h s hs)
theorem keys_same {A : Alg} {nb : List Cd} {row : List Nat} (hl : row.length = nb.length) (h : ∀ s ∈ nb, isWord (.str s) = true) : deqL ((rowD A nb row).map fun p => kD p.1) ((rowD A nb row).map fun p => kD p.1) = true := by
  unfold rowD
  rw [keys_eD, zip_keys hl]
  obtain ⟨h1, _⟩ := plL_sL fun s hs => isWord_Wrd (h s hs)
  have := deq_refl (.lst (sL nb)) (by simpa only [dPl] using h1)
  simp only [deq] at this
  exact this
def nX : Cd := [120]
def nY1 : Cd := [121, 49]
def S_law (K : PySem.W.Frag) : DSp := S1 fun x M Q _ => ∃ ns : List Int, x = .scr ns ∧ ns.length ≤ 1000 ∧ Q (.bl true) M
theorem okf_law (m : Mg K mg) {f : Addr} {fd : FuncData} (F__law_source : Fn P w K mg base 1 "_law_source" ["script"] (S__law_source K)) (F__law_algebra : Fn P w K mg base 3 "_law_algebra" ["source", "most", "signs"] (S__law_algebra K)) (F__law_made : Fn P w K mg base 6 "_law_made" ["algebra"] (S__law_made K)) (F__law_pick : Fn P w K mg base 1 "_law_pick" ["source", "many"] (S__law_pick K)) (F__law_term : Fn P w K mg base 16 "_law_term" ["source", "algebra", "names", "deep"] (S__law_term K)) (F_replaced : Fn P w K mg base 15 "replaced" ["term", "images"] (S_replaced K)) (F__law_due : Fn P w K mg base 17 "_law_due" ["algebra", "left", "right"] (S__law_due K)) (F__law_said : Fn P w K mg base 20 "_law_said" ["made", "left", "right"] (S__law_said K)) (M_Algebra___eq__ : Mt P w K mg base 1 (okc_Algebra K) "__eq__" ["self", "other"] (S_Algebra___eq__ K)) (Fd : FunT K "law" s_law f fd) : FnOk P w K mg base (L2.CX P w) 21 f fd ["script"] (lift K (S_law K)) := by
  refine dfn Fd sc_law (fun ds M Q E h => by obtain ⟨_, rfl, _⟩ := S1.of h; rfl) fun cdv A outer s H E Ed hr => ⟨_, (dss_cons (sSet 1 sc_law.nd (cF F__law_source hr (by omega) rfl (fun σ => passAt (takes_of rfl rfl rfl rfl) σ) (da_cons (vr 0) da_nil))) (dss_cons (sSet 2 sc_law.nd (cF F__law_algebra hr (by omega) rfl (fun σ => passAt (takes_of rfl rfl rfl rfl) σ) (da_cons (vr 1) (da_cons de_int (da_cons de_non da_nil))))) (dss_cons (sSet 3 sc_law.nd (cF F__law_made hr (by omega) rfl (fun σ => passAt (takes_of rfl rfl rfl rfl) σ) (da_cons (vr 2) da_nil))) (dss_cons (sSet 4 sc_law.nd (de_add (de_lst (da_cons (de_str [120] (by kernel_rfl)) (da_cons (de_str [121, 49] (by kernel_rfl)) da_nil))) (de_lc rfl sc_law.nd (di_seq (de_sl (de_ix (Rm1 hr) (vr 2) (de_str [115, 105, 103, 110, 115] (by kernel_rfl))) do_none (do_some de_int))) (blkOk_by (own := [("pair", 13)]) (N := ["script", "source", "algebra", "made", "names", "k", "left", "right", "due", "found", "images", "name", "sides", "pair"]) (sc := defScope s_law) (by decide +kernel)) (fun _ _ _ _ _ => (gN 13 sc_law.nd)) (fun _ _ _ _ _ => dts_nil) (fun _ _ _ _ _ => (de_ix (Rm1 hr) (vr 13) de_int)) (by decide)))) (dss_cons (sSet 4 sc_law.nd (de_sl (vr 4) do_none (do_some (de_add de_int (cF F__law_pick hr (by omega) rfl (fun σ => passAt (takes_of rfl rfl rfl rfl) σ) (da_cons (vr 1) (da_cons de_int da_nil))))))) (dss_cons (dFor1 (passes_of rfl) (di_range1 rfl m.range de_int) (gN 5 sc_law.nd) (dss_cons (sSet 6 sc_law.nd (cF F__law_term hr (by omega) rfl (fun σ => passAt (takes_of rfl rfl rfl rfl) σ) (da_cons (vr 1) (da_cons (vr 2) (da_cons (vr 4) (da_cons (cF F__law_pick hr (by omega) rfl (fun σ => passAt (takes_of rfl rfl rfl rfl) σ) (da_cons (vr 1) (da_cons de_int da_nil))) da_nil)))))) (dss_cons (sSet 7 sc_law.nd (cF F__law_term hr (by omega) rfl (fun σ => passAt (takes_of rfl rfl rfl rfl) σ) (da_cons (vr 1) (da_cons (vr 2) (da_cons (vr 4) (da_cons (cF F__law_pick hr (by omega) rfl (fun σ => passAt (takes_of rfl rfl rfl rfl) σ) (da_cons (vr 1) (da_cons de_int da_nil))) da_nil)))))) (dss_cons (ds_if (dt_eq (Rm64 hr) (cF F__law_pick hr (by omega) rfl (fun σ => passAt (takes_of rfl rfl rfl rfl) σ) (da_cons (vr 1) (da_cons de_int da_nil))) de_int) (dss_one (sSet 7 sc_law.nd (cF F_replaced hr (by omega) rfl (fun σ => passAt (takes_of rfl rfl rfl rfl) σ) (da_cons (vr 6) (da_cons (de_disp (.cons (de_ix (Rm1 hr) (vr 4) de_int) (de_ix (Rm1 hr) (vr 4) (de_sub (de_len rfl m.len (vr 4)) de_int)) .nil)) da_nil))))) dss_nil) (dss_cons (sSet 8 sc_law.nd (de_frzO (cF F__law_due hr (by omega) rfl (fun σ => passAt (takes_of rfl rfl rfl rfl) σ) (da_cons (vr 2) (da_cons (vr 6) (da_cons (vr 7) da_nil)))))) (dss_cons (sSet 9 sc_law.nd (cF F__law_said hr (by omega) rfl (fun σ => passAt (takes_of rfl rfl rfl rfl) σ) (da_cons (vr 3) (da_cons (vr 6) (da_cons (vr 7) da_nil))))) (dss_cons (ds_if (DW.dt (dw_or (dt_neN (Rm64 hr) (vr 9) (vr 8)) (dw_or1 (dt_notN (cF F__law_said hr (by omega) rfl (fun σ => passAt (takes_of rfl rfl rfl rfl) σ) (da_cons (vr 3) (da_cons (vr 6) (da_cons (vr 6) da_nil)))) de_non)))) (dss_one (ds_ret de_bl)) dss_nil) (dss_cons (ds_if (dt_notN (vr 8) de_non) (dss_cons (ds_if (dt_ne (Rm64 hr) (de_lstD rfl rfl m.list (vr 9)) (de_lstD rfl rfl m.list (vr 8))) (dss_one (ds_ret de_bl)) dss_nil) (dss_cons (ds_expr (de_clear (vr 9))) (dss_one (ds_if (dt_neN (Rm64 hr) (cF F__law_said hr (by omega) rfl (fun σ => passAt (takes_of rfl rfl rfl rfl) σ) (da_cons (vr 3) (da_cons (vr 6) (da_cons (vr 7) da_nil)))) (vr 8)) (dss_one (ds_ret de_bl)) dss_nil)))) dss_nil) (dss_cons (ds_if (DW.dt (dw_or (dt_ne (Rm64 hr) (cF F__law_said hr (by omega) rfl (fun σ => passAt (takes_of rfl rfl rfl rfl) σ) (da_cons (vr 3) (da_cons (de_tup (da_cons (de_str [110, 111, 115, 105, 103, 110] (by kernel_rfl)) (da_cons (vr 6) da_nil))) (da_cons (vr 7) da_nil)))) (de_str [116, 101, 114, 109] (by kernel_rfl))) (dw_or1 (dt_ne (Rm64 hr) (cF F__law_said hr (by omega) rfl (fun σ => passAt (takes_of rfl rfl rfl rfl) σ) (da_cons (vr 3) (da_cons (vr 6) (da_cons (de_lst (da_cons (vr 7) da_nil)) da_nil)))) (de_str [116, 101, 114, 109] (by kernel_rfl)))))) (dss_one (ds_ret de_bl)) dss_nil) (dss_cons (sSet 10 sc_law.nd de_newK) (dss_cons (dFor1 (passes_of rfl) (di_seq (vr 4)) (gN 11 sc_law.nd) (dss_one (ds_asg (cF F__law_term hr (by omega) rfl (fun σ => passAt (takes_of rfl rfl rfl rfl) σ) (da_cons (vr 1) (da_cons (vr 2) (da_cons (vr 4) (da_cons de_int da_nil))))) (gSub (Rm1 hr) (vr 10) (vr 11))))) (dss_cons (sSet 12 sc_law.nd (de_lst (da_cons (cF F_replaced hr (by omega) rfl (fun σ => passAt (takes_of rfl rfl rfl rfl) σ) (da_cons (vr 6) (da_cons (vr 10) da_nil))) (da_cons (cF F_replaced hr (by omega) rfl (fun σ => passAt (takes_of rfl rfl rfl rfl) σ) (da_cons (vr 7) (da_cons (vr 10) da_nil))) da_nil)))) (dss_one (ds_if (DW.dt (dw_and (dt_isN (vr 8) de_non) (dw_and1 (dt_notN (cF F__law_said hr (by omega) rfl (fun σ => passAt (takes_of rfl rfl rfl rfl) σ) (da_cons (vr 3) (da_cons (de_ix (Rm1 hr) (vr 12) de_int) (da_cons (de_ix (Rm1 hr) (vr 12) de_int) da_nil)))) de_non)))) (dss_one (ds_ret de_bl)) dss_nil)))))))))))))) (dss_one (ds_ret (cEq M_Algebra___eq__ m.nf_Algebra hr (by omega) (vr 3) (cF F__law_made hr (by omega) rfl (fun σ => passAt (takes_of rfl rfl rfl rfl) σ) (da_cons (vr 2) da_nil))))))))))), fun ds M Q cl h => ?_⟩
  obtain ⟨a0, rfl, h⟩ := S1.of h

  obtain ⟨ns, rfl, hns, q⟩ := h
  refine dSeq_gen fun R hR => ?_
  simp? only
  refine ⟨ns, rfl, hns, fun p c hcp hp hc => ?_⟩
  refine hR _ _ ?_
  have cl1 : DL.Sub M (mset (mset M c .hid) p (.src c)) := (cl.new hc).new hp
  generalize hM1 : mset (mset M c .hid) p (.src c) = M1 at cl1
  have hp1 : M1 p = some (.src c) := by rw [← hM1]; exact mset_same
  clear hM1
  refine dSeq_gen fun R hR => ?_
  simp? only
  refine ⟨p, c, 4, none, rfl, hp1, rfl, by omega, by omega, rfl, fun A hA => ?_⟩
  refine hR _ _ ?_
  have g : A.Good := hA.good (by omega) (fun l h => by cases h)
  have ok := g.ok
  have nmO : ∀ o ∈ A.ops, nameP o.sg := fun o ho => hA.sg.1.nm _ (List.mem_map_of_mem (f := (·.sg)) ho)
  have hn6 := g.le
  clear hA
  refine dSeq_gen fun R hR => ?_
  simp? only
  refine ⟨A, rfl, g, ?_⟩
  refine hR _ _ ?_
  -- the names
  have z2 : (2 : Nat) ≤ sizeLine := szl (by omega)
  have z1 : (1 : Nat) ≤ sizeLine := szl (by omega)
  have lo := ok.lo
  refine dSeq_inv (fun ρ M' => M' = M1 ∧ ∃ nms : List Cd, (∃ s r, nms = s :: r) ∧ nms.length ≤ 3 ∧ (∀ s ∈ nms, isWord (.str s) = true) ∧ ∃ o, ρ = [some (.scr ns), some (.ref p), some A.lawD, some (A.obj (He.ga K "Algebra")), some (.lst (sL nms)), none, none, none, none, none, none, none, none, o]) (fun R hR => ?_) ?_
  · simp? only [vw_lawD, ix_lawD, lk_sig]
    refine ⟨z2, ?_⟩
    refine dLc_map (A.ops.take 1) Op.sigD (fun o => .str o.sg) (fun R hR => ?_) (by rw [List.length_take]; omega) (fun i o hi R hR => ?_) ?_
    · simp? only [vw_lawD, ix_lawD, lk_sig]
      refine ⟨_, rfl, ?_⟩
      simp? only
      rw [dcut01, ← List.map_take]; exact hR
    · simp? only [Op.sigD]; exact ⟨_, atI0, hR⟩
    simp? only [List.length_map, List.length_take]
    refine ⟨szl (by omega), hR _ _ ⟨rfl, nX :: nY1 :: (A.ops.take 1).map (·.sg), ⟨_, _, rfl⟩, by simp; omega, fun s hs => ?_, none, ?_⟩⟩
    · rcases List.mem_cons.mp hs with rfl | hs
      · decide
      · rcases List.mem_cons.mp hs with rfl | hs
        · decide
        · obtain ⟨o, ho, rfl⟩ := List.mem_map.mp hs
          exact (nmO o (List.mem_of_mem_take ho)).word.1
    · rw [sL, List.map_cons, List.map_cons, List.map_map]; rfl
  rintro ρ M' ⟨rfl, nms0, ⟨s0, r0, e0⟩, l0, w0, o, rfl⟩
  refine dSeq_inv (fun ρ M1 => M1 = M' ∧ ∃ nms : List Cd, nms ≠ [] ∧ nms.length ≤ 3 ∧ (∀ s ∈ nms, isWord (.str s) = true) ∧ ∃ o5 o6 o7 o8 o9 o10 o11 o12 o13, ρ = [some (.scr ns), some (.ref p), some A.lawD, some (A.obj (He.ga K "Algebra")), some (.lst (sL nms)), o5, o6, o7, o8, o9, o10, o11, o12, o13]) (fun R hR => ?_) ?_
  · simp? only
    refine ⟨p, c, 3, rfl, hp1, by decide, fun k hk => ?_⟩
    simp? only
    refine hR _ _ ⟨rfl, nms0.take (1 + k), by rw [e0, show 1 + k = k + 1 by omega, List.take_succ_cons]; simp, by rw [List.length_take]; omega, fun s hs => w0 s (List.mem_of_mem_take hs), none, none, none, none, none, none, none, none, o, ?_⟩
    rw [dcut_take (k := 1 + k) (by omega), sL, sL, List.map_take]
  clear e0 l0 w0 o r0 s0 nms0
  rintro ρ M1 ⟨rfl, nms, nne, lnms, wnms, o5, o6, o7, o8, o9, o10, o11, o12, o13, rfl⟩
  have hnp : 0 < nms.length := List.length_pos_iff.mpr nne
  refine dSeq_gen fun R hR => ?_
  refine dFor_inv (List.range 4) (fun i => .int (i : Nat)) (fun i ρ M2 => DL.Sub M M2 ∧ M2 p = some (.src c) ∧ ∃ o5 o6 o7 o8 o9 o10 o11 o12 o13, ρ = [some (.scr ns), some (.ref p), some A.lawD, some (A.obj (He.ga K "Algebra")), some (.lst (sL nms)), o5, o6, o7, o8, o9, o10, o11, o12, o13]) (fun R hR => ?_) ⟨cl1, hp1, _, _, _, _, _, _, _, _, _, rfl⟩ ?_ ?_
  · simp? only
    exact ⟨by decide, by decide, hR⟩
  rotate_left
  · rintro ρ M2 ⟨cl2, hp2, o5, o6, o7, o8, o9, o10, o11, o12, o13, rfl⟩
    refine hR _ _ ?_
    simp? only
    have hC : okc_Algebra K (He.ga K "Algebra") := by first | exact rfl | exact .inl rfl
    refine ⟨A, rfl, g, o_ex hC, o_ex hC, _, _, A, A, rfl, rfl, hC, hC, ok, ok, ?_⟩
    rw [(deq_who ok ok).mpr rfl]
    exact ⟨M, cl2, q⟩
  rintro i kk ρ M2 hi ⟨cl2, hp2, o5, o6, o7, o8, o9, o10, o11, o12, o13, rfl⟩
  simp only [gNm, rset]
  -- the terms
  refine dSeq_gen fun R hR2 => ?_
  simp? only
  refine ⟨p, c, 4, rfl, hp2, by decide, fun dp hdp => ⟨p, c, A, nms, dp, rfl, hp2, rfl, g, rfl, by omega, wnms, rfl, by omega, fun l hl hul => ?_⟩⟩
  refine hR2 _ _ ?_
  have hl4 : TOk A 4 l := hl.mono (by omega)
  have hul : ∀ w ∈ unk l, w ∈ nms := fun w hw => (hul w hw).resolve_right fun h => nne h.1
  clear hR2 hl hdp dp
  refine dSeq_gen fun R hR2 => ?_
  simp? only
  refine ⟨p, c, 4, rfl, hp2, by decide, fun dp hdp => ⟨p, c, A, nms, dp, rfl, hp2, rfl, g, rfl, by omega, wnms, rfl, by omega, fun r0 hr0 hur0 => ?_⟩⟩
  refine hR2 _ _ ?_
  have hr04 : TOk A 4 r0 := hr0.mono (by omega)
  have hur0 : ∀ w ∈ unk r0, w ∈ nms := fun w hw => (hur0 w hw).resolve_right fun h => nne h.1
  clear hR2 hr0 hdp dp
  refine dSeq_inv (fun ρ M' => M' = M2 ∧ ∃ r : Tm, TOk A 4 r ∧ (∀ w ∈ unk r, w ∈ nms) ∧ ∃ o5 o8 o9 o10 o11 o12 o13, ρ = [some (.scr ns), some (.ref p), some A.lawD, some (A.obj (He.ga K "Algebra")), some (.lst (sL nms)), o5, some l.D, some r.D, o8, o9, o10, o11, o12, o13]) (fun R hR => ?_) ?_
  · simp? only
    refine ⟨p, c, 4, rfl, hp2, by decide, fun k hk => ?_⟩
    simp? only
    by_cases hk0 : k = 0
    · rw [if_pos (by simp [hk0])]
      obtain ⟨n0, nr, en⟩ := List.exists_cons_of_ne_nil nne
      have g0 : nms[0]? = some n0 := by rw [en]; rfl
      have gl : nms[nms.length - 1]? = some (nms[nms.length - 1]'(by omega)) := List.getElem?_eq_getElem (by omega)
      generalize nms[nms.length - 1]'(by omega) = nl at gl
      have hml := List.mem_of_getElem? gl
      refine ⟨_, atI_n (j := 0) rfl (by rw [sL, List.getElem?_map, g0]; rfl), ?_⟩
      simp? only [sL_len]
      refine ⟨_, atI_n (j := nms.length - 1) (by omega) (by rw [sL, List.getElem?_map, gl]; rfl), ?_⟩
      refine ⟨[(.inr n0, .str nl)], rfl, by simp, ?_⟩
      refine ⟨A, l, [(n0, .var nl)], rfl, hl4.mono (by omega), ok.ar2, by simp only [List.map_cons, List.map_nil, Tm.D_var]; rfl, ?_⟩
      refine hR _ _ ⟨rfl, _, TOk.sub (n := 4) (m := 0) (fun w u h => ?_) hl4, fun w hw => ?_, _, _, _, _, _, _, _, rfl⟩
      · rw [lookup_cons'] at h
        by_cases e : n0 = w
        · rw [if_pos e] at h; cases h; exact wnms _ hml
        · rw [if_neg e] at h; cases h
      · obtain ⟨v, hv, hw2⟩ := unk_sub hw
        rw [lookup_cons'] at hw2
        by_cases e : n0 = v
        · rw [if_pos e, Option.getD_some, unk_var] at hw2; rw [hw2]; exact hml
        · rw [if_neg e] at hw2
          simp only [List.lookup_nil, Option.getD_none, unk_var] at hw2
          rw [hw2]; exact hul v hv
    · rw [if_neg (by simp; omega)]
      exact hR _ _ ⟨rfl, r0, hr04, hur0, _, _, _, _, _, _, _, rfl⟩
  
  rintro ρ M' ⟨rfl, r, hr4, hur, o5, o8, o9, o10, o11, o12, o13, rfl⟩
  have mk : ∀ {l r : Tm}, TOk A 14 l → TOk A 14 r → (∀ w ∈ unk l, w ∈ nms) → (∀ w ∈ unk r, w ∈ nms) → EqOk A l r := fun hl hr h1 h2 => by
    have h3 := nb_len h1 h2
    refine ⟨hl, hr, ?_, by omega⟩
    refine Nat.le_trans (Nat.pow_le_pow_left (show A.n + 1 ≤ 7 by omega) _) (Nat.le_trans (Nat.pow_le_pow_right (by omega) (show (nbOf _ _).length ≤ 3 by omega)) (by decide))
  have hl14 : TOk A 14 l := hl4.mono (by omega)
  have hr14 : TOk A 14 r := hr4.mono (by omega)
  have glr := mk hl14 hr14 hul hur
  have gll := mk hl14 hl14 hul hul
  have hC : okc_Algebra K (He.ga K "Algebra") := by first | exact rfl | exact .inl rfl
  have wnb : ∀ s ∈ nbOf l r, isWord (.str s) = true := fun s hs => wnms s ((nb_mem.mp hs).elim (hul s) (hur s))
  refine dSeq4_inv (fun ρ M3 => DL.Sub M M3 ∧ M3 p = some (.src c) ∧ ∃ d8 : D, ((failsAt A l r = none ∧ d8 = D.non) ∨ (failsAt A l r ≠ none ∧ ∃ kv, d8 = .dic kv)) ∧ ∃ o5 o9 o10 o11 o12 o13, ρ = [some (.scr ns), some (.ref p), some A.lawD, some (A.obj (He.ga K "Algebra")), some (.lst (sL nms)), o5, some l.D, some r.D, some d8, o9, o10, o11, o12, o13]) (fun R hR => ?_) ?_
  · cases ef : failsAt A l r with
    | none =>
      refine dSeq_gen fun R1 hR1 => ?_
      simp? only [e_said]
      refine ⟨A, l, r, rfl, ok, by omega, rfl, rfl, hl14, hr14, glr.sz, glr.nb, fun _ => ?_, fun row e => (by rw [ef] at e; cases e)⟩
      simp? only [e_said]
      refine hR1 _ _ ?_
      refine dSeq_gen fun R2 hR2 => ?_
      simp? only [e_said]
      refine SaidB.none hC ok glr ef ?_
      refine hR2 _ _ ?_
      refine dSeq_gen fun R3 hR3 => ?_
      simp? only [vw_non, e_said]
      refine oSameN_non ?_
      simp? only [e_said]
      refine SaidB.none hC ok gll fails_self ?_
      simp? only [isNonD, vw_non, e_said]
      refine hR3 _ _ ?_
      simp? only [isNonD, vw_non, e_said]
      exact hR _ _ ⟨cl2, hp2, _, .inl ⟨ef, rfl⟩, _, _, _, _, _, _, rfl⟩
    | some row =>
      have hrm := List.mem_of_find?_eq_some ef
      have hrl := (mem_rowsN.mp hrm).1
      have nd := rowD_nodup (A := A) (nb_nodup (l := l) (r := r)) hrl
      refine dSeq_gen fun R1 hR1 => ?_
      simp? only [e_said]
      refine ⟨A, l, r, rfl, ok, by omega, rfl, rfl, hl14, hr14, glr.sz, glr.nb, fun e => (by rw [ef] at e; cases e), fun row' e q1 hq1 => ?_⟩
      rw [ef] at e; cases e
      simp? only [e_said]
      refine ⟨_, _, mset_same, rfl, ?_⟩
      rw [mdel_mset hq1]
      refine hR1 _ _ ?_
      refine dSeq_gen fun R2 hR2 => ?_
      simp? only [e_said]
      refine SaidB.some hC ok glr ef fun q2 hq2 => ?_
      refine hR2 _ _ ?_
      have np2 : p ≠ q2 := fun e => by rw [← e, hp2] at hq2; cases hq2
      have v1 : vw (mset M' q2 (.dic (rowD A (nbOf l r) row))) (.ref q2) = .dic (rowD A (nbOf l r) row) := vw_d mset_same
      have v2 : ∀ M kv, vw M (.dic kv) = .dic kv := fun _ _ => rfl
      refine dSeq_gen fun R3 hR3 => ?_
      simp? only [v1, v2, e_said]
      refine oSameN_dic nd rowD_flat ?_
      simp? only [e_said]
      refine SaidB.none hC ok gll fails_self ?_
      simp? only [isNonD, vw_non, e_said]
      refine hR3 _ _ ?_
      simp? only [isNonD, v2, v1, e_said]
      have hk := keys_ok (A := A) hrl wnb
      refine ⟨.inr hk, ?_⟩
      rw [keys_same hrl wnb]
      rw [if_neg (by decide)]
      refine ⟨q2, _, rfl, mset_same, ?_⟩
      rw [mset_mset]
      refine SaidB.some hC ok glr ef fun q3 hq3 => ?_
      have v3 : ∀ M, vw (mset M q3 (.dic (rowD A (nbOf l r) row))) (.ref q3) = .dic (rowD A (nbOf l r) row) := fun M => vw_d mset_same
      rw [v3]
      refine oSameN_dic nd rowD_flat ?_
      simp? only
      have np3 : p ≠ q3 := fun e => by rw [← e, mset_ne np2, hp2] at hq3; cases hq3
      have c1 := cl2.new (o := .dic []) (sub_none cl2 hq2)
      exact hR _ _ ⟨c1.new (sub_none c1 hq3), by rw [mset_ne np3, mset_ne np2]; exact hp2, _, .inr ⟨by rw [ef]; simp, _, rfl⟩, _, _, _, _, _, _, rfl⟩
  rintro ρ M3 ⟨cl3, hp3, d8, hd8, o5, o9, o10, o11, o12, o13, rfl⟩
  have isn8 : ∀ M : Mp, isNonD (vw M d8) = decide (failsAt A l r = none) := fun M => by
    rcases hd8 with ⟨h, rfl⟩ | ⟨h, kv, rfl⟩
    · rw [h]; rfl
    · rw [decide_eq_false h]; rfl
  clear hp2 cl2
  have wd : ∀ o ∈ A.ops, Wrd o.sg := fun o ho => (ok.op o ho).wd
  have dl := dDep_tm hl4
  have dr := dDep_tm hr4
  -- what is no term
  refine dSeq_gen fun R hR => ?_
  simp? only [e_said]
  refine ⟨z2, ?_⟩
  refine SaidB.bad hC ok (by simp only [okT, okTL, okT_tm wd hl14]; rfl) (by simp only [dDep, dDepL]; omega) (okT_tm wd hr14) (dDep_tm hr14) (.inl (isTm_nosign nmO _)) ?_
  simp? only [e_said]
  rw [if_neg (by decide)]
  refine ⟨z1, ?_⟩
  refine SaidB.bad hC ok (okT_tm wd hl14) (dDep_tm hl14) rfl (by simp only [dDep, dDepL]; omega) (.inr (by simp [isTm])) ?_
  simp? only
  rw [if_neg (by decide)]
  refine hR _ _ ?_
  clear hR
  -- the images
  refine dSeq_gen fun R hR => ?_
  simp? only
  refine fun q4 hq4 => hR _ _ ?_
  clear hR
  have ne4 : p ≠ q4 := fun e => by rw [← e, hp3] at hq4; cases hq4
  have hp4 : ∀ o, mset M3 q4 o p = some (.src c) := fun o => by rw [mset_ne ne4]; exact hp3
  refine dSeq_inv (fun ρ M' => ∃ im : List (Cd × Tm), M' = mset M3 q4 (.dic (eD Tm.D im)) ∧ (∀ w u, im.lookup w = some u → TOk A 2 u ∧ ∀ x ∈ unk u, x ∈ nms) ∧ (∀ s ∈ nms, ∃ u, im.lookup s = some u) ∧ ∃ o5 o9 o11 o12 o13, ρ = [some (.scr ns), some (.ref p), some A.lawD, some (A.obj (He.ga K "Algebra")), some (.lst (sL nms)), o5, some l.D, some r.D, some d8, o9, some (.ref q4), o11, o12, o13]) (fun R hR => ?_) ?_
  · refine dFor_inv nms D.str (fun i ρ M' => ∃ im : List (Cd × Tm), M' = mset M3 q4 (.dic (eD Tm.D im)) ∧ im.length ≤ i ∧ (∀ w u, im.lookup w = some u → TOk A 2 u ∧ ∀ x ∈ unk u, x ∈ nms) ∧ (∀ s ∈ nms.take i, ∃ u, im.lookup s = some u) ∧ ∃ o5 o9 o11 o12 o13, ρ = [some (.scr ns), some (.ref p), some A.lawD, some (A.obj (He.ga K "Algebra")), some (.lst (sL nms)), o5, some l.D, some r.D, some d8, o9, some (.ref q4), o11, o12, o13]) (fun R hR => ?_) ⟨[], rfl, by simp, (fun w u h => by cases h), by simp, _, _, _, _, _, rfl⟩ ?_ ?_
    · simp? only
      exact hR
    · rintro j s ρ M' hj ⟨im, rfl, him, hio, hlk, o5, o9, o11, o12, o13, rfl⟩
      have hj3 := (List.getElem?_eq_some_iff.mp hj).1
      simp? only
      refine ⟨p, c, A, nms, 1, rfl, hp4 _, rfl, g, rfl, by omega, wnms, rfl, by decide, fun u hu huu => ?_⟩
      have huu : ∀ w ∈ unk u, w ∈ nms := fun w hw => (huu w hw).resolve_right fun h => nne h.1
      refine ⟨q4, _, rfl, mset_same, ?_⟩
      simp? only
      refine ⟨_, rfl, by rw [eD_len]; exact szl' (by omega), ?_⟩
      rw [dpu_eD, mset_mset]
      refine ⟨_, rfl, ?_, fun w u' hl => ?_, fun x hx => ?_, _, _, _, _, _, rfl⟩
      · have := pG_len (kv := im) (s := s) (v := u); omega
      · rw [lookup_pG] at hl
        by_cases e : w = s
        · rw [if_pos e] at hl; cases hl; exact ⟨hu, huu⟩
        · rw [if_neg e] at hl; exact hio w u' hl
      · rw [lookup_pG]
        by_cases e : x = s
        · exact ⟨u, by rw [if_pos e]⟩
        · rw [if_neg e]
          refine hlk x ?_
          rw [List.take_add_one, hj, Option.toList_some] at hx
          rcases List.mem_append.mp hx with h1 | h1
          · exact h1
          · exact absurd (List.mem_singleton.mp h1) e
    · rintro ρ M' ⟨im, rfl, him, hio, hlk, o5, o9, o11, o12, o13, rfl⟩
      rw [List.take_length] at hlk
      exact hR _ _ ⟨im, rfl, hio, hlk, _, _, _, _, _, rfl⟩
  rintro ρ M' ⟨im, rfl, hio, hlk, o5, o9, o11, o12, o13, rfl⟩
  have hsl : ∀ t, TOk A 4 t → TOk A 14 (t.sub fun w => im.lookup w) := fun t ht => (TOk.sub (fun w u h => (hio w u h).1) ht).mono (by omega)
  have hsu : ∀ t, (∀ w ∈ unk t, w ∈ nms) → ∀ w ∈ unk (t.sub fun w => im.lookup w), w ∈ nms := fun t ht w hw => by
    obtain ⟨v, hv, hw2⟩ := unk_sub hw
    obtain ⟨u, e⟩ := hlk v (ht v hv)
    rw [e] at hw2
    exact (hio v u e).2 w hw2
  refine dSeq_gen fun R hR => ?_
  simp? only
  refine ⟨A, l, im, rfl, hl14, ok.ar2, vw_d mset_same, ?_⟩
  refine ⟨A, r, im, rfl, hr14, ok.ar2, vw_d mset_same, ?_⟩
  refine ⟨z2, hR _ _ ?_⟩
  clear hR
  simp? only [isn8]
  by_cases hf : failsAt A l r = none
  · rw [if_pos hf]
    refine ⟨_, atI0, _, atI_n (j := 1) rfl rfl, ?_⟩
    simp? only [e_said]
    refine SaidB.none hC ok (mk (hsl l hl4) (hsl r hr4) (hsu l hul) (hsu r hur)) (fails_sub ok hf (fun w u h => (hio w u h).1) fun w hw => hlk w ((nb_mem.mp hw).elim (hul w) (hur w))) ?_
    simp? only [isNonD, vw_non]
    exact ⟨cl3.new (sub_none cl3 hq4), hp4 _, _, _, _, _, _, _, _, _, _, rfl⟩
  · rw [if_neg hf]
    exact ⟨cl3.new (sub_none cl3 hq4), hp4 _, _, _, _, _, _, _, _, _, _, rfl⟩
end
end EK


set_option Elab.async false
set_option linter.all false
set_option maxRecDepth 100000
set_option maxHeartbeats 4000000
namespace EK
open PySem PySem.Spec PyProof.Rows L2 DL
def df (x : Str) (i : Nat) : He.DefD := ⟨(x, none), x, x, defArgs (top i), defBody (top i), defScope (top i), [], []⟩
def dm (c x q : Str) (s : Stmt) : He.DefD := ⟨(c, some x), x, q, defArgs s, defBody s, defScope s, [], []⟩
def ini (x : Str) (v : Bool) (q : Str) (s : Stmt) : IniD := ⟨x, v, q, defArgs s, defBody s, defScope s⟩
def fn : List He.DefD := [df "is_member_name" 14, df "is_word" 15, df "tuples_of" 16, df "is_operation" 17, df "_law_pick" 30, df "_law_source" 29, df "_law_names" 31, df "_law_rows" 32, df "_law_operation" 33, df "_law_algebra" 34, df "_law_told" 35, df "_law_made" 36, df "_law_at" 37, df "is_term" 20, df "check_term" 21, df "put_unknowns" 22, df "replaced" 23, df "worked_out" 24, df "_law_term" 38, df "_law_worked" 39, df "_law_unknowns" 40, df "unknowns_of_both" 26, df "fails" 27, df "_law_said" 42, df "_law_due" 43, df "law" 44, dm "Algebra" "lay" "Algebra.lay" s_Algebra_lay, dm "Algebra" "__init__" "Algebra.__init__" s_Algebra_init, dm "Algebra" "members" "Algebra.members" s_Algebra_members, dm "Algebra" "need" "Algebra.need" s_Algebra_need, dm "Algebra" "__contains__" "Algebra.__contains__" s_Algebra___contains__, dm "Algebra" "__len__" "Algebra.__len__" s_Algebra___len__, dm "Algebra" "__eq__" "Algebra.__eq__" s_Algebra___eq__, dm "Algebra" "value" "Algebra.value" s_Algebra_value]
def fa : List He.Fa := [.glo "is_member_name", .glo "is_word", .glo "tuples_of", .glo "is_operation", .glo "_law_pick", .glo "_law_source", .glo "_law_names", .glo "_law_rows", .glo "_law_operation", .glo "_law_algebra", .glo "_law_told", .glo "_law_made", .glo "_law_at", .glo "is_term", .glo "check_term", .glo "put_unknowns", .glo "replaced", .glo "worked_out", .glo "_law_term", .glo "_law_worked", .glo "_law_unknowns", .glo "unknowns_of_both", .glo "fails", .glo "_law_said", .glo "_law_due", .glo "law", .free "len", .free "int", .free "abs", .free "str", .free "tuple", .free "list", .free "isinstance", .free "range", .free "zip", .free "enumerate", .free "all", .free "any", .free "sum", .free "max", .free "min", .free "bool", .free "super", .str "LETTERS" "abcdefghijklmnopqrstuvwxyz", .str "CHARACTERS" "abcdefghijklmnopqrstuvwxyz0123456789", .int "MOST_MEMBERS" 6, .int "MOST_SIGNS" 5, .int "MOST_ARITY" 2, .glo "EqualkinError", .glo "BadAlgebra", .glo "BadCount", .glo "BadTerm", .glo "NameMissing", .glo "UnknownMember", .glo "UnknownSign", .glo "Algebra"]
def ix : List IniD := [ini "BadAlgebra" true "BadAlgebra.__init__" (mth (top 2) 0), ini "BadCount" true "BadCount.__init__" (mth (top 3) 0), ini "BadTerm" true "BadTerm.__init__" (mth (top 4) 0), ini "UnknownMember" false "UnknownMember.__init__" (mth (top 6) 0), ini "UnknownSign" false "UnknownSign.__init__" (mth (top 7) 0)]
def exL (K : PySem.W.Frag) : List Bool := [decide (PySem.W.exmOne K (.ref (He.ga K "BadAlgebra")) (.ref (He.ga K "BadTerm")) = some false),
  decide (PySem.W.exmOne K (.ref (He.ga K "BadCount")) (.ref (He.ga K "BadTerm")) = some false),
  decide (PySem.W.exmOne K (.ref (He.ga K "BadTerm")) (.ref (He.ga K "BadTerm")) = some true),
  decide (PySem.W.exmOne K (.ref (He.ga K "UnknownMember")) (.ref (He.ga K "BadTerm")) = some false),
  decide (PySem.W.exmOne K (.ref (He.ga K "UnknownSign")) (.ref (He.ga K "BadTerm")) = some false),
  xfB K (He.ga K "BadAlgebra"),
  xfB K (He.ga K "BadCount"),
  xfB K (He.ga K "BadTerm"),
  He.eqO (PySem.W.findIn K (.ref (He.ga K "UnknownMember")) "name") (some none),
  xfB K (He.ga K "UnknownMember"),
  He.eqO (PySem.W.findIn K (.ref (He.ga K "UnknownSign")) "name") (some none),
  xfB K (He.ga K "UnknownSign"),
  tyInsB K (He.ga K "Algebra"),
  He.eqO (PySem.W.findIn K (.ref (He.ga K "Algebra")) "order") (some none),
  He.eqO (PySem.W.findIn K (.ref (He.ga K "Algebra")) "places") (some none),
  He.eqO (PySem.W.findIn K (.ref (He.ga K "Algebra")) "signature") (some none),
  He.eqO (PySem.W.findIn K (.ref (He.ga K "Algebra")) "arities") (some none),
  He.eqO (PySem.W.findIn K (.ref (He.ga K "Algebra")) "rows") (some none),
  He.eqO (PySem.W.findIn K (.ref (He.ga K "Algebra")) "tables") (some none),
  He.eqO (PySem.W.findIn K (.ref (He.ga K "Algebra")) "whole") (some none),
  PySem.W.notFirst K (He.ga K "Algebra") (.ref (He.ga K "Algebra")),
  decide (PySem.W.kitOne K (.ref (He.ga K "Algebra")) (.ref (He.ga K "Algebra")) = some true),
  decide (PySem.W.kitOne K (.type "NoneType") (.ref (He.ga K "Algebra")) = some false),
  decide (PySem.W.kitOne K (.type "bool") (.ref (He.ga K "Algebra")) = some false),
  decide (PySem.W.kitOne K (.type "int") (.ref (He.ga K "Algebra")) = some false),
  decide (PySem.W.kitOne K (.type "str") (.ref (He.ga K "Algebra")) = some false),
  decide (PySem.W.kitOne K (.type "list") (.ref (He.ga K "Algebra")) = some false),
  decide (PySem.W.kitOne K (.type "tuple") (.ref (He.ga K "Algebra")) = some false),
  decide (PySem.W.kitOne K (.type "dict") (.ref (He.ga K "Algebra")) = some false),
  methB K (He.ga K "Algebra") "lay" (He.fAd K ("Algebra", some "lay")),
  mkB K (He.ga K "Algebra") (He.fAd K ("Algebra", some "__init__")),
  methB K (He.ga K "Algebra") "members" (He.fAd K ("Algebra", some "members")),
  methB K (He.ga K "Algebra") "need" (He.fAd K ("Algebra", some "need")),
  methB K (He.ga K "Algebra") "__contains__" (He.fAd K ("Algebra", some "__contains__")),
  methB K (He.ga K "Algebra") "__len__" (He.fAd K ("Algebra", some "__len__")),
  methB K (He.ga K "Algebra") "__eq__" (He.fAd K ("Algebra", some "__eq__")),
  methB K (He.ga K "Algebra") "value" (He.fAd K ("Algebra", some "value"))]
def ex (K : PySem.W.Frag) : Bool := (exL K).all id
theorem ex_at {K : PySem.W.Frag} (h : ex K = true) (i : Nat) {b : Bool} (e : (exL K)[i]? = some b) : b = true := List.all_eq_true.mp h b (List.mem_of_getElem? e)
abbrev R : PySem.W.OpenRow := PySem.W.OpenLaw.row PySem.Challenge.rw_equalkin_k51_whole_equations
abbrev fl : Str := PySem.Challenge.pw_equalkin_k51_whole_equations.main.file
abbrev hk : PySem.W.Hook := hookE 5 fl fa fn ix [] ex
def ob (s : PySem.W.SharedT) : AlE := obsEG 5 fl fa fn ix [] ex (HandSHeadRun.getT s)
theorem ob_eq (s : PySem.W.SharedT) : ob s = hk.obs s.abs := obsEG_eq (HandSHeadRun.getT_eq s)
def names : List Str := "EqualkinError" :: "BadAlgebra" :: "BadCount" :: "BadTerm" :: "NameMissing" :: "UnknownMember" :: "UnknownSign" :: "LETTERS" :: "CHARACTERS" :: "MOST_MEMBERS" :: "MOST_SIGNS" :: "MOST_ARITY" :: "is_member_name" :: "is_word" :: "tuples_of" :: "is_operation" :: "Algebra" :: "is_term" :: "check_term" :: "put_unknowns" :: "replaced" :: "worked_out" :: "unknowns_of_both" :: "fails" :: "_law_source" :: "_law_pick" :: "_law_names" :: "_law_rows" :: "_law_operation" :: "_law_algebra" :: "_law_told" :: "_law_made" :: "_law_at" :: "_law_term" :: "_law_worked" :: "_law_unknowns" :: "_law_depth" :: "_law_said" :: "_law_due" :: ([] : List Str)
theorem run (w : World) : HandSHeadRun.RunEq R (PySem.W.view R.prog [44]) hk ob 12000 names w := by
  intro os
  kernel_rfl
section
variable {w : World} {K : PySem.W.Frag} {mg : Str → Option Value} {base : Heap}
abbrev PP : Program := PySem.Challenge.pw_equalkin_k51_whole_equations
theorem ex_BadAlgebra {veB : List Value} {C fI cda cc : Addr} {fd : FuncData} (T : XCls K C "ValueError" "ValueError.__new__" "ValueError.__init__" veB)
    (Y : XIni PP K C fI "ValueError.__init__" "__init__" "BadAlgebra.__init__" (defArgs (mth (top 2) 0)) (defBody (mth (top 2) 0)) (defScope (mth (top 2) 0)) cda cc fd) (hsm : mg "super" = none) (hm : mg "BadAlgebra" = some (.ref C)) : EX0 PP w K mg base "BadAlgebra" C := by
  have hs : FnScopeX ["self"] ["self"] (defScope (mth (top 2) 0)) := by constructor <;> first | rfl | decide +kernel
  refine ⟨_, _, _, _, fI, fd, ["self"], T, Y.ini, Y.ty, ?_, Y.binds fun _ _ _ _ _ us hl => match us, hl with | [_], _ => rfl, hm⟩
  exact fn_S0 (N := ["self"]) T Y hs rfl rfl rfl hsm rfl (fun _ => rfl)
theorem ex_BadCount {veB : List Value} {C fI cda cc : Addr} {fd : FuncData} (T : XCls K C "ValueError" "ValueError.__new__" "ValueError.__init__" veB)
    (Y : XIni PP K C fI "ValueError.__init__" "__init__" "BadCount.__init__" (defArgs (mth (top 3) 0)) (defBody (mth (top 3) 0)) (defScope (mth (top 3) 0)) cda cc fd) (hsm : mg "super" = none) (hm : mg "BadCount" = some (.ref C)) : EX0 PP w K mg base "BadCount" C := by
  have hs : FnScopeX ["self"] ["self"] (defScope (mth (top 3) 0)) := by constructor <;> first | rfl | decide +kernel
  refine ⟨_, _, _, _, fI, fd, ["self"], T, Y.ini, Y.ty, ?_, Y.binds fun _ _ _ _ _ us hl => match us, hl with | [_], _ => rfl, hm⟩
  exact fn_S0 (N := ["self"]) T Y hs rfl rfl rfl hsm rfl (fun _ => rfl)
theorem ex_BadTerm {veB : List Value} {C fI cda cc : Addr} {fd : FuncData} (T : XCls K C "ValueError" "ValueError.__new__" "ValueError.__init__" veB)
    (Y : XIni PP K C fI "ValueError.__init__" "__init__" "BadTerm.__init__" (defArgs (mth (top 4) 0)) (defBody (mth (top 4) 0)) (defScope (mth (top 4) 0)) cda cc fd) (hsm : mg "super" = none) (hm : mg "BadTerm" = some (.ref C)) : EX0 PP w K mg base "BadTerm" C := by
  have hs : FnScopeX ["self"] ["self"] (defScope (mth (top 4) 0)) := by constructor <;> first | rfl | decide +kernel
  refine ⟨_, _, _, _, fI, fd, ["self"], T, Y.ini, Y.ty, ?_, Y.binds fun _ _ _ _ _ us hl => match us, hl with | [_], _ => rfl, hm⟩
  exact fn_S0 (N := ["self"]) T Y hs rfl rfl rfl hsm rfl (fun _ => rfl)
theorem ex_UnknownMember {veB : List Value} {C fI cda cc : Addr} {fd : FuncData} (T : XCls K C "LookupError" "LookupError.__new__" "LookupError.__init__" veB)
    (Y : XIni PP K C fI "LookupError.__init__" "__init__" "UnknownMember.__init__" (defArgs (mth (top 6) 0)) (defBody (mth (top 6) 0)) (defScope (mth (top 6) 0)) cda cc fd) (hsm : mg "super" = none) (hm : mg "UnknownMember" = some (.ref C)) (h0 : PySem.W.findIn K (.ref C) "name" = some none) : EXN PP w K mg base "UnknownMember" C [("name", false)] okTxt := by
  have hs : FnScopeX ["self", "name"] ["self", "name"] (defScope (mth (top 6) 0)) := by constructor <;> first | rfl | decide +kernel
  refine ⟨_, _, _, _, fI, fd, ["self", "name"], T, Y.ini, Y.ty, ?_, Y.binds fun _ _ _ _ _ us hl => match us, hl with | [_, _], _ => rfl, hm⟩
  refine fn_SN (N := ["self", "name"]) T Y hs rfl rfl rfl hsm rfl (fun p hp => ?_) rfl (by decide) (fun A outer s H E => .cons (fx_var rfl (.inl rfl) rfl (.inl rfl) (by decide) (by decide) (by decide) (by decide) rfl) (.nil _)) (fun A outer s H E => ?_) (fun _ => rfl)
  · simp only [List.mem_cons, List.not_mem_nil, or_false] at hp
    rcases hp with rfl
    · exact h0
  · exact msgR2 (pe_var rfl (.inl rfl) (by decide) (by decide)) (by decide +kernel)
theorem ex_UnknownSign {veB : List Value} {C fI cda cc : Addr} {fd : FuncData} (T : XCls K C "LookupError" "LookupError.__new__" "LookupError.__init__" veB)
    (Y : XIni PP K C fI "LookupError.__init__" "__init__" "UnknownSign.__init__" (defArgs (mth (top 7) 0)) (defBody (mth (top 7) 0)) (defScope (mth (top 7) 0)) cda cc fd) (hsm : mg "super" = none) (hm : mg "UnknownSign" = some (.ref C)) (h0 : PySem.W.findIn K (.ref C) "name" = some none) : EXN PP w K mg base "UnknownSign" C [("name", false)] okTxt := by
  have hs : FnScopeX ["self", "name"] ["self", "name"] (defScope (mth (top 7) 0)) := by constructor <;> first | rfl | decide +kernel
  refine ⟨_, _, _, _, fI, fd, ["self", "name"], T, Y.ini, Y.ty, ?_, Y.binds fun _ _ _ _ _ us hl => match us, hl with | [_, _], _ => rfl, hm⟩
  refine fn_SN (N := ["self", "name"]) T Y hs rfl rfl rfl hsm rfl (fun p hp => ?_) rfl (by decide) (fun A outer s H E => .cons (fx_var rfl (.inl rfl) rfl (.inl rfl) (by decide) (by decide) (by decide) (by decide) rfl) (.nil _)) (fun A outer s H E => ?_) (fun _ => rfl)
  · simp only [List.mem_cons, List.not_mem_nil, or_false] at hp
    rcases hp with rfl
    · exact h0
  · exact msgR2 (pe_var rfl (.inl rfl) (by decide) (by decide)) (by decide +kernel)
theorem facts {h : Heap} {f : Addr} (X : K.In h) (G : h.Ns mainGlobals mg) (hfa : mg ("law" : Str) = some (.ref f)) (c : SaysE PP.main.file fa fn ix [] ex K) :
    ∃ fd : FuncData, (∀ (s : Shared) (v : Value), BindsTo s fd ⟨[v], []⟩ [("script", v)]) ∧ ∀ base : Heap, K.In base → base.Ns mainGlobals mg → FnOk PP w K mg base (L2.CX PP w) 21 f fd ["script"] (lift K (S_law K)) := by
  have gl := fun (i : Nat) (x : Str) (e : fa[i]? = some (.glo x)) => He.glo_ok X G (c.fact i e)
  have fr := fun (i : Nat) (x : Str) (e : fa[i]? = some (.free x)) => He.free_ok X G (c.fact i e)
  have hx := SaysE.exB c
  have m : Mg K mg := ⟨fr 26 _ rfl,
    fr 27 _ rfl,
    fr 28 _ rfl,
    fr 29 _ rfl,
    fr 30 _ rfl,
    fr 31 _ rfl,
    fr 32 _ rfl,
    fr 33 _ rfl,
    fr 34 _ rfl,
    fr 35 _ rfl,
    fr 36 _ rfl,
    fr 37 _ rfl,
    fr 38 _ rfl,
    fr 39 _ rfl,
    fr 40 _ rfl,
    fr 41 _ rfl,
    fr 42 _ rfl,
    (let ⟨t, e⟩ := He.str_ok X G (c.fact 43 (f := .str "LETTERS" "abcdefghijklmnopqrstuvwxyz") rfl); ⟨_, e, t, by kernel_rfl⟩),
    (let ⟨t, e⟩ := He.str_ok X G (c.fact 44 (f := .str "CHARACTERS" "abcdefghijklmnopqrstuvwxyz0123456789") rfl); ⟨_, e, t, by kernel_rfl⟩),
    (let ⟨t, e⟩ := He.int_ok X G (c.fact 45 (f := .int "MOST_MEMBERS" 6) rfl); ⟨_, e, t, rfl⟩),
    (let ⟨t, e⟩ := He.int_ok X G (c.fact 46 (f := .int "MOST_SIGNS" 5) rfl); ⟨_, e, t, rfl⟩),
    (let ⟨t, e⟩ := He.int_ok X G (c.fact 47 (f := .int "MOST_ARITY" 2) rfl); ⟨_, e, t, rfl⟩),
    gl 48 "EqualkinError" rfl,
    gl 49 "BadAlgebra" rfl,
    gl 50 "BadCount" rfl,
    gl 51 "BadTerm" rfl,
    gl 52 "NameMissing" rfl,
    gl 53 "UnknownMember" rfl,
    gl 54 "UnknownSign" rfl,
    gl 55 "Algebra" rfl,
    of_decide_eq_true (ex_at hx 0 rfl),
    of_decide_eq_true (ex_at hx 1 rfl),
    of_decide_eq_true (ex_at hx 2 rfl),
    of_decide_eq_true (ex_at hx 3 rfl),
    of_decide_eq_true (ex_at hx 4 rfl),
    xfB_ok (ex_at hx 5 rfl),
    xfB_ok (ex_at hx 6 rfl),
    xfB_ok (ex_at hx 7 rfl),
    He.eqO_ok (ex_at hx 8 rfl),
    xfB_ok (ex_at hx 9 rfl),
    He.eqO_ok (ex_at hx 10 rfl),
    xfB_ok (ex_at hx 11 rfl),
    tyInsB_ok (ex_at hx 12 rfl),
    He.eqO_ok (ex_at hx 13 rfl),
    He.eqO_ok (ex_at hx 14 rfl),
    He.eqO_ok (ex_at hx 15 rfl),
    He.eqO_ok (ex_at hx 16 rfl),
    He.eqO_ok (ex_at hx 17 rfl),
    He.eqO_ok (ex_at hx 18 rfl),
    He.eqO_ok (ex_at hx 19 rfl),
    id (ex_at hx 20 rfl),
    of_decide_eq_true (ex_at hx 21 rfl),
    of_decide_eq_true (ex_at hx 22 rfl),
    of_decide_eq_true (ex_at hx 23 rfl),
    of_decide_eq_true (ex_at hx 24 rfl),
    of_decide_eq_true (ex_at hx 25 rfl),
    of_decide_eq_true (ex_at hx 26 rfl),
    of_decide_eq_true (ex_at hx 27 rfl),
    of_decide_eq_true (ex_at hx 28 rfl)⟩
  obtain ⟨fd0, D0⟩ := c.def_ 0 rfl
  obtain ⟨fd1, D1⟩ := c.def_ 1 rfl
  obtain ⟨fd2, D2⟩ := c.def_ 2 rfl
  obtain ⟨fd3, D3⟩ := c.def_ 3 rfl
  obtain ⟨fd4, D4⟩ := c.def_ 4 rfl
  obtain ⟨fd5, D5⟩ := c.def_ 5 rfl
  obtain ⟨fd6, D6⟩ := c.def_ 6 rfl
  obtain ⟨fd7, D7⟩ := c.def_ 7 rfl
  obtain ⟨fd8, D8⟩ := c.def_ 8 rfl
  obtain ⟨fd9, D9⟩ := c.def_ 9 rfl
  obtain ⟨fd10, D10⟩ := c.def_ 10 rfl
  obtain ⟨fd11, D11⟩ := c.def_ 11 rfl
  obtain ⟨fd12, D12⟩ := c.def_ 12 rfl
  obtain ⟨fd13, D13⟩ := c.def_ 13 rfl
  obtain ⟨fd14, D14⟩ := c.def_ 14 rfl
  obtain ⟨fd15, D15⟩ := c.def_ 15 rfl
  obtain ⟨fd16, D16⟩ := c.def_ 16 rfl
  obtain ⟨fd17, D17⟩ := c.def_ 17 rfl
  obtain ⟨fd18, D18⟩ := c.def_ 18 rfl
  obtain ⟨fd19, D19⟩ := c.def_ 19 rfl
  obtain ⟨fd20, D20⟩ := c.def_ 20 rfl
  obtain ⟨fd21, D21⟩ := c.def_ 21 rfl
  obtain ⟨fd22, D22⟩ := c.def_ 22 rfl
  obtain ⟨fd23, D23⟩ := c.def_ 23 rfl
  obtain ⟨fd24, D24⟩ := c.def_ 24 rfl
  obtain ⟨fd25, D25⟩ := c.def_ 25 rfl
  obtain ⟨fd26, D26⟩ := c.def_ 26 rfl
  obtain ⟨fd27, D27⟩ := c.def_ 27 rfl
  obtain ⟨fd28, D28⟩ := c.def_ 28 rfl
  obtain ⟨fd29, D29⟩ := c.def_ 29 rfl
  obtain ⟨fd30, D30⟩ := c.def_ 30 rfl
  obtain ⟨fd31, D31⟩ := c.def_ 31 rfl
  obtain ⟨fd32, D32⟩ := c.def_ 32 rfl
  obtain ⟨fd33, D33⟩ := c.def_ 33 rfl
  obtain ⟨T0, cda0, cc0, fi0, Y0⟩ := SaysE.ini (P := PP) c (by decide +kernel) 0 rfl
  obtain ⟨T1, cda1, cc1, fi1, Y1⟩ := SaysE.ini (P := PP) c (by decide +kernel) 1 rfl
  obtain ⟨T2, cda2, cc2, fi2, Y2⟩ := SaysE.ini (P := PP) c (by decide +kernel) 2 rfl
  obtain ⟨T3, cda3, cc3, fi3, Y3⟩ := SaysE.ini (P := PP) c (by decide +kernel) 3 rfl
  obtain ⟨T4, cda4, cc4, fi4, Y4⟩ := SaysE.ini (P := PP) c (by decide +kernel) 4 rfl
  have e := hfa.symm.trans (gl 25 "law" rfl)
  cases e
  have b := FunD.bindsA (ps := ["script"]) D25 fun _ _ _ _ _ _ us hl => match us, hl with | [_], _ => rfl
  refine ⟨fd25, fun s v => b s [v] rfl, fun base _ _ => ?_⟩
  have X_BadAlgebra := ex_BadAlgebra (w := w) (base := base) T0 Y0 m.super m.g_BadAlgebra 
  have X_BadCount := ex_BadCount (w := w) (base := base) T1 Y1 m.super m.g_BadCount 
  have X_BadTerm := ex_BadTerm (w := w) (base := base) T2 Y2 m.super m.g_BadTerm 
  have X_UnknownMember := ex_UnknownMember (w := w) (base := base) T3 Y3 m.super m.g_UnknownMember m.xn_UnknownMember_name
  have X_UnknownSign := ex_UnknownSign (w := w) (base := base) T4 Y4 m.super m.g_UnknownSign m.xn_UnknownSign_name
  have F_is_member_name := ok_is_member_name (P := PP) (w := w) (base := base) m  D0 (gl 0 _ rfl)
  have F_is_word := ok_is_word (P := PP) (w := w) (base := base) m F_is_member_name D1 (gl 1 _ rfl)
  have F_tuples_of := ok_tuples_of (P := PP) (w := w) (base := base) m  D2 (gl 2 _ rfl)
  have F_is_operation := ok_is_operation (P := PP) (w := w) (base := base) m F_is_word F_tuples_of D3 (gl 3 _ rfl)
  have M_Algebra_lay := ok_Algebra_lay (P := PP) (w := w) (base := base) m F_tuples_of D26 (fun C hC => by
    rcases hC with rfl
    · exact ⟨m.ti_Algebra.cls, methB_ok (ex_at hx 29 rfl)⟩)
  have N_Algebra := ok_Algebra_init (P := PP) (w := w) (base := base) m F_is_member_name F_is_operation M_Algebra_lay D27 (mkB_ok (ex_at hx 30 rfl)) m.g_Algebra
  have M_Algebra_members := ok_Algebra_members (P := PP) (w := w) (base := base) m  D28 (fun C hC => by
    rcases hC with rfl
    · exact ⟨m.ti_Algebra.cls, methB_ok (ex_at hx 31 rfl)⟩)
  have M_Algebra_need := ok_Algebra_need (P := PP) (w := w) (base := base) m X_UnknownMember D29 (fun C hC => by
    rcases hC with rfl
    · exact ⟨m.ti_Algebra.cls, methB_ok (ex_at hx 32 rfl)⟩)
  have M_Algebra___contains__ := ok_Algebra___contains__ (P := PP) (w := w) (base := base) m  D30 (fun C hC => by
    rcases hC with rfl
    · exact ⟨m.ti_Algebra.cls, methB_ok (ex_at hx 33 rfl)⟩)
  have M_Algebra___len__ := ok_Algebra___len__ (P := PP) (w := w) (base := base) m  D31 (fun C hC => by
    rcases hC with rfl
    · exact ⟨m.ti_Algebra.cls, methB_ok (ex_at hx 34 rfl)⟩)
  have M_Algebra___eq__ := ok_Algebra___eq__ (P := PP) (w := w) (base := base) m  D32 (fun C hC => by
    rcases hC with rfl
    · exact ⟨m.ti_Algebra.cls, methB_ok (ex_at hx 35 rfl)⟩)
  have M_Algebra_value := ok_Algebra_value (P := PP) (w := w) (base := base) m X_UnknownSign X_BadCount M_Algebra_need D33 (fun C hC => by
    rcases hC with rfl
    · exact ⟨m.ti_Algebra.cls, methB_ok (ex_at hx 36 rfl)⟩)
  have F__law_pick := ok__law_pick (P := PP) (w := w) (base := base) m  D4 (gl 4 _ rfl)
  have F__law_source := ok__law_source (P := PP) (w := w) (base := base) m  D5 (gl 5 _ rfl)
  have F__law_names := ok__law_names (P := PP) (w := w) (base := base) m F__law_pick D6 (gl 6 _ rfl)
  have F__law_rows := ok__law_rows (P := PP) (w := w) (base := base) m  D7 (gl 7 _ rfl)
  have F__law_operation := ok__law_operation (P := PP) (w := w) (base := base) m F__law_pick F__law_rows D8 (gl 8 _ rfl)
  have F__law_algebra := ok__law_algebra (P := PP) (w := w) (base := base) m F__law_pick F__law_names F__law_operation F__law_rows D9 (gl 9 _ rfl)
  have F__law_told := ok__law_told (P := PP) (w := w) (base := base) m  D10 (gl 10 _ rfl)
  have F__law_made := ok__law_made (P := PP) (w := w) (base := base) m N_Algebra F__law_told D11 (gl 11 _ rfl)
  have F__law_at := ok__law_at (P := PP) (w := w) (base := base) m  D12 (gl 12 _ rfl)
  have F_is_term := fn_is_term (P := PP) (w := w) (base := base) m F_is_word D13 (gl 13 _ rfl)
  have F_check_term := ok_check_term (P := PP) (w := w) (base := base) m F_is_term X_BadTerm D14 (gl 14 _ rfl)
  have F_put_unknowns := fn_put_unknowns (P := PP) (w := w) (base := base) m  D15 (gl 15 _ rfl)
  have F_replaced := fn_replaced (P := PP) (w := w) (base := base) m  D16 (gl 16 _ rfl)
  have F_worked_out := fn_worked_out (P := PP) (w := w) (base := base) m  D17 (gl 17 _ rfl)
  have F__law_term := fn__law_term (P := PP) (w := w) (base := base) m F__law_pick D18 (gl 18 _ rfl)
  have F__law_worked := fn__law_worked (P := PP) (w := w) (base := base) m F__law_at D19 (gl 19 _ rfl)
  have F__law_unknowns := fn__law_unknowns (P := PP) (w := w) (base := base) m  D20 (gl 20 _ rfl)
  have F_unknowns_of_both := ok_unknowns_of_both (P := PP) (w := w) (base := base) m F_put_unknowns D21 (gl 21 _ rfl)
  have F_fails := ok_fails (P := PP) (w := w) (base := base) m F_check_term F_unknowns_of_both F_tuples_of M_Algebra_members F_worked_out D22 (gl 22 _ rfl)
  have F__law_said := ok__law_said (P := PP) (w := w) (base := base) m F_fails D23 (gl 23 _ rfl)
  have F__law_due := ok__law_due (P := PP) (w := w) (base := base) m F__law_unknowns F__law_rows F__law_worked D24 (gl 24 _ rfl)
  exact okf_law (P := PP) (w := w) (base := base) m F__law_source F__law_algebra F__law_made F__law_pick F__law_term F_replaced F__law_due F__law_said M_Algebra___eq__ D25
end
/-- what is let out, seen from far -/
def CXV : CXT := fun _ _ _ E _ _ => ∃ cls d H, E cls d H
theorem FnOk.cx {P : Program} {w : World} {K : PySem.W.Frag} {mg : Str → Option Value} {base : Heap} {k : Nat} {f : Addr} {fd : FuncData} {ps : List Str} {sp : Sp} (F : FnOk P w K mg base (L2.CX P w) k f fd ps sp) : FnOk P w K mg base CXV k f fd ps sp :=
  ⟨F.len, fun A outer s H args us vs Q E hr he hb hv hs => codeAny_mono (F.run A outer s H args us vs Q E hr he hb hv hs) fun r s' hq => by
    cases r with
    | error e =>
      obtain ⟨_, _, _, _, _, _, _, _, _, _, _, _, z⟩ := hq
      exact ⟨_, _, _, z⟩
    | ok fl =>
      cases fl with
      | ret u => exact hq
      | next => exact hq
      | brk => exact hq
      | cont => exact hq⟩
/-- the script -/
theorem start_law {K : PySem.W.Frag} {sp : DSp} {a : Addr} {ns : List Int} {H : Hp} (hO : Only H) (hS : SqL K H a (ns.map V.int)) (h : sp [.scr ns] (fun _ => none) (fun d _ => d = .bl true) (fun _ _ _ => False)) :
    lift K sp [.ref a] H (fun v _ => v = .bl true) fun _ _ _ => False := by
  refine ⟨H, fun _ => none, [.scr ns], _, _, ⟨fun _ _ e => .inl e, fun _ _ e => by cases e⟩, .cons (.scr ?_) .nil, h, fun v H' F' d M' s r q => ?_, fun _ _ _ _ _ _ _ _ _ _ z => z⟩
  · rcases hS with (hS | hS) | hS
    · rcases hO a with z | ⟨o, xs, z⟩ <;> rw [hS] at z <;> cases z
    · exact .inl hS
    · exact .inr hS
  · subst q; cases r; rfl
end EK
open PySem PySem.W PySem.Calls PyProof.Rows
theorem PySem.Challenge.cw_equalkin_k51_whole_equations_holds : PySem.Challenge.rw_equalkin_k51_whole_equations.Holds := by
  w_on; o_law
  refine HandSHeadRun.head_any (r := OpenLaw.row PySem.Challenge.rw_equalkin_k51_whole_equations) (q := view (OpenLaw.row PySem.Challenge.rw_equalkin_k51_whole_equations).prog [44]) (H := EK.hk) (ob := EK.ob) (M := 12000) (loose := EK.names) (d := HandSHeadRun.topDef (OpenLaw.row PySem.Challenge.rw_equalkin_k51_whole_equations).prog 44) (kwd := []) EK.ob_eq
    (by kernel_rfl) (fun s => by kernel_rfl) EK.run (by kernel_rfl) (by kernel_rfl) (by kernel_rfl) (by rfl) (by first | assumption | decide +kernel) (by decide +kernel) ⟨rfl, rfl, rfl, rfl, rfl, by decide +kernel⟩ ?hw ?hc
  case hw => w_witness2
  case hc =>
    refine L2.walk_ofE (l := PySem.Challenge.rw_equalkin_k51_whole_equations) (n := 63) (k := 21) (x := "script") (CX := EK.CXV) rfl (by decide) (by kernel_rfl) ⟨rfl, by decide, by decide⟩ ?F (fun _ _ _ _ z => by obtain ⟨_, _, _, z⟩ := z; exact z)
    intro w mg fa h Y G hmg0
    obtain ⟨K, KX, c⟩ := Y
    have hmg : mg ("law" : PySem.Str) = some (.ref fa) := by
      have e : (HandSHeadRun.topDef (OpenLaw.row PySem.Challenge.rw_equalkin_k51_whole_equations).prog 44).name = ("law" : PySem.Str) := by kernel_rfl
      rw [← e]
      exact hmg0
    obtain ⟨fd, hb, hF⟩ := EK.facts (w := w) KX G hmg c
    exact ⟨K, fd, _, KX, hb, fun H a ns hl hO hS => EK.start_law hO hS ⟨ns, rfl, by omega, rfl⟩, fun base h1 h2 => EK.FnOk.cx (hF base h1 h2)⟩

