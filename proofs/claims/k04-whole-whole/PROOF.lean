import PyProof.Rows.All
import Wide.All
import OpenK.AllK
import Wide.FinOn
import HandS.ForMost
import HandS.Exc
import HandS.HeadHook4
import HandS.Style
import HandS.More
import HandS.ExcOwn
import HandS.WordsExc
import HandS.IsInst
import HandS.SortInts
import HandS.Strs
import HandS.Deep
import KE.DataMinMax
import HandS.Iter
import HandS.Conv
import HandS.Sort
import HandS.SetFor
import HandS.Defaults
import HandS.HeadEnd
import HandS.Head0
import HandS.Head1
import HandS.Head2
import HandS.WordsDict
import HandS.ListItems
import KE.KDictList
import HandS.TupAny
import KE.GoesEnum
import HandS.TryMany
import PyProof.Rows.RegFStrParts
import HandS.WideBits
import PySem.Challenge.RW_partfilm_k04_whole_whole
set_option Elab.async false
set_option linter.all false
set_option maxRecDepth 100000
set_option maxHeartbeats 0
set_option autoImplicit false
/-! Pf1: trees of values with owners, what they read as, steps of the heap. -/
namespace Pf
open PySem L2

inductive Nk where
  | L | T | S | D (ks : List Key) | O (c : Str) (fs : List Str) | Z (ks : List Key)
inductive Sl where
  | dat (d : PyData)
  | node (k : Nk) (xs : List Sl)

def Shape (K : PySem.W.Frag) : Nk → List V → HO → Prop
  | .L, vs, o => o = .lst vs
  | .T, vs, o => o = .tup vs
  | .S, vs, o => ∃ ob, o = .frz ob (.lst vs)
  | .D ks, vs, o => ks.length = vs.length ∧ o = .dK (ks.zip vs)
  | .O c fs, vs, o => fs.length = vs.length ∧ ∃ dx, o = .ins (He.ga K c) dx (fs.zip vs)
  | .Z ks, vs, o => ks.length = vs.length ∧ ∃ ob, o = .frz ob (.dK (ks.zip vs))

mutual
/-- data, every list and tuple of it tracked as it is -/
inductive Dq (F : Hp) : V → PyData → Prop
  | non : Dq F .non .none
  | bl (b : Bool) : Dq F (.bl b) (.bool b)
  | int (i : Int) : Dq F (.int i) (.int i)
  | str (x : Str) : Dq F (.str x) (.str x)
  | lst {a : Addr} {xs : List V} {ds : List PyData} : F a = some (.lst xs) → DqAll F xs ds → Dq F (.ref a) (.list ds)
  | tup {a : Addr} {xs : List V} {ds : List PyData} : F a = some (.tup xs) → DqAll F xs ds → Dq F (.ref a) (.tuple ds)
inductive DqAll (F : Hp) : List V → List PyData → Prop
  | nil : DqAll F [] []
  | cons {v : V} {vs : List V} {d : PyData} {ds : List PyData} : Dq F v d → DqAll F vs ds → DqAll F (v :: vs) (d :: ds)
end
mutual
inductive Ow (K : PySem.W.Frag) (F H : Hp) : V → Sl → List Addr → Prop
  | dat {v : V} {d : PyData} : Dq F v d → Ow K F H v (.dat d) []
  | node {a : Addr} {k : Nk} {o : HO} {vs : List V} {xs : List Sl} {fp : List Addr} : H a = some o → Shape K k vs o → OwAll K F H vs xs fp → Ow K F H (.ref a) (.node k xs) (a :: fp)
inductive OwAll (K : PySem.W.Frag) (F H : Hp) : List V → List Sl → List Addr → Prop
  | nil : OwAll K F H [] [] []
  | cons {v : V} {vs : List V} {s : Sl} {ss : List Sl} {fp fps : List Addr} : Ow K F H v s fp → OwAll K F H vs ss fps → OwAll K F H (v :: vs) (s :: ss) (fp ++ fps)
end

section
variable {K : PySem.W.Frag} {F F' H H' G : Hp}
theorem sqL_mono {a : Addr} {xs : List V} (e : Same F F') (h : SqL K F a xs) : SqL K F' a xs := e.seq h
theorem sqT_mono {a : Addr} {xs : List V} (e : Same F F') (h : SqT K F a xs) : SqT K F' a xs := by
  rcases h with (h | ⟨o, h⟩) | h
  · exact .inl (.inl (e _ _ h))
  · exact .inl (.inr ⟨o, e _ _ h⟩)
  · exact .inr h
mutual
theorem dp_mono (e : Same F F') : ∀ {v : V} {d : PyData}, Dq F v d → Dq F' v d
  | _, _, .non => .non
  | _, _, .bl b => .bl b
  | _, _, .int i => .int i
  | _, _, .str x => .str x
  | _, _, .lst h a => .lst (e _ _ h) (dpAll_mono e a)
  | _, _, .tup h a => .tup (e _ _ h) (dpAll_mono e a)
theorem dpAll_mono (e : Same F F') : ∀ {vs : List V} {ds : List PyData}, DqAll F vs ds → DqAll F' vs ds
  | _, _, .nil => .nil
  | _, _, .cons h t => .cons (dp_mono e h) (dpAll_mono e t)
end
mutual
theorem dq_dp (e : Same F H) : ∀ {v : V} {d : PyData}, Dq F v d → Dp K H v d
  | _, _, .non => .non
  | _, _, .bl b => .bl b
  | _, _, .int i => .int i
  | _, _, .str x => .str x
  | _, _, .lst h a => .lst (SqL.of (e _ _ h)) (dqAll_dp e a)
  | _, _, .tup h a => .tup (SqT.of (e _ _ h)) (dqAll_dp e a)
theorem dqAll_dp (e : Same F H) : ∀ {vs : List V} {ds : List PyData}, DqAll F vs ds → DpAll K H vs ds
  | _, _, .nil => .nil
  | _, _, .cons h t => .cons (dq_dp e h) (dqAll_dp e t)
end
mutual
theorem ow_mono (e : Same F F') : ∀ {v : V} {s : Sl} {fp : List Addr}, Ow K F H v s fp → (∀ a ∈ fp, ∀ o, H a = some o → H' a = some o) → Ow K F' H' v s fp
  | _, _, _, .dat h, _ => .dat (dp_mono e h)
  | _, _, _, .node ha sh t, k => .node (k _ (List.mem_cons_self) _ ha) sh (owAll_mono e t fun a m => k a (List.mem_cons_of_mem _ m))
theorem owAll_mono (e : Same F F') : ∀ {vs : List V} {ss : List Sl} {fp : List Addr}, OwAll K F H vs ss fp → (∀ a ∈ fp, ∀ o, H a = some o → H' a = some o) → OwAll K F' H' vs ss fp
  | _, _, _, .nil, _ => .nil
  | _, _, _, .cons h t, k => .cons (ow_mono e h fun a m => k a (List.mem_append_left _ m)) (owAll_mono e t fun a m => k a (List.mem_append_right _ m))
end
theorem ow_step (e : Same F F') (g : Same H H') {v : V} {s : Sl} {fp : List Addr} (h : Ow K F H v s fp) : Ow K F' H' v s fp := ow_mono e h fun a _ o => g a o
mutual
theorem ow_dom : ∀ {v : V} {s : Sl} {fp : List Addr}, Ow K F H v s fp → ∀ a ∈ fp, H a ≠ none
  | _, _, _, .dat _, _, m => by cases m
  | _, _, _, .node ha _ t, a, m => by
    rcases List.mem_cons.mp m with rfl | m
    · rw [ha]
      exact fun z => by cases z
    · exact owAll_dom t a m
theorem owAll_dom : ∀ {vs : List V} {ss : List Sl} {fp : List Addr}, OwAll K F H vs ss fp → ∀ a ∈ fp, H a ≠ none
  | _, _, _, .nil, _, m => by cases m
  | _, _, _, .cons h t, a, m => by
    rcases List.mem_append.mp m with m | m
    · exact ow_dom h a m
    · exact owAll_dom t a m
end

/-! ### a tree as plain data: read, frozen -/
mutual
def toD : Sl → Option PyData
  | .dat d => some d
  | .node .L xs => (toDs xs).map .list
  | .node .T xs => (toDs xs).map .tuple
  | .node _ _ => none
def toDs : List Sl → Option (List PyData)
  | [] => some []
  | x :: r => match toD x, toDs r with
    | some d, some ds => some (d :: ds)
    | _, _ => none
end
mutual
def toW : Sl → Option PyData
  | .dat d => some d
  | .node .L xs => (toWs xs).map .list
  | .node .S xs => (toWs xs).map .list
  | .node .T xs => (toWs xs).map .tuple
  | .node _ _ => none
def toWs : List Sl → Option (List PyData)
  | [] => some []
  | x :: r => match toW x, toWs r with
    | some d, some ds => some (d :: ds)
    | _, _ => none
end
mutual
/-- a tree is frozen as data wherever its leaves and its nodes stand -/
theorem ow_read (e : Same F G) : ∀ {v : V} {s : Sl} {fp : List Addr} {d : PyData}, Ow K F H v s fp → (∀ a ∈ fp, ∀ o, H a = some o → G a = some o) → toD s = some d → Dq G v d
  | _, _, _, _, .dat h, _, q => by
    cases q
    exact dp_mono e h
  | _, _, _, _, .node (k := .L) ha sh t, k, q => by
    cases hq : toDs _ with
    | none =>
      rw [toD, hq] at q
      cases q
    | some ds =>
      rw [toD, hq] at q
      cases q
      have sh' : _ = HO.lst _ := sh
      subst sh'
      exact .lst (k _ List.mem_cons_self _ ha) (owAll_read e t (fun a m => k a (List.mem_cons_of_mem _ m)) hq)
  | _, _, _, _, .node (k := .T) ha sh t, k, q => by
    cases hq : toDs _ with
    | none =>
      rw [toD, hq] at q
      cases q
    | some ds =>
      rw [toD, hq] at q
      cases q
      have sh' : _ = HO.tup _ := sh
      subst sh'
      exact .tup (k _ List.mem_cons_self _ ha) (owAll_read e t (fun a m => k a (List.mem_cons_of_mem _ m)) hq)
  | _, _, _, _, .node (k := .S) _ _ _, _, q => by
    rw [toD] at q
    cases q
    all_goals (intro z; cases z)
  | _, _, _, _, .node (k := .D _) _ _ _, _, q => by
    rw [toD] at q
    cases q
    all_goals (intro z; cases z)
  | _, _, _, _, .node (k := .O _ _) _ _ _, _, q => by
    rw [toD] at q
    cases q
    all_goals (intro z; cases z)
  | _, _, _, _, .node (k := .Z _) _ _ _, _, q => by
    rw [toD] at q
    cases q
    all_goals (intro z; cases z)
theorem owAll_read (e : Same F G) : ∀ {vs : List V} {ss : List Sl} {fp : List Addr} {ds : List PyData}, OwAll K F H vs ss fp → (∀ a ∈ fp, ∀ o, H a = some o → G a = some o) → toDs ss = some ds → DqAll G vs ds
  | _, _, _, _, .nil, _, q => by
    cases q
    exact .nil
  | _, _, _, _, .cons (s := s) (ss := ss) h t, k, q => by
    rw [toDs] at q
    cases h1 : toD s with
    | none =>
      rw [h1] at q
      cases q
    | some d =>
      cases h2 : toDs ss with
      | none =>
        rw [h1, h2] at q
        cases q
      | some ds =>
        rw [h1, h2] at q
        cases q
        exact .cons (ow_read e h (fun a m => k a (List.mem_append_left _ m)) h1) (owAll_read e t (fun a m => k a (List.mem_append_right _ m)) h2)
end
mutual
/-- a tree reads as data in the heap where it stands -/
theorem ow_dp (e : Same F H) : ∀ {v : V} {s : Sl} {fp : List Addr} {d : PyData}, Ow K F H v s fp → toW s = some d → Dp K H v d
  | _, _, _, _, .dat h, q => by
    cases q
    exact dq_dp e h
  | _, _, _, _, .node (k := .L) ha sh t, q => by
    cases hq : toWs _ with
    | none =>
      rw [toW, hq] at q
      cases q
    | some ds =>
      rw [toW, hq] at q
      cases q
      have sh' : _ = HO.lst _ := sh
      subst sh'
      exact .lst (SqL.of ha) (owAll_dp e t hq)
  | _, _, _, _, .node (k := .S) ha sh t, q => by
    cases hq : toWs _ with
    | none =>
      rw [toW, hq] at q
      cases q
    | some ds =>
      rw [toW, hq] at q
      cases q
      obtain ⟨ob, rfl⟩ := sh
      exact .lst (.inl (.inr ⟨ob, ha⟩)) (owAll_dp e t hq)
  | _, _, _, _, .node (k := .T) ha sh t, q => by
    cases hq : toWs _ with
    | none =>
      rw [toW, hq] at q
      cases q
    | some ds =>
      rw [toW, hq] at q
      cases q
      have sh' : _ = HO.tup _ := sh
      subst sh'
      exact .tup (SqT.of ha) (owAll_dp e t hq)
  | _, _, _, _, .node (k := .D _) _ _ _, q => by
    rw [toW] at q
    cases q
    all_goals (intro z; cases z)
  | _, _, _, _, .node (k := .O _ _) _ _ _, q => by
    rw [toW] at q
    cases q
    all_goals (intro z; cases z)
  | _, _, _, _, .node (k := .Z _) _ _ _, q => by
    rw [toW] at q
    cases q
    all_goals (intro z; cases z)
theorem owAll_dp (e : Same F H) : ∀ {vs : List V} {ss : List Sl} {fp : List Addr} {ds : List PyData}, OwAll K F H vs ss fp → toWs ss = some ds → DpAll K H vs ds
  | _, _, _, _, .nil, q => by
    cases q
    exact .nil
  | _, _, _, _, .cons (s := s) (ss := ss) h t, q => by
    rw [toWs] at q
    cases h1 : toW s with
    | none =>
      rw [h1] at q
      cases q
    | some d =>
      cases h2 : toWs ss with
      | none =>
        rw [h1, h2] at q
        cases q
      | some ds =>
        rw [h1, h2] at q
        cases q
        exact .cons (ow_dp e h h1) (owAll_dp e t h2)
end
end
end Pf

/-! Pf2: answers, posts, expressions with their mirrors. -/
namespace Pf
open PySem L2

/-- an answer of a mirror: a value, a refusal, no word -/
inductive Rz (α : Type) where
  | ok (a : α) | er (c : Str) | no
@[inline] def Rz.bind {α β : Type} (x : Rz α) (f : α → Rz β) : Rz β := match x with
  | .ok a => f a
  | .er c => .er c
  | .no => .no
def Rz.of {α : Type} : Option α → Rz α
  | some a => .ok a
  | none => .no

inductive Fl where
  | own | par | bor
structure Rv where
  fl : Fl
  s : Sl
abbrev Gm := List (Option Rv)
abbrev Mr := Gm → Rz Rv
abbrev MrA := Gm → Rz (List Rv)
abbrev MrT := Gm → Rz Bool

structure Step (F H F' H' : Hp) : Prop where
  ff : Same F F'
  fh : Same F' H'
  hh : Same H H'
  nw : ∀ a, H a ≠ none → F a = none → F' a = none
section
variable {F H F1 H1 F2 H2 F' H' : Hp}
theorem Step.refl (e : Same F H) : Step F H F H := ⟨Same.refl F, e, Same.refl H, fun _ _ z => z⟩
theorem same_ne {H H' : Hp} (e : Same H H') {a : Addr} (h : H a ≠ none) : H' a ≠ none := by
  cases q : H a with
  | none => exact absurd q h
  | some o =>
    rw [e a o q]
    exact fun z => by cases z
theorem Step.trans (a : Step F H F1 H1) (b : Step F1 H1 F2 H2) : Step F H F2 H2 :=
  ⟨a.ff.trans b.ff, b.fh, a.hh.trans b.hh, fun c hc hf => b.nw c (same_ne a.hh hc) (a.nw c hc hf)⟩
theorem Step.grow (e : Same F H) (g : Same H H') : Step F H F H' := ⟨Same.refl F, e.trans g, g, fun _ _ z => z⟩
end

/-- the value v is the answer r; fp: what it owns -/
def Rok (K : PySem.W.Frag) (S : Addr → Prop) (F H : Hp) (v : V) (r : Rv) (fp : List Addr) : Prop := match r.fl with
  | .own => Ow K F H v r.s fp
  | .par => fp = [] ∧ ∃ fp', Ow K F H v r.s fp' ∧ ∀ a ∈ fp', S a
  | .bor => fp = [] ∧ ∃ fp', Ow K F H v r.s fp'
/-- what is owned is new, and nothing frozen -/
structure New (F H : Hp) (fp : List Addr) : Prop where
  nd : fp.Nodup
  nf : ∀ a ∈ fp, F a = none
  nh : ∀ a ∈ fp, H a = none
theorem New.nil {F H : Hp} : New F H [] := ⟨List.nodup_nil, (fun _ m => nomatch m), (fun _ m => nomatch m)⟩

section
variable {K : PySem.W.Frag} {S : Addr → Prop} {F H F1 H1 F2 H2 F' H' : Hp} {v : V} {r : Rv} {fp fq : List Addr}
theorem Rok.step (ff : Same F F') (hh : Same H H') (h : Rok K S F H v r fp) : Rok K S F' H' v r fp := by
  obtain ⟨fl, s⟩ := r
  cases fl with
  | own => exact ow_step ff hh h
  | par =>
    obtain ⟨e, fp', h, q⟩ := h
    exact ⟨e, fp', ow_step ff hh h, q⟩
  | bor =>
    obtain ⟨e, fp', h⟩ := h
    exact ⟨e, fp', ow_step ff hh h⟩
theorem Rok.ow (h : Rok K S F H v r fp) : ∃ fp', Ow K F H v r.s fp' := by
  obtain ⟨fl, s⟩ := r
  cases fl with
  | own => exact ⟨_, h⟩
  | par => exact ⟨_, h.2.choose_spec.1⟩
  | bor => exact ⟨_, h.2.choose_spec⟩
theorem Rok.dom (h : Rok K S F H v r fp) : ∀ a ∈ fp, H a ≠ none := by
  obtain ⟨fl, s⟩ := r
  cases fl with
  | own => exact ow_dom h
  | par =>
    rw [h.1]
    intro a m
    cases m
  | bor =>
    rw [h.1]
    intro a m
    cases m
theorem Rok.dat {d : PyData} (h : Dq F v d) : Rok K S F H v ⟨.own, .dat d⟩ [] := Ow.dat h
/-- two lists of owned things, the second made later -/
theorem New.both (st : Step F H F1 H1) (st2 : Step F1 H1 F2 H2) (n1 : New F1 H fp) (d1 : ∀ a ∈ fp, H1 a ≠ none) (n2 : New F2 H1 fq) : New F2 H (fp ++ fq) := by
  refine ⟨List.nodup_append.mpr ⟨n1.nd, n2.nd, fun a ha b hb e => ?_⟩, fun a m => ?_, fun a m => ?_⟩
  · subst e
    exact d1 a ha (n2.nh a hb)
  · rcases List.mem_append.mp m with m | m
    · exact st2.nw a (d1 a m) (n1.nf a m)
    · exact n2.nf a m
  · rcases List.mem_append.mp m with m | m
    · exact n1.nh a m
    · exact st.hh.free (n2.nh a m)
end

/-! ### the posts -/
def Post (K : PySem.W.Frag) (S : Addr → Prop) (E : XK) (Q : VK) (F H : Hp) : Rz Rv → Prop
  | .ok r => ∀ v F' H' fp, Step F H F' H' → Rok K S F' H' v r fp → New F' H fp → Q v H'
  | .er c => ∀ F' H', Step F H F' H' → E (.ref (He.ga K c)) none H'
  | .no => False
inductive Roks (K : PySem.W.Frag) (S : Addr → Prop) (F H : Hp) : List V → List Rv → List Addr → Prop
  | nil : Roks K S F H [] [] []
  | cons {v : V} {vs : List V} {r : Rv} {rs : List Rv} {fp fq : List Addr} : Rok K S F H v r fp → Roks K S F H vs rs fq → Roks K S F H (v :: vs) (r :: rs) (fp ++ fq)
def PostA (K : PySem.W.Frag) (S : Addr → Prop) (E : XK) (Q : List V → Hp → Prop) (F H : Hp) : Rz (List Rv) → Prop
  | .ok rs => ∀ vs F' H' fp, Step F H F' H' → Roks K S F' H' vs rs fp → New F' H fp → Q vs H'
  | .er c => ∀ F' H', Step F H F' H' → E (.ref (He.ga K c)) none H'
  | .no => False
def PostT (K : PySem.W.Frag) (E : XK) (Q : Bool → Hp → Prop) (F H : Hp) : Rz Bool → Prop
  | .ok b => ∀ F' H', Step F H F' H' → Q b H'
  | .er c => ∀ F' H', Step F H F' H' → E (.ref (He.ga K c)) none H'
  | .no => False

/-- what the slots hold -/
structure EnvE (K : PySem.W.Frag) (S : Addr → Prop) (F H : Hp) (σ : L2.St) (Γ : Gm) : Prop where
  len : σ.length = Γ.length
  at_ : ∀ (i : Nat) (r : Rv), Γ[i]? = some (some r) → ∃ v fp, σ[i]? = some (some v) ∧ Ow K F H v r.s fp ∧ (r.fl = .par → ∀ a ∈ fp, S a)
section
variable {K : PySem.W.Frag} {S : Addr → Prop} {F H F' H' : Hp} {σ : L2.St} {Γ : Gm}
theorem EnvE.step (ff : Same F F') (hh : Same H H') (h : EnvE K S F H σ Γ) : EnvE K S F' H' σ Γ :=
  ⟨h.len, fun i r e => let ⟨v, fp, a, b, c⟩ := h.at_ i r e; ⟨v, fp, a, ow_step ff hh b, c⟩⟩
theorem EnvE.set {i : Nat} {v : V} {r : Rv} {fp : List Addr} (h : EnvE K S F H σ Γ) (o : Ow K F H v r.s fp) (p : r.fl = .par → ∀ a ∈ fp, S a) : EnvE K S F H (σ.set i (some v)) (Γ.set i (some r)) := by
  refine ⟨by rw [List.length_set, List.length_set]; exact h.len, fun j q e => ?_⟩
  by_cases hj : i = j
  · subst hj
    rw [List.getElem?_set] at e ⊢
    by_cases hl : i < Γ.length
    · have hs : i < σ.length := by rw [h.len]; exact hl
      rw [if_pos rfl, if_pos hl] at e
      cases e
      rw [if_pos rfl, if_pos hs]
      exact ⟨v, fp, rfl, o, p⟩
    · rw [if_pos rfl, if_neg hl] at e
      cases e
  · rw [List.getElem?_set, if_neg hj] at e ⊢
    exact h.at_ j q e
/-- less is told -/
theorem EnvE.weak {Δ : Gm} (h : EnvE K S F H σ Γ) (l : Δ.length = Γ.length) (w : ∀ (i : Nat) (r : Rv), Δ[i]? = some (some r) → Γ[i]? = some (some r)) : EnvE K S F H σ Δ :=
  ⟨h.len.trans l.symm, fun i r e => h.at_ i r (w i r e)⟩
end

/-! ### an expression, its reading, its mirror -/
def Sim (K : PySem.W.Frag) (E : XK) (t : TE) (m : Mr) : Prop := ∀ (S : Addr → Prop) (F H : Hp) (σ : L2.St) (Γ : Gm) (Q : VK), Same F H → EnvE K S F H σ Γ → Post K S E Q F H (m Γ) → t σ H Q
def SimA (K : PySem.W.Frag) (E : XK) (t : TA) (m : MrA) : Prop := ∀ (S : Addr → Prop) (F H : Hp) (σ : L2.St) (Γ : Gm) (Q : List V → Hp → Prop), Same F H → EnvE K S F H σ Γ → PostA K S E Q F H (m Γ) → t σ H Q
def SimT (K : PySem.W.Frag) (E : XK) (t : TT) (m : MrT) : Prop := ∀ (S : Addr → Prop) (F H : Hp) (σ : L2.St) (Γ : Gm) (Q : Bool → Hp → Prop), Same F H → EnvE K S F H σ Γ → PostT K E Q F H (m Γ) → t σ H Q
structure Px (X : Cx) (E : XK) (e : Expr) (m : Mr) (t : TE) : Prop where
  pe : PE X e t
  sim : Sim X.K E t m
structure PxA (X : Cx) (E : XK) (es : List Expr) (m : MrA) (t : TA) : Prop where
  pa : PA X es t
  sim : SimA X.K E t m
structure PxT (X : Cx) (E : XK) (e : Expr) (m : MrT) (t : TT) : Prop where
  pt : PT X e t
  sim : SimT X.K E t m
structure PxW (X : Cx) (E : XK) (e : Expr) (m : MrT) (t : TT) : Prop where
  pw : PW X e t
  sim : SimT X.K E t m

/-! ### binding of posts -/
section
variable {K : PySem.W.Frag} {S : Addr → Prop} {E : XK} {F H F1 H1 : Hp}
theorem Post.bind_er {c : Str} {Q Q' : VK} (h : Post K S E Q F H (.er c)) : Post K S E Q' F H (.er c) := h
/-- a first value, then the rest -/
theorem Sim.bind {t : TE} {m : Mr} (h : Sim K E t m) {k : Rv → Rz Rv} {σ : L2.St} {Γ : Gm} {Q : VK} {R : VK} (e : Same F H) (en : EnvE K S F H σ Γ)
    (p : Post K S E Q F H ((m Γ).bind k)) (step : ∀ r v F1 H1 fp, m Γ = .ok r → Step F H F1 H1 → Rok K S F1 H1 v r fp → New F1 H fp → R v H1) : t σ H R := by
  refine h S F H σ Γ R e en ?_
  cases q : m Γ with
  | ok r => exact fun v F1 H1 fp st ro nw => step r v F1 H1 fp q st ro nw
  | er c =>
    rw [q] at p
    exact p
  | no =>
    rw [q] at p
    exact p
end

/-! ### names and constants -/
def rd (Γ : Gm) (i : Nat) : Rz Rv := match Γ[i]? with
  | some (some ⟨_, .dat d⟩) => .ok ⟨.own, .dat d⟩
  | some (some ⟨.par, s⟩) => .ok ⟨.par, s⟩
  | some (some ⟨_, s⟩) => .ok ⟨.bor, s⟩
  | _ => .no
def eVar (i : Nat) : Mr := fun Γ => rd Γ i
def dV : PyData → Option V
  | .none => some .non
  | .bool b => some (.bl b)
  | .int i => some (.int i)
  | .str x => some (.str x)
  | _ => none
def eC (d : PyData) : Mr := fun _ => .ok ⟨.own, .dat d⟩
section
variable {X : Cx} {E : XK} {K : PySem.W.Frag}
theorem sim_var {i : Nat} : Sim K E (tVar i) (eVar i) := by
  intro S F H σ Γ Q e en p
  have p : Post K S E Q F H (rd Γ i) := p
  unfold rd at p
  cases q : Γ[i]? with
  | none =>
    rw [q] at p
    exact p.elim
  | some o =>
    cases o with
    | none =>
      rw [q] at p
      exact p.elim
    | some r =>
      rw [q] at p
      obtain ⟨v, fp, hv, ho, hp⟩ := en.at_ i r q
      refine ⟨v, hv, ?_⟩
      obtain ⟨fl, s⟩ := r
      cases s with
      | dat d =>
        have p : Post K S E Q F H (.ok ⟨.own, .dat d⟩) := by cases fl <;> exact p
        cases ho with
        | dat hd => exact p v F H [] (Step.refl e) (Ow.dat hd) New.nil
      | node k xs =>
        cases fl with
        | own => exact p v F H [] (Step.refl e) ⟨rfl, fp, ho⟩ New.nil
        | par => exact p v F H [] (Step.refl e) ⟨rfl, fp, ho, hp rfl⟩ New.nil
        | bor => exact p v F H [] (Step.refl e) ⟨rfl, fp, ho⟩ New.nil
theorem sim_c {d : PyData} {v : V} (h : ∀ F, Dq F v d) : Sim K E (tC v) (eC d) := fun S F H σ Γ Q e en p => p v F H [] (Step.refl e) (Ow.dat (h F)) New.nil
theorem px_var (i : Nat) {x : Str} {pos : Pos} (hN : X.N[i]? = some x := by rfl) (hv : Vis X.env.scope x := by first | exact Or.inl rfl | exact Or.inr (Or.inl rfl) | exact Or.inr (Or.inr rfl)) (hd : (x == ("__debug__" : Str)) = false := by decide)
    (hcd : (x == ("__classdict__" : Str)) = false := by decide) : Px X E (.Name x pos) (eVar i) (tVar i) := ⟨pe_var hN hv hd hcd, sim_var⟩
theorem px_int {i j pos} : Px X E (.Constant (.int i) j pos) (eC (.int i)) (tC (.int i)) := ⟨pe_int, sim_c fun _ => .int i⟩
theorem px_bl {i j pos} : Px X E (.Constant (.bool i) j pos) (eC (.bool i)) (tC (.bl i)) := ⟨pe_bl, sim_c fun _ => .bl i⟩
theorem px_non {j pos} : Px X E (.Constant .none j pos) (eC .none) (tC .non) := ⟨pe_non, sim_c fun _ => .non⟩
theorem px_str {i j pos} : Px X E (.Constant (.str i) j pos) (eC (.str i)) (tC (.str i)) := ⟨pe_str, sim_c fun _ => .str i⟩
theorem px_gint {i : Int} {x : Str} {t : Tok} {pos : Pos} (hg : Gl X x) (hm : X.mg x = some (.int i t)) (hd : (x == ("__debug__" : Str)) = false := by decide) : Px X E (.Name x pos) (eC (.int i)) (tC (.int i)) := ⟨pe_glob hg hm ⟨t, rfl⟩ hd, sim_c fun _ => .int i⟩
end
end Pf

/-! Pf3: operations by mirrors on trees; the rules of expressions and tests. -/
namespace Pf
open PySem L2

inductive OwL (K : PySem.W.Frag) (F H : Hp) : List V → List Sl → Prop
  | nil : OwL K F H [] []
  | cons {v : V} {vs : List V} {s : Sl} {ss : List Sl} (fp : List Addr) : Ow K F H v s fp → OwL K F H vs ss → OwL K F H (v :: vs) (s :: ss)
theorem Roks.owL {K : PySem.W.Frag} {S : Addr → Prop} {F H : Hp} : ∀ {vs : List V} {rs : List Rv} {fp : List Addr}, Roks K S F H vs rs fp → OwL K F H vs (rs.map Rv.s)
  | _, _, _, .nil => .nil
  | _, _, _, .cons h t => let ⟨fp, o⟩ := h.ow; .cons fp o t.owL
theorem Roks.step {K : PySem.W.Frag} {S : Addr → Prop} {F H F' H' : Hp} (ff : Same F F') (hh : Same H H') : ∀ {vs : List V} {rs : List Rv} {fp : List Addr}, Roks K S F H vs rs fp → Roks K S F' H' vs rs fp
  | _, _, _, .nil => .nil
  | _, _, _, .cons h t => .cons (h.step ff hh) (t.step ff hh)
theorem Roks.dom {K : PySem.W.Frag} {S : Addr → Prop} {F H : Hp} : ∀ {vs : List V} {rs : List Rv} {fp : List Addr}, Roks K S F H vs rs fp → ∀ a ∈ fp, H a ≠ none
  | _, _, _, .nil, _, m => by cases m
  | _, _, _, .cons h t, a, m => by
    rcases List.mem_append.mp m with m | m
    · exact h.dom a m
    · exact t.dom a m

/-- the reading of an operation that is told by trees -/
def Prm (K : PySem.W.Frag) (f : List Sl → Option Sl) : List V → Hp → VK → Prop := fun vs H Q =>
  ∃ F ss s, Same F H ∧ OwL K F H vs ss ∧ f ss = some s ∧ ∀ v F' H' fp, Step F H F' H' → Ow K F' H' v s fp → New F' H fp → Q v H'
abbrev OpD (X : Cx) (g : Value → Value → Sem Value) (f : List Sl → Option Sl) : Prop := OpR X g (fun x y H Q => Prm X.K f [x, y] H Q)
abbrev IxD (X : Cx) (f : List Sl → Option Sl) : Prop := IxR X (fun x y H Q => Prm X.K f [x, y] H Q)
abbrev UnD (X : Cx) (g : Value → Sem Value) (f : List Sl → Option Sl) : Prop := UnR X g (fun x H Q => Prm X.K f [x] H Q)
abbrev CallD (X : Cx) (g : Value) (f : List Sl → Option Sl) : Prop := CallR X g (Prm X.K f)

def fin (o : Option Sl) : Rz Rv := match o with
  | some s => .ok ⟨.own, s⟩
  | none => .no
def eOp2 (f : List Sl → Option Sl) (a b : Mr) : Mr := fun Γ => (a Γ).bind fun x => (b Γ).bind fun y => fin (f [x.s, y.s])
def eOp1 (f : List Sl → Option Sl) (a : Mr) : Mr := fun Γ => (a Γ).bind fun x => fin (f [x.s])
def eCall (f : List Sl → Option Sl) (as : MrA) : Mr := fun Γ => (as Γ).bind fun xs => fin (f (xs.map Rv.s))
def eNil : MrA := fun _ => .ok []
def eCons (a : Mr) (r : MrA) : MrA := fun Γ => (a Γ).bind fun x => (r Γ).bind fun xs => .ok (x :: xs)

section
variable {K : PySem.W.Frag} {S : Addr → Prop} {E : XK} {F H F1 H1 F2 H2 : Hp} {Q : VK} {σ : L2.St} {Γ : Gm}
theorem New.up {F' : Hp} {fp : List Addr} (g : Same H H1) (n : New F' H1 fp) : New F' H fp := ⟨n.nd, n.nf, fun a m => g.free (n.nh a m)⟩
theorem Post.up {z : Rz Rv} (st : Step F H F1 H1) (p : Post K S E Q F H z) : Post K S E Q F1 H1 z := by
  cases z with
  | ok r => exact fun v F' H' fp st' ro nw => p v F' H' fp (st.trans st') ro (nw.up st.hh)
  | er c => exact fun F' H' st' => p F' H' (st.trans st')
  | no => exact p
theorem PostA.up {R : List V → Hp → Prop} {z : Rz (List Rv)} (st : Step F H F1 H1) (p : PostA K S E R F H z) : PostA K S E R F1 H1 z := by
  cases z with
  | ok r => exact fun v F' H' fp st' ro nw => p v F' H' fp (st.trans st') ro (nw.up st.hh)
  | er c => exact fun F' H' st' => p F' H' (st.trans st')
  | no => exact p
theorem PostT.up {R : Bool → Hp → Prop} {z : Rz Bool} (st : Step F H F1 H1) (p : PostT K E R F H z) : PostT K E R F1 H1 z := by
  cases z with
  | ok r => exact fun F' H' st' => p F' H' (st.trans st')
  | er c => exact fun F' H' st' => p F' H' (st.trans st')
  | no => exact p
/-- the mirror's word on an operation is enough for its reading -/
theorem Post.prm {f : List Sl → Option Sl} {vs : List V} {ss : List Sl} (e : Same F H) (o : OwL K F H vs ss) (p : Post K S E Q F H (fin (f ss))) : Prm K f vs H Q := by
  cases q : f ss with
  | none =>
    rw [q] at p
    exact p.elim
  | some s =>
    rw [q] at p
    exact ⟨F, ss, s, e, o, q, fun v F' H' fp st ow nw => p v F' H' fp st ow nw⟩
theorem sim_op2 {f : List Sl → Option Sl} {ta tb : TE} {ma mb : Mr} (ha : Sim K E ta ma) (hb : Sim K E tb mb) : Sim K E (tOp (fun x y H Q => Prm K f [x, y] H Q) ta tb) (eOp2 f ma mb) := by
  intro S F H σ Γ Q e en p
  refine ha.bind e en p fun r x F1 H1 fp q st ro nw => ?_
  have p1 : Post K S E Q F1 H1 ((mb Γ).bind fun y => fin (f [r.s, y.s])) := by
    have p2 : Post K S E Q F H ((ma Γ).bind fun x => (mb Γ).bind fun y => fin (f [x.s, y.s])) := p
    rw [q] at p2
    exact Post.up st p2
  refine hb.bind st.fh (en.step st.ff st.hh) p1 fun r2 y F2 H2 fq q2 st2 ro2 nw2 => ?_
  have p3 : Post K S E Q F2 H2 (fin (f [r.s, r2.s])) := by
    rw [q2] at p1
    exact Post.up st2 p1
  obtain ⟨f1, o1⟩ := (ro.step st2.ff st2.hh).ow
  obtain ⟨f2, o2⟩ := ro2.ow
  exact Post.prm st2.fh (.cons f1 o1 (.cons f2 o2 .nil)) p3
theorem sim_op1 {f : List Sl → Option Sl} {ta : TE} {ma : Mr} (ha : Sim K E ta ma) : Sim K E (tUn (fun x H Q => Prm K f [x] H Q) ta) (eOp1 f ma) := by
  intro S F H σ Γ Q e en p
  refine ha.bind e en p fun r x F1 H1 fp q st ro nw => ?_
  have p1 : Post K S E Q F1 H1 (fin (f [r.s])) := by
    have p2 : Post K S E Q F H ((ma Γ).bind fun x => fin (f [x.s])) := p
    rw [q] at p2
    exact Post.up st p2
  obtain ⟨f1, o1⟩ := ro.ow
  exact Post.prm st.fh (.cons f1 o1 .nil) p1
theorem simA_nil : SimA K E tNil eNil := fun S F H σ Γ Q e en p => p [] F H [] (Step.refl e) .nil New.nil
theorem simA_cons {ta : TE} {tr : TA} {ma : Mr} {mr : MrA} (ha : Sim K E ta ma) (hr : SimA K E tr mr) : SimA K E (tCons ta tr) (eCons ma mr) := by
  intro S F H σ Γ Q e en p
  have p2 : PostA K S E Q F H ((ma Γ).bind fun x => (mr Γ).bind fun xs => .ok (x :: xs)) := p
  refine ha S F H σ Γ _ e en ?_
  cases q : ma Γ with
  | no =>
    rw [q] at p2
    exact p2
  | er c =>
    rw [q] at p2
    exact p2
  | ok r =>
    intro x F1 H1 fp st ro nw
    rw [q] at p2
    have p3 : PostA K S E Q F1 H1 ((mr Γ).bind fun xs => .ok (r :: xs)) := PostA.up st p2
    refine hr S F1 H1 σ Γ _ st.fh (en.step st.ff st.hh) ?_
    cases q2 : mr Γ with
    | no =>
      rw [q2] at p3
      exact p3
    | er c =>
      rw [q2] at p3
      exact p3
    | ok rs =>
      intro xs F2 H2 fq st2 ros nw2
      rw [q2] at p2
      exact p2 (x :: xs) F2 H2 (fp ++ fq) (st.trans st2) (.cons (ro.step st2.ff st2.hh) ros) (New.both st st2 nw ro.dom nw2)
/-- the arguments, then what is made of them -/
theorem SimA.bind {t : TA} {m : MrA} (h : SimA K E t m) {k : List Rv → Rz Rv} {R : List V → Hp → Prop} (e : Same F H) (en : EnvE K S F H σ Γ)
    (p : Post K S E Q F H ((m Γ).bind k)) (step : ∀ rs vs F1 H1 fp, m Γ = .ok rs → Step F H F1 H1 → Roks K S F1 H1 vs rs fp → New F1 H fp → Post K S E Q F H (k rs) → R vs H1) : t σ H R := by
  refine h S F H σ Γ R e en ?_
  cases q : m Γ with
  | ok r =>
    rw [q] at p
    exact fun v F1 H1 fp st ro nw => step r v F1 H1 fp q st ro nw p
  | er c =>
    rw [q] at p
    exact p
  | no =>
    rw [q] at p
    exact p
theorem sim_call {f : List Sl → Option Sl} {t : TA} {m : MrA} (h : SimA K E t m) : Sim K E (tCB (Prm K f) t) (eCall f m) := by
  intro S F H σ Γ Q e en p
  refine h.bind e en p fun rs vs F1 H1 fp q st ro nw p1 => ?_
  exact Post.prm st.fh ro.owL (Post.up st p1)
end

/-! ### tests -/
def tru (r : Rv) : Rz Bool := match r.s with
  | .dat (.bool b) => .ok b
  | _ => .no
def eT (a : Mr) : MrT := fun Γ => (a Γ).bind tru
def eAnd (a b : MrT) : MrT := fun Γ => (a Γ).bind fun x => match x with
  | true => b Γ
  | false => .ok false
def eOr (a b : MrT) : MrT := fun Γ => (a Γ).bind fun x => match x with
  | true => .ok true
  | false => b Γ
def eNot (a : MrT) : MrT := fun Γ => (a Γ).bind fun x => .ok (!x)
def eIf (c : MrT) (a b : Mr) : Mr := fun Γ => (c Γ).bind fun x => match x with
  | true => a Γ
  | false => b Γ
def eB (a : MrT) : Mr := fun Γ => (a Γ).bind fun b => .ok ⟨.own, .dat (.bool b)⟩
section
variable {K : PySem.W.Frag} {S : Addr → Prop} {E : XK} {F H F1 H1 F2 H2 : Hp} {Q : VK} {σ : L2.St} {Γ : Gm}
theorem rok_bool {v : V} {r : Rv} {fp : List Addr} {b : Bool} (h : Rok K S F H v r fp) (e : tru r = .ok b) : v = .bl b := by
  obtain ⟨fp', o⟩ := h.ow
  obtain ⟨fl, s⟩ := r
  cases o with
  | dat hd =>
    cases hd with
    | bl c =>
      cases e
      rfl
    | _ => cases e
  | node => cases e
theorem simT_of {ta : TE} {ma : Mr} (ha : Sim K E ta ma) : SimT K E (tTest ta) (eT ma) := by
  intro S F H σ Γ Q e en p
  have p2 : PostT K E Q F H ((ma Γ).bind tru) := p
  refine ha S F H σ Γ _ e en ?_
  cases q : ma Γ with
  | no =>
    rw [q] at p2
    exact p2
  | er c =>
    rw [q] at p2
    exact p2
  | ok r =>
    intro x F1 H1 fp st ro nw
    rw [q] at p2
    have p3 : PostT K E Q F H (tru r) := p2
    cases q3 : tru r with
    | ok b =>
      rw [q3] at p3
      exact ⟨b, rok_bool ro q3, p3 F1 H1 st⟩
    | er c =>
      rw [q3] at p3
      obtain ⟨fl, s⟩ := r
      unfold tru at q3
      split at q3 <;> cases q3
    | no =>
      rw [q3] at p3
      exact p3.elim
theorem SimT.bind {t : TT} {m : MrT} (h : SimT K E t m) {R : Bool → Hp → Prop} (e : Same F H) (en : EnvE K S F H σ Γ)
    (he : ∀ c, m Γ = .er c → ∀ F' H', Step F H F' H' → E (.ref (He.ga K c)) none H') (hn : m Γ ≠ .no) (step : ∀ b F1 H1, m Γ = .ok b → Step F H F1 H1 → R b H1) : t σ H R := by
  refine h S F H σ Γ R e en ?_
  cases q : m Γ with
  | ok r => exact fun F1 H1 st => step r F1 H1 q st
  | er c => exact he c q
  | no => exact hn q
theorem simT_and {ta tb : TT} {ma mb : MrT} (ha : SimT K E ta ma) (hb : SimT K E tb mb) : SimT K E (tAnd ta tb) (eAnd ma mb) := by
  intro S F H σ Γ Q e en p
  have p2 : PostT K E Q F H ((ma Γ).bind fun x => match x with | true => mb Γ | false => .ok false) := p
  refine ha.bind e en (fun c q => by rw [q] at p2; exact p2) (fun q => by rw [q] at p2; exact p2) fun b F1 H1 q st => ?_
  rw [q] at p2
  cases b with
  | false => exact iteF (p2 F1 H1 st)
  | true => exact iteT (hb S F1 H1 σ Γ Q st.fh (en.step st.ff st.hh) (PostT.up st p2))
theorem simT_or {ta tb : TT} {ma mb : MrT} (ha : SimT K E ta ma) (hb : SimT K E tb mb) : SimT K E (tOr ta tb) (eOr ma mb) := by
  intro S F H σ Γ Q e en p
  have p2 : PostT K E Q F H ((ma Γ).bind fun x => match x with | true => .ok true | false => mb Γ) := p
  refine ha.bind e en (fun c q => by rw [q] at p2; exact p2) (fun q => by rw [q] at p2; exact p2) fun b F1 H1 q st => ?_
  rw [q] at p2
  cases b with
  | true => exact iteT (p2 F1 H1 st)
  | false => exact iteF (hb S F1 H1 σ Γ Q st.fh (en.step st.ff st.hh) (PostT.up st p2))
theorem simT_not {ta : TT} {ma : MrT} (ha : SimT K E ta ma) : SimT K E (tNot ta) (eNot ma) := by
  intro S F H σ Γ Q e en p
  have p2 : PostT K E Q F H ((ma Γ).bind fun x => .ok (!x)) := p
  refine ha.bind e en (fun c q => by rw [q] at p2; exact p2) (fun q => by rw [q] at p2; exact p2) fun b F1 H1 q st => ?_
  rw [q] at p2
  exact p2 F1 H1 st
theorem sim_if {tc : TT} {ta tb : TE} {mc : MrT} {ma mb : Mr} (hc : SimT K E tc mc) (ha : Sim K E ta ma) (hb : Sim K E tb mb) : Sim K E (tIf tc ta tb) (eIf mc ma mb) := by
  intro S F H σ Γ Q e en p
  have p2 : Post K S E Q F H ((mc Γ).bind fun x => match x with | true => ma Γ | false => mb Γ) := p
  refine hc.bind e en (fun c q => by rw [q] at p2; exact p2) (fun q => by rw [q] at p2; exact p2) fun b F1 H1 q st => ?_
  rw [q] at p2
  cases b with
  | true => exact iteT (ha S F1 H1 σ Γ Q st.fh (en.step st.ff st.hh) (Post.up st p2))
  | false => exact iteF (hb S F1 H1 σ Γ Q st.fh (en.step st.ff st.hh) (Post.up st p2))
/-- a and b, a or b, not a as values: bools -/
def eAndV (a b : Mr) : Mr := fun Γ => (a Γ).bind fun x => (tru x).bind fun c => match c with
  | true => b Γ
  | false => .ok ⟨.own, .dat (.bool false)⟩
def eOrV (a b : Mr) : Mr := fun Γ => (a Γ).bind fun x => (tru x).bind fun c => match c with
  | true => .ok ⟨.own, .dat (.bool true)⟩
  | false => b Γ
def eNotV (a : Mr) : Mr := fun Γ => (a Γ).bind fun x => (tru x).bind fun c => .ok ⟨.own, .dat (.bool (!c))⟩
theorem tru_ner {r : Rv} {c : Str} : tru r ≠ .er c := by
  unfold tru
  split <;> exact fun z => by cases z
theorem sim_tru {ta : TE} {ma : Mr} (ha : Sim K E ta ma) {k : Bool → Rz Rv} (e : Same F H) (en : EnvE K S F H σ Γ) (p : Post K S E Q F H ((ma Γ).bind fun x => (tru x).bind k)) {R : VK}
    (step : ∀ b F1 H1, Step F H F1 H1 → Post K S E Q F1 H1 (k b) → R (.bl b) H1) : ta σ H R := by
  refine ha.bind e en p fun r x F1 H1 fp q st ro nw => ?_
  rw [q] at p
  have p3 : Post K S E Q F H ((tru r).bind k) := p
  cases q3 : tru r with
  | ok b =>
    rw [q3] at p3
    rw [rok_bool ro q3]
    exact step b F1 H1 st (Post.up st p3)
  | er c => exact absurd q3 tru_ner
  | no =>
    rw [q3] at p3
    exact p3.elim
theorem sim_andV {ta tb : TE} {ma mb : Mr} (ha : Sim K E ta ma) (hb : Sim K E tb mb) : Sim K E (tAndV ta tb) (eAndV ma mb) := by
  intro S F H σ Γ Q e en p
  refine sim_tru ha e en p fun b F1 H1 st p1 => ⟨b, rfl, ?_⟩
  cases b with
  | true => exact iteT (hb S F1 H1 σ Γ Q st.fh (en.step st.ff st.hh) p1)
  | false => exact iteF (p1 _ F1 H1 [] (Step.refl st.fh) (Ow.dat (.bl false)) New.nil)
theorem sim_orV {ta tb : TE} {ma mb : Mr} (ha : Sim K E ta ma) (hb : Sim K E tb mb) : Sim K E (tOrV ta tb) (eOrV ma mb) := by
  intro S F H σ Γ Q e en p
  refine sim_tru ha e en p fun b F1 H1 st p1 => ⟨b, rfl, ?_⟩
  cases b with
  | true => exact iteT (p1 _ F1 H1 [] (Step.refl st.fh) (Ow.dat (.bl true)) New.nil)
  | false => exact iteF (hb S F1 H1 σ Γ Q st.fh (en.step st.ff st.hh) p1)
theorem sim_notV {ta : TE} {ma : Mr} (ha : Sim K E ta ma) : Sim K E (tNotV ta) (eNotV ma) := by
  intro S F H σ Γ Q e en p
  refine sim_tru ha e en p fun b F1 H1 st p1 => ⟨b, rfl, ?_⟩
  exact p1 _ F1 H1 [] (Step.refl st.fh) (Ow.dat (.bl (!b))) New.nil
end

/-! ### the rules -/
section
variable {X : Cx} {E : XK} {a b c : Expr} {ma mb mc : Mr} {ta tb tc : TE} {pos : Pos} {es : List Expr} {me : MrA} {te : TA}
theorem px_bin {op : Operator} {f : List Sl → Option Sl} (ho : OpD X (binaryOp op) f) (ha : Px X E a ma ta) (hb : Px X E b mb tb) : Px X E (.BinOp a op b pos) (eOp2 f ma mb) (tOp (fun x y H Q => Prm X.K f [x, y] H Q) ta tb) := ⟨pe_op ho ha.pe hb.pe, sim_op2 ha.sim hb.sim⟩
theorem px_un {op : UnaryOp} {f : List Sl → Option Sl} (ho : UnD X (unaryOp op) f) (ha : Px X E a ma ta) : Px X E (.UnaryOp op a pos) (eOp1 f ma) (tUn (fun x H Q => Prm X.K f [x] H Q) ta) := ⟨pe_un ho ha.pe, sim_op1 ha.sim⟩
theorem px_cmp {op : CmpOp} {f : List Sl → Option Sl} (ho : OpD X (compareOp op) f) (ha : Px X E a ma ta) (hb : Px X E b mb tb) (hm : behindInMarks op b = false) : Px X E (.Compare a [op] [b] pos) (eOp2 f ma mb) (tOp (fun x y H Q => Prm X.K f [x, y] H Q) ta tb) := ⟨pe_cmpR ho ha.pe hb.pe hm, sim_op2 ha.sim hb.sim⟩
theorem pxT_cmp {op : CmpOp} {f : List Sl → Option Sl} (ho : OpD X (compareOp op) f) (ha : Px X E a ma ta) (hb : Px X E b mb tb) (hm : behindInMarks op b = false) : PxT X E (.Compare a [op] [b] pos) (eT (eOp2 f ma mb)) (tTest (tOp (fun x y H Q => Prm X.K f [x, y] H Q) ta tb)) := ⟨pt_cmpR ho ha.pe hb.pe hm, simT_of (sim_op2 ha.sim hb.sim)⟩
theorem px_ix {f : List Sl → Option Sl} (ho : IxD X f) (ha : Px X E a ma ta) (hb : Px X E b mb tb) (hs : PlainIx b) : Px X E (.Subscript a b pos) (eOp2 f ma mb) (tOp (fun x y H Q => Prm X.K f [x, y] H Q) ta tb) := ⟨pe_ix ho ha.pe hb.pe hs, sim_op2 ha.sim hb.sim⟩
theorem pxT_val (ha : Px X E a ma ta) (he : ∀ whole, isTrue a X.env whole = (do let v ← whole; standAt a.pos; holding [v] (truthy v)) := by intro _; rfl) : PxT X E a (eT ma) (tTest ta) := ⟨pt_val ha.pe he, simT_of ha.sim⟩
variable {mA mB : MrT} {tA tB' : TT} {rest : List Expr}
theorem pxW_and1 (ha : PxT X E a mA tA) : PxW X E (.BoolOp .And [a] pos) mA tA := ⟨pw_and1 ha.pt, ha.sim⟩
theorem pxW_or1 (ha : PxT X E a mA tA) : PxW X E (.BoolOp .Or [a] pos) mA tA := ⟨pw_or1 ha.pt, ha.sim⟩
theorem pxW_and (ha : PxT X E a mA tA) (hb : PxW X E (.BoolOp .And (b :: rest) pos) mB tB') : PxW X E (.BoolOp .And (a :: b :: rest) pos) (eAnd mA mB) (tAnd tA tB') := ⟨pw_and ha.pt hb.pw, simT_and ha.sim hb.sim⟩
theorem pxW_or (ha : PxT X E a mA tA) (hb : PxW X E (.BoolOp .Or (b :: rest) pos) mB tB') : PxW X E (.BoolOp .Or (a :: b :: rest) pos) (eOr mA mB) (tOr tA tB') := ⟨pw_or ha.pt hb.pw, simT_or ha.sim hb.sim⟩
theorem PxW.t {e : Expr} (h : PxW X E e mA tA) : PxT X E e mA tA := ⟨h.pw.pt, h.sim⟩
theorem pxT_not (ha : PxT X E a mA tA) : PxT X E (.UnaryOp .Not a pos) (eNot mA) (tNot tA) := ⟨pt_not ha.pt, simT_not ha.sim⟩
theorem px_if (hc : PxT X E c mA tA) (ha : Px X E a ma ta) (hb : Px X E b mb tb) : Px X E (.IfExp c a b pos) (eIf mA ma mb) (tIf tA ta tb) := ⟨pe_ifExp hc.pt ha.pe hb.pe, sim_if hc.sim ha.sim hb.sim⟩
theorem px_one {op : BoolOp} (ha : Px X E a ma ta) : Px X E (.BoolOp op [a] pos) ma ta := ⟨pe_one ha.pe, ha.sim⟩
theorem px_and (ha : Px X E a ma ta) (hb : Px X E (.BoolOp .And (b :: rest) pos) mb tb) : Px X E (.BoolOp .And (a :: b :: rest) pos) (eAndV ma mb) (tAndV ta tb) := ⟨pe_and ha.pe hb.pe, sim_andV ha.sim hb.sim⟩
theorem px_or (ha : Px X E a ma ta) (hb : Px X E (.BoolOp .Or (b :: rest) pos) mb tb) : Px X E (.BoolOp .Or (a :: b :: rest) pos) (eOrV ma mb) (tOrV ta tb) := ⟨pe_or ha.pe hb.pe, sim_orV ha.sim hb.sim⟩
theorem px_not (ha : Px X E a ma ta) : Px X E (.UnaryOp .Not a pos) (eNotV ma) (tNotV ta) := ⟨pe_not ha.pe, sim_notV ha.sim⟩
theorem pxA_nil : PxA X E [] eNil tNil := ⟨pa_nil, simA_nil⟩
theorem pxA_cons (ha : Px X E a ma ta) (hr : PxA X E es me te) (hs : starEach (a :: es) X.env = (false, eval a X.env) :: starEach es X.env := by rfl) : PxA X E (a :: es) (eCons ma me) (tCons ta te) := ⟨pa_cons ha.pe hr.pa hs, simA_cons ha.sim hr.sim⟩
theorem px_callB {x : Str} {p : Pos} {id : String} {f : List Sl → Option Sl} (hc : CallD X (.builtin id) f) (hg : Gl X x) (hm : X.mg x = none) (hv : bootBuiltins x = some (.builtin id)) (ha : PxA X E (a :: es) me te) (hn : x ≠ "__name__" := by decide) (hdb : (x == ("__debug__" : Str)) = false := by decide)
    (he : starEach (a :: es) X.env = (false, eval a X.env) :: starEach es X.env := by rfl) (hpl : (backTo pos (starEach es X.env)).any (·.1) = false := by rfl) : Px X E (.Call (.Name x p) (a :: es) [] pos) (eCall f me) (tCB (Prm X.K f) te) := ⟨pe_callB hc hg hm hv ha.pa hn hdb he hpl, sim_call ha.sim⟩
theorem px_callTy {x : Str} {p : Pos} {T : String} {f : List Sl → Option Sl} (hc : CallD X (.type T) f) (hg : Gl X x) (hm : X.mg x = none) (hv : bootBuiltins x = some (.type T)) (ha : PxA X E (a :: es) me te) (hn : x ≠ "__name__" := by decide) (hdb : (x == ("__debug__" : Str)) = false := by decide)
    (he : starEach (a :: es) X.env = (false, eval a X.env) :: starEach es X.env := by rfl) (hpl : (backTo pos (starEach es X.env)).any (·.1) = false := by rfl) : Px X E (.Call (.Name x p) (a :: es) [] pos) (eCall f me) (tCB (Prm X.K f) te) := ⟨pe_callTy hc hg hm hv ha.pa hn hdb he hpl, sim_call ha.sim⟩
end
end Pf

/-! Pf4: displays, chains, freezing, fields, calls of defs. -/
namespace Pf
open PySem L2

/-! ### displays -/
def mvs : List Rv → Option (List Sl)
  | [] => some []
  | ⟨.own, s⟩ :: r => (mvs r).map (s :: ·)
  | _ :: _ => none
section
variable {K : PySem.W.Frag} {S : Addr → Prop} {E : XK} {F H F1 H1 F2 H2 : Hp} {Q : VK} {σ : L2.St} {Γ : Gm}
theorem Roks.all : ∀ {vs : List V} {rs : List Rv} {fp : List Addr} {ss : List Sl}, Roks K S F H vs rs fp → mvs rs = some ss → OwAll K F H vs ss fp
  | _, _, _, _, .nil, q => by
    cases q
    exact .nil
  | _, _, _, _, .cons (r := ⟨.own, s⟩) (rs := rs) h t, q => by
    cases q2 : mvs rs with
    | none =>
      rw [mvs, q2] at q
      cases q
    | some ss =>
      rw [mvs, q2] at q
      cases q
      exact .cons h (t.all q2)
  | _, _, _, _, .cons (r := ⟨.par, s⟩) h t, q => by cases q
  | _, _, _, _, .cons (r := ⟨.bor, s⟩) h t, q => by cases q
theorem owAll_len : ∀ {vs : List V} {ss : List Sl} {fp : List Addr}, OwAll K F H vs ss fp → vs.length = ss.length
  | _, _, _, .nil => rfl
  | _, _, _, .cons _ t => by
    rw [List.length_cons, List.length_cons, owAll_len t]
theorem owL_len : ∀ {vs : List V} {ss : List Sl}, OwL K F H vs ss → vs.length = ss.length
  | _, _, .nil => rfl
  | _, _, .cons _ _ t => by
    rw [List.length_cons, List.length_cons, owL_len t]
/-- a new node over what is owned -/
theorem new_node {k : Nk} {o : HO} {vs : List V} {ss : List Sl} {fp : List Addr} {p : Addr} (st : Step F H F1 H1) (hp : H1 p = none) (sh : Shape K k vs o) (h : OwAll K F1 H1 vs ss fp) (nw : New F1 H fp) :
    Step F H F1 (upd H1 p o) ∧ Ow K F1 (upd H1 p o) (.ref p) (.node k ss) (p :: fp) ∧ New F1 H (p :: fp) := by
  have g : Same H1 (upd H1 p o) := fun b u e => by
    rw [upd_ne (ne_of_none e hp)]
    exact e
  refine ⟨⟨st.ff, st.fh.trans g, st.hh.trans g, st.nw⟩, .node upd_same sh (owAll_mono (Same.refl F1) h fun a _ o q => g a o q), ⟨List.nodup_cons.mpr ⟨fun m => owAll_dom h p m hp, nw.nd⟩, fun a m => ?_, fun a m => ?_⟩⟩
  · rcases List.mem_cons.mp m with rfl | m
    · exact st.fh.free hp
    · exact nw.nf a m
  · rcases List.mem_cons.mp m with rfl | m
    · exact st.hh.free hp
    · exact nw.nh a m
def most : Nat := 1000000
theorem most_ok {n : Nat} (h : n ≤ most) : n ≤ sizeLine := Nat.le_trans h (by decide)
def eSeq (k : Nk) (as : MrA) : Mr := fun Γ => (as Γ).bind fun rs => match mvs rs with
  | some ss => if ss.length ≤ most then .ok ⟨.own, .node k ss⟩ else .no
  | none => .no
theorem sim_lst {t : TA} {m : MrA} (h : SimA K E t m) : Sim K E (tLst t) (eSeq .L m) := by
  intro S F H σ Γ Q e en p
  refine h.bind e en p fun rs vs F1 H1 fp q st ro nw p1 => ?_
  cases q1 : mvs rs with
  | none =>
    rw [q1] at p1
    exact p1.elim
  | some ss =>
    rw [q1] at p1
    have p2 : Post K S E Q F H (if ss.length ≤ most then .ok ⟨.own, .node .L ss⟩ else .no) := p1
    have oa := ro.all q1
    by_cases hl : ss.length ≤ most
    · rw [if_pos hl] at p2
      refine ⟨by rw [owAll_len oa]; exact most_ok hl, fun a ha => ?_⟩
      obtain ⟨s1, s2, s3⟩ := new_node (k := .L) st ha (show Shape K .L vs (.lst vs) from rfl) oa nw
      exact p2 _ _ _ _ s1 s2 s3
    · rw [if_neg hl] at p2
      exact p2.elim
theorem sim_tup {t : TA} {m : MrA} (h : SimA K E t m) : Sim K E (tTup t) (eSeq .T m) := by
  intro S F H σ Γ Q e en p
  refine h.bind e en p fun rs vs F1 H1 fp q st ro nw p1 => ?_
  cases q1 : mvs rs with
  | none =>
    rw [q1] at p1
    exact p1.elim
  | some ss =>
    rw [q1] at p1
    have p2 : Post K S E Q F H (if ss.length ≤ most then .ok ⟨.own, .node .T ss⟩ else .no) := p1
    have oa := ro.all q1
    by_cases hl : ss.length ≤ most
    · rw [if_pos hl] at p2
      refine ⟨by rw [owAll_len oa]; exact most_ok hl, fun a ha => ?_⟩
      obtain ⟨s1, s2, s3⟩ := new_node (k := .T) st ha (show Shape K .T vs (.tup vs) from rfl) oa nw
      exact p2 _ _ _ _ s1 s2 s3
    · rw [if_neg hl] at p2
      exact p2.elim

/-! ### freezing -/
def frzR (r : Rv) : Rz Rv := match r with
  | ⟨.own, s⟩ => (match toD s with
    | some d => .ok ⟨.own, .dat d⟩
    | none => .no)
  | ⟨_, .dat d⟩ => .ok ⟨.own, .dat d⟩
  | _ => .no
def eFrz (a : Mr) : Mr := fun Γ => (a Γ).bind frzR
def plus (F H : Hp) (fp : List Addr) : Hp := fun a => if a ∈ fp then H a else F a
theorem plus_in {fp : List Addr} {a : Addr} (h : a ∈ fp) : plus F H fp a = H a := if_pos h
theorem plus_out {fp : List Addr} {a : Addr} (h : a ∉ fp) : plus F H fp a = F a := if_neg h
theorem plus_same {fp : List Addr} (n : ∀ a ∈ fp, F a = none) : Same F (plus F H fp) := fun a o e => by
  have h : a ∉ fp := fun m => by
    rw [n a m] at e
    cases e
  rw [plus_out h]
  exact e
theorem plus_fh {fp : List Addr} (e : Same F H) : Same (plus F H fp) H := fun a o q => by
  by_cases h : a ∈ fp
  · rw [plus_in h] at q
    exact q
  · rw [plus_out h] at q
    exact e a o q
theorem step_plus {fp : List Addr} (st : Step F H F1 H1) (nw : New F1 H fp) : Step F H (plus F1 H1 fp) H1 :=
  ⟨st.ff.trans (plus_same nw.nf), plus_fh st.fh, st.hh, fun a ha hf => by
    have h : a ∉ fp := fun m => ha (nw.nh a m)
    rw [plus_out h]
    exact st.nw a ha hf⟩
theorem sim_frz {t : TE} {m : Mr} (h : Sim K E t m) : Sim K E t (eFrz m) := by
  intro S F H σ Γ Q e en p
  refine h.bind e en p fun r v F1 H1 fp q st ro nw => ?_
  have p1 : Post K S E Q F H (frzR r) := by
    have p2 : Post K S E Q F H ((m Γ).bind frzR) := p
    rw [q] at p2
    exact p2
  obtain ⟨fl, s⟩ := r
  cases fl with
  | own =>
    cases q2 : toD s with
    | none =>
      have p3 : Post K S E Q F H (match toD s with | some d => .ok ⟨.own, .dat d⟩ | none => .no) := p1
      rw [q2] at p3
      exact p3.elim
    | some d =>
      have p3 : Post K S E Q F H (match toD s with | some d => .ok ⟨.own, .dat d⟩ | none => .no) := p1
      rw [q2] at p3
      have hd : Dq (plus F1 H1 fp) v d := ow_read (plus_same nw.nf) ro (fun a m o e => by rw [plus_in m]; exact e) q2
      exact p3 v _ H1 [] (step_plus st nw) (Ow.dat hd) New.nil
  | par =>
    cases s with
    | dat d =>
      obtain ⟨_, fp', o, _⟩ := ro
      cases o with
      | dat hd => exact p1 v F1 H1 [] st (Ow.dat hd) New.nil
    | node => exact p1.elim
  | bor =>
    cases s with
    | dat d =>
      obtain ⟨_, fp', o⟩ := ro
      cases o with
      | dat hd => exact p1 v F1 H1 [] st (Ow.dat hd) New.nil
    | node => exact p1.elim

/-! ### chains of comparisons -/
def eChain (f g : List Sl → Option Sl) (a b c : Mr) : Mr := fun Γ => (a Γ).bind fun x => (b Γ).bind fun y => (fin (f [x.s, y.s])).bind fun z => (tru z).bind fun k => match k with
  | true => (c Γ).bind fun w => fin (g [y.s, w.s])
  | false => .ok ⟨.own, .dat (.bool false)⟩
def tChain3 (r r' r2 : R2) (ta tb tc td : TE) : TE := fun σ H Q => ta σ H fun x H1 => tb σ H1 fun y H2 => r x y H2 fun z H3 => ∃ k, z = .bl k ∧
  (if k = true then tc σ H3 fun w' H4 => r' y w' H4 fun z2 H5 => ∃ k2, z2 = .bl k2 ∧ (if k2 = true then td σ H5 fun u H6 => r2 w' u H6 Q else Q (.bl false) H5) else Q (.bl false) H3)
def eChain3 (f g h : List Sl → Option Sl) (a b c d : Mr) : Mr := fun Γ => (a Γ).bind fun x => (b Γ).bind fun y => (fin (f [x.s, y.s])).bind fun z => (tru z).bind fun k => match k with
  | true => (c Γ).bind fun w => (fin (g [y.s, w.s])).bind fun z2 => (tru z2).bind fun k2 => (match k2 with
    | true => (d Γ).bind fun u => fin (h [w.s, u.s])
    | false => .ok ⟨.own, .dat (.bool false)⟩)
  | false => .ok ⟨.own, .dat (.bool false)⟩
/-- an operation whose answer is a bool, and what follows -/
theorem Post.prmT {f : List Sl → Option Sl} {vs : List V} {ss : List Sl} {k : Bool → Rz Rv} (e : Same F H) (o : OwL K F H vs ss) (p : Post K S E Q F H ((fin (f ss)).bind fun z => (tru z).bind k)) {R : VK}
    (step : ∀ b F1 H1, Step F H F1 H1 → Post K S E Q F1 H1 (k b) → R (.bl b) H1) : Prm K f vs H R := by
  cases q : f ss with
  | none =>
    rw [q] at p
    exact p.elim
  | some s =>
    rw [q] at p
    have p2 : Post K S E Q F H ((tru ⟨.own, s⟩).bind k) := p
    refine ⟨F, ss, s, e, o, q, fun v F' H' fp st ow nw => ?_⟩
    cases q3 : tru ⟨.own, s⟩ with
    | ok b =>
      rw [q3] at p2
      have ro : Rok K S F' H' v ⟨.own, s⟩ fp := ow
      rw [rok_bool ro q3]
      exact step b F' H' st (Post.up st p2)
    | er c => exact absurd q3 tru_ner
    | no =>
      rw [q3] at p2
      exact p2.elim
theorem sim_chain {f g : List Sl → Option Sl} {ta tb tc : TE} {ma mb mc : Mr} (ha : Sim K E ta ma) (hb : Sim K E tb mb) (hc : Sim K E tc mc) :
    Sim K E (tChain (fun x y H Q => Prm K f [x, y] H Q) (fun x y H Q => Prm K g [x, y] H Q) ta tb tc) (eChain f g ma mb mc) := by
  intro S F H σ Γ Q e en p
  refine ha.bind e en p fun r x F1 H1 fp q st ro nw => ?_
  have p := (show Post K S E Q F H ((ma Γ).bind _) from p)
  rw [q] at p
  have p1 := Post.up st p
  refine hb.bind st.fh (en.step st.ff st.hh) p1 fun r2 y F2 H2 fq q2 st2 ro2 nw2 => ?_
  have p1 := (show Post K S E Q F1 H1 ((mb Γ).bind _) from p1)
  rw [q2] at p1
  have p2 := Post.up st2 p1
  obtain ⟨f1, o1⟩ := (ro.step st2.ff st2.hh).ow
  obtain ⟨f2, o2⟩ := ro2.ow
  refine Post.prmT st2.fh (.cons f1 o1 (.cons f2 o2 .nil)) p2 fun b F3 H3 st3 p3 => ⟨b, rfl, ?_⟩
  cases b with
  | false => exact iteF (p3 _ F3 H3 [] (Step.refl st3.fh) (Ow.dat (.bl false)) New.nil)
  | true =>
    refine iteT (hc.bind st3.fh (((en.step st.ff st.hh).step st2.ff st2.hh).step st3.ff st3.hh) p3 fun r4 w F4 H4 fw q4 st4 ro4 nw4 => ?_)
    have p3 := (show Post K S E Q F3 H3 ((mc Γ).bind _) from p3)
    rw [q4] at p3
    have p4 := Post.up st4 p3
    obtain ⟨f3, o3⟩ := ((ro2.step st3.ff st3.hh).step st4.ff st4.hh).ow
    obtain ⟨f4, o4⟩ := ro4.ow
    exact Post.prm st4.fh (.cons f3 o3 (.cons f4 o4 .nil)) p4
theorem sim_chain3 {f g h : List Sl → Option Sl} {ta tb tc td : TE} {ma mb mc md : Mr} (ha : Sim K E ta ma) (hb : Sim K E tb mb) (hc : Sim K E tc mc) (hd : Sim K E td md) :
    Sim K E (tChain3 (fun x y H Q => Prm K f [x, y] H Q) (fun x y H Q => Prm K g [x, y] H Q) (fun x y H Q => Prm K h [x, y] H Q) ta tb tc td) (eChain3 f g h ma mb mc md) := by
  intro S F H σ Γ Q e en p
  refine ha.bind e en p fun r x F1 H1 fp q st ro nw => ?_
  have p := (show Post K S E Q F H ((ma Γ).bind _) from p)
  rw [q] at p
  have p1 := Post.up st p
  refine hb.bind st.fh (en.step st.ff st.hh) p1 fun r2 y F2 H2 fq q2 st2 ro2 nw2 => ?_
  have p1 := (show Post K S E Q F1 H1 ((mb Γ).bind _) from p1)
  rw [q2] at p1
  have p2 := Post.up st2 p1
  obtain ⟨f1, o1⟩ := (ro.step st2.ff st2.hh).ow
  obtain ⟨f2, o2⟩ := ro2.ow
  refine Post.prmT st2.fh (.cons f1 o1 (.cons f2 o2 .nil)) p2 fun b F3 H3 st3 p3 => ⟨b, rfl, ?_⟩
  cases b with
  | false => exact iteF (p3 _ F3 H3 [] (Step.refl st3.fh) (Ow.dat (.bl false)) New.nil)
  | true =>
    refine iteT (hc.bind st3.fh (((en.step st.ff st.hh).step st2.ff st2.hh).step st3.ff st3.hh) p3 fun r4 w F4 H4 fw q4 st4 ro4 nw4 => ?_)
    have p3 := (show Post K S E Q F3 H3 ((mc Γ).bind _) from p3)
    rw [q4] at p3
    have p4 := Post.up st4 p3
    obtain ⟨f3, o3⟩ := ((ro2.step st3.ff st3.hh).step st4.ff st4.hh).ow
    obtain ⟨f4, o4⟩ := ro4.ow
    refine Post.prmT st4.fh (.cons f3 o3 (.cons f4 o4 .nil)) p4 fun b F5 H5 st5 p5 => ⟨b, rfl, ?_⟩
    cases b with
    | false => exact iteF (p5 _ F5 H5 [] (Step.refl st5.fh) (Ow.dat (.bl false)) New.nil)
    | true =>
      refine iteT (hd.bind st5.fh (((((en.step st.ff st.hh).step st2.ff st2.hh).step st3.ff st3.hh).step st4.ff st4.hh).step st5.ff st5.hh) p5 fun r6 u F6 H6 fu q6 st6 ro6 nw6 => ?_)
      have p5 := (show Post K S E Q F5 H5 ((md Γ).bind _) from p5)
      rw [q6] at p5
      have p6 := Post.up st6 p5
      obtain ⟨f5, o5⟩ := ((ro4.step st5.ff st5.hh).step st6.ff st6.hh).ow
      obtain ⟨f6, o6⟩ := ro6.ow
      exact Post.prm st6.fh (.cons f5 o5 (.cons f6 o6 .nil)) p6
end
section
variable {X : Cx} {E : XK} {a b c d : Expr} {ma mb mc md : Mr} {ta tb tc td : TE} {pos : Pos} {es : List Expr} {me : MrA} {te : TA}
theorem pe_chain3 {op op' op2 : CmpOp} {r r' r2 : R2} (ho : OpR X (compareOp op) r) (ho' : OpR X (compareOp op') r') (ho2 : OpR X (compareOp op2) r2) (ha : PE X a ta) (hb : PE X b tb) (hc : PE X c tc) (hd : PE X d td)
    (hm : lastMarks [op, op', op2] [b, c, d] = false := by with_unfolding_all rfl) : PE X (.Compare a [op, op', op2] [b, c, d] pos) (tChain3 r r' r2 ta tb tc td) := by
  refine ⟨fun pins s σ H Q I h => ?_⟩
  refine PyProof.Rows.Compare_chain (thn (ha.run pins s σ H _ I h) fun v s1 ⟨x, H1, I1, r1, q1⟩ => PyProof.Rows.chain_link (thn (hb.run pins s1 σ H1 _ I1 q1) fun u s2 ⟨y, H2, I2, r2', q2⟩ =>
    thn (ho pins s2 σ H2 x y v u _ I2 r1 r2' q2) fun d s3 ⟨z, H3, I3, r3, k, e, q3⟩ => ?_)) hm
  subst e
  cases r3
  refine wpAny_truthy_bool ?_
  cases k with
  | false => exact PyProof.Rows.ite_ff ⟨.bl false, H3, I3, rfl, q3⟩
  | true =>
    refine PyProof.Rows.ite_tt (PyProof.Rows.chain_link (thn (hc.run pins s3 σ H3 _ I3 q3) fun w' s4 ⟨z', H4, I4, r4, q4⟩ => thn (ho' pins s4 σ H4 y z' u w' _ I4 r2' r4 q4) fun d s5 ⟨z5, H5, I5, r5, k5, e5, q5⟩ => ?_))
    subst e5
    cases r5
    refine wpAny_truthy_bool ?_
    cases k5 with
    | false => exact PyProof.Rows.ite_ff ⟨.bl false, H5, I5, rfl, q5⟩
    | true => exact PyProof.Rows.ite_tt (PyProof.Rows.chain_last (thn (hd.run pins s5 σ H5 _ I5 q5) fun w6 s6 ⟨z6, H6, I6, r6, q6⟩ => ho2 pins s6 σ H6 z' z6 w' w6 Q I6 r4 r6 q6))
theorem pt_chain3 {op op' op2 : CmpOp} {r r' r2 : R2} (ho : OpR X (compareOp op) r) (ho' : OpR X (compareOp op') r') (ho2 : OpR X (compareOp op2) r2) (ha : PE X a ta) (hb : PE X b tb) (hc : PE X c tc) (hd : PE X d td)
    (hm : lastMarks [op, op', op2] [b, c, d] = false := by with_unfolding_all rfl) : PT X (.Compare a [op, op', op2] [b, c, d] pos) (tTest (tChain3 r r' r2 ta tb tc td)) := by
  refine ⟨fun pins s σ H Q I h => ?_⟩
  refine PyProof.Rows.isTrue_chain (thn (ha.run pins s σ H _ I h) fun v s1 ⟨x, H1, I1, r1, q1⟩ => PyProof.Rows.test_link (thn (hb.run pins s1 σ H1 _ I1 q1) fun u s2 ⟨y, H2, I2, r2', q2⟩ =>
    thn (ho pins s2 σ H2 x y v u _ I2 r1 r2' q2) fun d s3 ⟨z, H3, I3, r3, k, e, q3⟩ => ?_)) hm
  subst e
  cases r3
  refine wpAny_truthy_bool ?_
  cases k with
  | false =>
    obtain ⟨k', e', q'⟩ := q3
    cases e'
    exact PyProof.Rows.ite_ff ⟨H3, I3, q'⟩
  | true =>
    refine PyProof.Rows.ite_tt (PyProof.Rows.test_link (thn (hc.run pins s3 σ H3 _ I3 q3) fun w' s4 ⟨z', H4, I4, r4, q4⟩ => thn (ho' pins s4 σ H4 y z' u w' _ I4 r2' r4 q4) fun d s5 ⟨z5, H5, I5, r5, k5, e5, q5⟩ => ?_))
    subst e5
    cases r5
    refine wpAny_truthy_bool ?_
    cases k5 with
    | false =>
      obtain ⟨k', e', q'⟩ := q5
      cases e'
      exact PyProof.Rows.ite_ff ⟨H5, I5, q'⟩
    | true =>
      refine PyProof.Rows.ite_tt (PyProof.Rows.test_last (thn (hd.run pins s5 σ H5 _ I5 q5) fun w6 s6 ⟨z6, H6, I6, r6, q6⟩ => thn (ho2 pins s6 σ H6 z' z6 w' w6 _ I6 r4 r6 q6) fun d' s7 ⟨z7, H7, I7, r7, k7, e7, q7⟩ => ?_))
      subst e7
      cases r7
      exact wpAny_truthy_bool ⟨H7, I7, q7⟩
theorem px_lst (h : PxA X E es me te) : Px X E (.List es pos) (eSeq .L me) (tLst te) := ⟨pe_lst h.pa, sim_lst h.sim⟩
theorem px_tup {x1} (h : PxA X E es me te) : Px X E (.Tuple es x1 pos) (eSeq .T me) (tTup te) := ⟨pe_tup h.pa, sim_tup h.sim⟩
theorem px_frz (h : Px X E a ma ta) : Px X E a (eFrz ma) ta := ⟨h.pe, sim_frz h.sim⟩
theorem px_chain {op op' : CmpOp} {f g : List Sl → Option Sl} (ho : OpD X (compareOp op) f) (ho' : OpD X (compareOp op') g) (ha : Px X E a ma ta) (hb : Px X E b mb tb) (hc : Px X E c mc tc)
    (hm : lastMarks [op, op'] [b, c] = false := by with_unfolding_all rfl) : Px X E (.Compare a [op, op'] [b, c] pos) (eChain f g ma mb mc) (tChain (fun x y H Q => Prm X.K f [x, y] H Q) (fun x y H Q => Prm X.K g [x, y] H Q) ta tb tc) :=
  ⟨pe_chain ho ho' ha.pe hb.pe hc.pe hm, sim_chain ha.sim hb.sim hc.sim⟩
theorem pxT_chain {op op' : CmpOp} {f g : List Sl → Option Sl} (ho : OpD X (compareOp op) f) (ho' : OpD X (compareOp op') g) (ha : Px X E a ma ta) (hb : Px X E b mb tb) (hc : Px X E c mc tc)
    (hm : lastMarks [op, op'] [b, c] = false := by with_unfolding_all rfl) : PxT X E (.Compare a [op, op'] [b, c] pos) (eT (eChain f g ma mb mc)) (tTest (tChain (fun x y H Q => Prm X.K f [x, y] H Q) (fun x y H Q => Prm X.K g [x, y] H Q) ta tb tc)) :=
  ⟨pt_chain ho ho' ha.pe hb.pe hc.pe hm, simT_of (sim_chain ha.sim hb.sim hc.sim)⟩
theorem px_chain3 {op op' op2 : CmpOp} {f g h : List Sl → Option Sl} (ho : OpD X (compareOp op) f) (ho' : OpD X (compareOp op') g) (ho2 : OpD X (compareOp op2) h) (ha : Px X E a ma ta) (hb : Px X E b mb tb) (hc : Px X E c mc tc) (hd : Px X E d md td)
    (hm : lastMarks [op, op', op2] [b, c, d] = false := by with_unfolding_all rfl) : Px X E (.Compare a [op, op', op2] [b, c, d] pos) (eChain3 f g h ma mb mc md)
      (tChain3 (fun x y H Q => Prm X.K f [x, y] H Q) (fun x y H Q => Prm X.K g [x, y] H Q) (fun x y H Q => Prm X.K h [x, y] H Q) ta tb tc td) :=
  ⟨pe_chain3 ho ho' ho2 ha.pe hb.pe hc.pe hd.pe hm, sim_chain3 ha.sim hb.sim hc.sim hd.sim⟩
theorem pxT_chain3 {op op' op2 : CmpOp} {f g h : List Sl → Option Sl} (ho : OpD X (compareOp op) f) (ho' : OpD X (compareOp op') g) (ho2 : OpD X (compareOp op2) h) (ha : Px X E a ma ta) (hb : Px X E b mb tb) (hc : Px X E c mc tc) (hd : Px X E d md td)
    (hm : lastMarks [op, op', op2] [b, c, d] = false := by with_unfolding_all rfl) : PxT X E (.Compare a [op, op', op2] [b, c, d] pos) (eT (eChain3 f g h ma mb mc md))
      (tTest (tChain3 (fun x y H Q => Prm X.K f [x, y] H Q) (fun x y H Q => Prm X.K g [x, y] H Q) (fun x y H Q => Prm X.K h [x, y] H Q) ta tb tc td)) :=
  ⟨pt_chain3 ho ho' ho2 ha.pe hb.pe hc.pe hd.pe hm, simT_of (sim_chain3 ha.sim hb.sim hc.sim hd.sim)⟩
end

/-! ### fields of objects -/
def getF : List Str → List Sl → Str → Option Sl
  | n :: ns, x :: xs, f => if f = n then some x else getF ns xs f
  | _, _, _ => none
def child (fl : Fl) (s : Sl) : Rv := match s with
  | .dat d => ⟨.own, .dat d⟩
  | s => ⟨fl, s⟩
def eFld (cs : List Str) (f : Str) (a : Mr) : Mr := fun Γ => (a Γ).bind fun r => match r.s with
  | .node (.O c ns) xs => if c ∈ cs then (match getF ns xs f with
    | some s => .ok (child r.fl s)
    | none => .no) else .no
  | _ => .no
section
variable {K : PySem.W.Frag} {S : Addr → Prop} {E : XK} {F H F1 H1 F2 H2 : Hp} {Q : VK} {σ : L2.St} {Γ : Gm}
theorem getF_ow {f : Str} {s : Sl} : ∀ {ns : List Str} {vs : List V} {xs : List Sl} {fp : List Addr}, OwAll K F H vs xs fp → ns.length = vs.length → getF ns xs f = some s →
    ∃ v fp', (ns.zip vs).lookup f = some v ∧ Ow K F H v s fp' ∧ fp'.Sublist fp
  | [], _, _, _, h, l, q => by
    cases q
  | n :: ns, [], _, _, h, l, q => by
    cases l
  | n :: ns, v :: vs, _, _, .cons (s := x) (ss := xs) (fp := fq) (fps := fr) h t, l, q => by
    have q2 : (if f = n then some x else getF ns xs f) = some s := q
    by_cases e : f = n
    · rw [if_pos e] at q2
      cases q2
      refine ⟨v, fq, ?_, h, List.sublist_append_left _ _⟩
      rw [List.zip_cons_cons, List.lookup_cons, e]
      simp
    · rw [if_neg e] at q2
      obtain ⟨w, fp', h1, h2, h3⟩ := getF_ow (ns := ns) t (Nat.succ.inj l) q2
      refine ⟨w, fp', ?_, h2, h3.trans (List.sublist_append_right _ _)⟩
      rw [List.zip_cons_cons, List.lookup_cons, beq_eq_false_iff_ne.mpr e]
      exact h1
theorem rok_child {v : V} {s : Sl} {fl : Fl} {fp fp' : List Addr} {s0 : Sl} {v0 : V} (h : Rok K S F H v0 ⟨fl, s0⟩ fp) (nw : New F H1 fp) (sub : ∀ fq, Ow K F H v0 s0 fq → ∃ fr, Ow K F H v s fr ∧ fr.Sublist fq) : ∃ fr, Rok K S F H v (child fl s) fr ∧ New F H1 fr := by
  have key : ∀ {fr fq : List Addr}, fr.Sublist fq → New F H1 fq → New F H1 fr := fun sl n => ⟨n.nd.sublist sl, fun a m => n.nf a (sl.subset m), fun a m => n.nh a (sl.subset m)⟩
  cases fl with
  | own =>
    obtain ⟨fr, o, sl⟩ := sub fp h
    cases s with
    | dat d => exact ⟨fr, o, key sl nw⟩
    | node k xs => exact ⟨fr, o, key sl nw⟩
  | par =>
    obtain ⟨_, fq, o1, hs⟩ := h
    obtain ⟨fr, o, sl⟩ := sub fq o1
    cases s with
    | dat d =>
      cases o with
      | dat hd => exact ⟨[], Ow.dat hd, New.nil⟩
    | node k xs => exact ⟨[], ⟨rfl, fr, o, fun a m => hs a (sl.subset m)⟩, New.nil⟩
  | bor =>
    obtain ⟨_, fq, o1⟩ := h
    obtain ⟨fr, o, sl⟩ := sub fq o1
    cases s with
    | dat d =>
      cases o with
      | dat hd => exact ⟨[], Ow.dat hd, New.nil⟩
    | node k xs => exact ⟨[], ⟨rfl, fr, o⟩, New.nil⟩
theorem sim_fld {cs : List Str} {f : Str} {t : TE} {m : Mr} (hc : ∀ c ∈ cs, Cls K (He.ga K c) ∧ NoAttr K (He.ga K c) f) (h : Sim K E t m) : Sim K E (tFld K t f) (eFld cs f m) := by
  intro S F H σ Γ Q e en p
  refine h.bind e en p fun r v F1 H1 fp q st ro nw => ?_
  have p := (show Post K S E Q F H ((m Γ).bind _) from p)
  rw [q] at p
  obtain ⟨fl, s⟩ := r
  cases s with
  | dat d => exact p.elim
  | node k xs =>
    cases k with
    | O c ns =>
      have p2 : Post K S E Q F H (if c ∈ cs then (match getF ns xs f with | some s => .ok (child fl s) | none => .no) else .no) := p
      by_cases hm : c ∈ cs
      · rw [if_pos hm] at p2
        cases q2 : getF ns xs f with
        | none =>
          rw [q2] at p2
          exact p2.elim
        | some s =>
          rw [q2] at p2
          obtain ⟨hcl, hno⟩ := hc c hm
          obtain ⟨fq, o⟩ := ro.ow
          have o' : Ow K F1 H1 v (.node (.O c ns) xs) fq := o
          cases o' with
          | node ha sh t =>
            obtain ⟨hl, dx, rfl⟩ := sh
            obtain ⟨w, fr, l1, l2, l3⟩ := getF_ow t hl q2
            refine ⟨_, _, dx, _, w, rfl, ha, hcl, hno, l1, ?_⟩
            obtain ⟨fz, z1, z2⟩ := rok_child (v := w) (s := s) (fp' := fp) ro nw (fun fq o => by
              cases o with
              | node ha' sh' t' =>
                rw [ha] at ha'
                cases ha'
                obtain ⟨hl', dx', e'⟩ := sh'
                have e2 : ns.zip _ = ns.zip _ := (HO.ins.inj e').2.2
                obtain ⟨w', fr', l1', l2', l3'⟩ := getF_ow t' hl' q2
                rw [← e2, l1] at l1'
                cases l1'
                exact ⟨fr', l2', l3'.trans (List.sublist_cons_self _ _)⟩)
            exact p2 w F1 H1 fz st z1 z2
      · rw [if_neg hm] at p2
        exact p2.elim
    | _ => exact p.elim
end
section
variable {X : Cx} {E : XK} {a : Expr} {ma : Mr} {ta : TE} {pos : Pos} {es : List Expr} {me : MrA} {te : TA}
theorem px_fld {cs : List Str} {f : Str} (hc : ∀ c ∈ cs, Cls X.K (He.ga X.K c) ∧ NoAttr X.K (He.ga X.K c) f) (ha : Px X E a ma ta) (hb : attributeBase a f X.env (eval a X.env) = eval a X.env := by rfl) : Px X E (.Attribute a f pos) (eFld cs f ma) (tFld X.K ta f) := ⟨pe_fld ha.pe hb, sim_fld hc ha.sim⟩
end

/-! ### calls of defs that change nothing -/
abbrev Fm := List Sl → Rz Rv
def spM (K : PySem.W.Frag) (m : Fm) : Sp := fun vs H Q E => ∃ F ss, Same F H ∧ OwL K F H vs ss ∧ Post K (fun a => H a ≠ none) E Q F H (m ss)
def out (r : Rv) : Rv := match r with
  | ⟨_, .dat d⟩ => ⟨.own, .dat d⟩
  | ⟨.own, s⟩ => ⟨.own, s⟩
  | ⟨_, s⟩ => ⟨.bor, s⟩
def eFn (m : Fm) (as : MrA) : Mr := fun Γ => (as Γ).bind fun rs => (m (rs.map Rv.s)).bind fun r => .ok (out r)
def eMeth (c m : Str) (f : Fm) (a : Mr) (as : MrA) : Mr := fun Γ => (a Γ).bind fun r => match r.s with
  | .node (.O c' ns) xs => if c' = c ∧ (getF ns xs m).isNone then (as Γ).bind fun rs => (f (r.s :: rs.map Rv.s)).bind fun r => .ok (out r) else .no
  | _ => .no
section
variable {K : PySem.W.Frag} {S : Addr → Prop} {E : XK} {F H F1 H1 F2 H2 : Hp} {Q : VK} {σ : L2.St} {Γ : Gm}
theorem rok_out {S' : Addr → Prop} {v : V} {r : Rv} {fp : List Addr} (h : Rok K S' F H v r fp) (nw : New F H1 fp) : Rok K S F H v (out r) fp := by
  obtain ⟨fl, s⟩ := r
  cases s with
  | dat d =>
    cases fl with
    | own => exact h
    | par =>
      obtain ⟨rfl, fq, o, _⟩ := h
      cases o with
      | dat hd => exact Ow.dat hd
    | bor =>
      obtain ⟨rfl, fq, o⟩ := h
      cases o with
      | dat hd => exact Ow.dat hd
  | node k xs =>
    cases fl with
    | own => exact h
    | par =>
      obtain ⟨rfl, fq, o, _⟩ := h
      exact ⟨rfl, fq, o⟩
    | bor => exact h
theorem post_fn {z : Rz Rv} {S' : Addr → Prop} (p : Post K S E Q F H (z.bind fun r => .ok (out r))) : Post K S' E Q F H z := by
  cases z with
  | ok r => exact fun v F' H' fp st ro nw => p v F' H' fp st (rok_out ro nw) nw
  | er c => exact p
  | no => exact p
theorem sim_fn {f : Fm} {t : TA} {m : MrA} (h : SimA K E t m) : Sim K E (tCall (spM K f) [] E t) (eFn f m) := by
  intro S F H σ Γ Q e en p
  refine h.bind e en p fun rs vs F1 H1 fp q st ro nw p1 => ?_
  rw [List.append_nil]
  exact ⟨F1, _, st.fh, ro.owL, post_fn (Post.up st p1)⟩
theorem zip_lookup_none {f : Str} : ∀ {ns : List Str} {vs : List V} {xs : List Sl} {fp : List Addr}, OwAll K F H vs xs fp → (getF ns xs f).isNone = true → ns.length = vs.length → (ns.zip vs).lookup f = none
  | [], _, _, _, _, _, _ => rfl
  | n :: ns, [], _, _, _, _, l => by cases l
  | n :: ns, v :: vs, _, _, .cons (s := x) (ss := xs) h t, q, l => by
    have q2 : (if f = n then some x else getF ns xs f).isNone = true := q
    by_cases e : f = n
    · rw [if_pos e] at q2
      cases q2
    · rw [if_neg e] at q2
      rw [List.zip_cons_cons, List.lookup_cons, beq_eq_false_iff_ne.mpr e]
      exact zip_lookup_none t q2 (Nat.succ.inj l)
theorem sim_meth {c n : Str} {f : Fm} {ta : TE} {ma : Mr} {t : TA} {m : MrA} (ha : Sim K E ta ma) (h : SimA K E t m) : Sim K E (tMeth (He.ga K c) n (spM K f) [] E ta t) (eMeth c n f ma m) := by
  intro S F H σ Γ Q e en p
  refine ha.bind e en p fun r v F1 H1 fp q st ro nw => ?_
  have p := (show Post K S E Q F H ((ma Γ).bind _) from p)
  rw [q] at p
  obtain ⟨fl, s⟩ := r
  cases s with
  | dat d => exact p.elim
  | node k xs =>
    cases k with
    | O c' ns =>
      have p2 : Post K S E Q F H (if c' = c ∧ (getF ns xs n).isNone then (m Γ).bind fun rs => (f (.node (.O c' ns) xs :: rs.map Rv.s)).bind fun r => .ok (out r) else .no) := p
      by_cases hm : c' = c ∧ (getF ns xs n).isNone
      · rw [if_pos hm] at p2
        obtain ⟨rfl, hn⟩ := hm
        obtain ⟨fq, o⟩ := ro.ow
        have o' : Ow K F1 H1 v (.node (.O c' ns) xs) fq := o
        obtain ⟨v', ev⟩ : ∃ v', v' = v := ⟨_, rfl⟩
        cases o' with
        | node ha sh t' =>
          obtain ⟨hl, dx, rfl⟩ := sh
          refine ⟨_, dx, _, rfl, ha, zip_lookup_none t' hn hl, ?_⟩
          refine h.bind st.fh (en.step st.ff st.hh) (Post.up st p2) fun rs vs F2 H2 fp2 q2 st2 ro2 nw2 p3 => ?_
          rw [List.append_nil]
          exact ⟨F2, _, st2.fh, .cons _ (ow_step st2.ff st2.hh o) ro2.owL, post_fn (Post.up st2 p3)⟩
      · rw [if_neg hm] at p2
        exact p2.elim
    | _ => exact p.elim
end
section
variable {X : Cx} {E : XK} {a e : Expr} {ma : Mr} {ta : TE} {pos p apos : Pos} {es : List Expr} {me : MrA} {te : TA} {CX : CXT} {k : Nat} {f : Addr} {fd : FuncData} {ps : List Str} {m : Fm} {x c n : Str}
theorem px_fn (F : FnOk X.prog X.w X.K X.mg X.base CX k f fd ps (spM X.K m)) (hr : Room k X.A) (hg : Gl X x) (hm : X.mg x = some (.ref f)) (hk : PySem.W.keepIn X.K (.ref f) = true) (hb : Binds X.K fd ps []) (hx : Passes CX X E)
    (ha : PxA X E (e :: es) me te) (hdb : (x == ("__debug__" : Str)) = false := by decide) (he : starEach (e :: es) X.env = (false, eval e X.env) :: starEach es X.env := by rfl) (hpl : (backTo pos (starEach es X.env)).any (·.1) = false := by rfl) :
    Px X E (.Call (.Name x p) (e :: es) [] pos) (eFn m me) (tCall (spM X.K m) [] E te) := ⟨pe_call F hr hg hm hk hb .nil hx ha.pa hdb he hpl, sim_fn ha.sim⟩
theorem px_fn0 (F : FnOk X.prog X.w X.K X.mg X.base CX k f fd ps (spM X.K m)) (hr : Room k X.A) (hg : Gl X x) (hm : X.mg x = some (.ref f)) (hk : PySem.W.keepIn X.K (.ref f) = true) (hb : Binds X.K fd ps []) (hx : Passes CX X E)
    (hdb : (x == ("__debug__" : Str)) = false := by decide) : Px X E (.Call (.Name x p) [] [] pos) (eFn m eNil) (tCall (spM X.K m) [] E tNil) := ⟨pe_call0 F hr hg hm hk hb .nil hx hdb, sim_fn simA_nil⟩
theorem px_meth {pl : Sem Bool} (ha : Px X E a ma ta) (cc : Cls X.K (He.ga X.K c)) (hm : Meth X.K (He.ga X.K c) n f) (F : FnOk X.prog X.w X.K X.mg X.base CX k f fd ps (spM X.K m)) (hr : Room k X.A) (hb : Binds X.K fd ps []) (hx : Passes CX X E)
    (hh : PxA X E (e :: es) me te)
    (hst : starEach (e :: es) X.env = (false, eval e X.env) :: starEach es X.env := by rfl) (hpl : (backTo pos (starEach es X.env)).any (·.1) = false := by rfl)
    (ht : eval (.Call (.Attribute a n apos) (e :: es) [] pos) X.env = (do
      let ov ← eval a X.env
      standAt apos.atName
      let (f, first) ← holding [ov] (getMethod ov n pl)
      callWith pos f first (backTo pos (starEach (e :: es) X.env)) (backToKw pos (keywordEach [] X.env))) := by rfl) :
    Px X E (.Call (.Attribute a n apos) (e :: es) [] pos) (eMeth c n m ma me) (tMeth (He.ga X.K c) n (spM X.K m) [] E ta te) := ⟨pe_meth (pl := pl) ha.pe cc hm F hr hb .nil hx hh.pa hst hpl ht, sim_meth ha.sim hh.sim⟩
end
end Pf

/-! Pf5: targets, things that are walked, comprehensions. -/
namespace Pf
open PySem L2

/-! ### targets -/
def asgs : List Nat → List V → L2.St → L2.St
  | i :: is, v :: vs, σ => asgs is vs (σ.set i (some v))
  | _, _, σ => σ
def asgG : List Nat → List PyData → Gm → Gm
  | i :: is, d :: ds, Γ => asgG is ds (Γ.set i (some ⟨.own, .dat d⟩))
  | _, _, Γ => Γ
def unN (d : PyData) : Option (List PyData) := some [d]
def unT (n : Nat) (d : PyData) : Option (List PyData) := match d with
  | .tuple ds => if ds.length = n then some ds else none
  | _ => none
structure TgOk (K : PySem.W.Frag) (g : TG) (is : List Nat) (un : PyData → Option (List PyData)) : Prop where
  run : ∀ (F H : Hp) (σ : L2.St) (v : V) (d : PyData) (ds : List PyData) (Q : L2.St → Hp → Prop), Same F H → Dq F v d → un d = some ds → (∀ vs, DqAll F vs ds → Q (asgs is vs σ) H) → g v σ H Q
structure PxG (X : Cx) (tg : Expr) (is : List Nat) (un : PyData → Option (List PyData)) (g : TG) : Prop where
  pg : PG X tg g
  ok : TgOk X.K g is un
section
variable {K : PySem.W.Frag} {F H : Hp}
theorem tg_name {i : Nat} : TgOk K (gName i) [i] unN := ⟨fun F H σ v d ds Q e h q k => by
  cases q
  exact k [v] (.cons h .nil)⟩
def gNames : List Nat → TGs
  | [] => gNil
  | i :: is => gCons (gName i) (gNames is)
theorem dpAll_len {vs : List V} {ds : List PyData} (h : DqAll F vs ds) : vs.length = ds.length := by
  induction ds generalizing vs with
  | nil =>
    cases h
    rfl
  | cons d ds ih =>
    cases h with
    | cons a b => rw [List.length_cons, List.length_cons, ih b]
theorem gNames_run {Q : L2.St → Hp → Prop} : ∀ (is : List Nat) (vs : List V) (σ : L2.St), vs.length = is.length → Q (asgs is vs σ) H → gNames is vs σ H Q
  | [], [], σ, _, q => ⟨rfl, q⟩
  | [], _ :: _, _, l, _ => by cases l
  | _ :: _, [], _, l, _ => by cases l
  | i :: is, v :: vs, σ, l, q => ⟨v, vs, rfl, gNames_run is vs _ (Nat.succ.inj l) q⟩
theorem tg_tup {is : List Nat} {n : Nat} (hn : n = is.length) : TgOk K (gTup K n (gNames is)) is (unT n) := ⟨fun F H σ v d ds Q e h q k => by
  cases d with
  | tuple es =>
    have q2 : (if es.length = n then some es else none) = some ds := q
    by_cases hl : es.length = n
    · rw [if_pos hl] at q2
      cases q2
      cases h with
      | tup sq all =>
        have l2 := dpAll_len all
        exact ⟨_, _, rfl, sqT_mono e (SqT.of sq), by rw [l2, hl], gNames_run is _ σ (by rw [l2, hl, hn]) (k _ all)⟩
    · rw [if_neg hl] at q2
      cases q2
  | _ => cases q⟩
end
section
variable {X : Cx} {pos : Pos}
theorem pxg_name {i : Nat} {x : Str} (hN : X.N.Nodup) (hi : X.N[i]? = some x) (hx : Loc X.env.scope x) (hf : X.fn x = true ∨ X.env.scope.names.lookup x = some .local := by first | exact .inl rfl | exact .inr rfl | assumption) : PxG X (.Name x pos) [i] unN (gName i) := ⟨pg_name hN hi hx hf, tg_name⟩
structure PxGs (X : Cx) (es : List Expr) (is : List Nat) : Prop where
  pgs : PGs X es (gNames is)
  len : es.length = is.length
theorem pxgs_nil : PxGs X [] [] := ⟨pgs_nil, rfl⟩
theorem pxgs_cons {i : Nat} {x : Str} {es : List Expr} {is : List Nat} (hN : X.N.Nodup) (hi : X.N[i]? = some x) (hx : Loc X.env.scope x) (h : PxGs X es is) (hf : X.fn x = true ∨ X.env.scope.names.lookup x = some .local := by first | exact .inl rfl | exact .inr rfl | assumption) : PxGs X (.Name x pos :: es) (i :: is) :=
  ⟨pgs_cons (pg_name hN hi hx hf) h.pgs, by rw [List.length_cons, List.length_cons, h.len]⟩
theorem pxg_tup {es : List Expr} {k n : Nat} {is : List Nat} (hc : X.calm = true) (h : PxGs X es is) (hn : (assignEach es X.env).length = n := by rfl) (hst : (assignEach es X.env).findIdx? (·.1) = none := by rfl) (hi : n = is.length := by rfl) :
    PxG X (.Tuple es k pos) is (unT n) (gTup X.K n (gNames is)) := ⟨pg_tup hc h.pgs hn hst, tg_tup hi⟩
end

/-! ### things that are walked -/
/-- J gives the data ds, in turn, while F stands and the cells C -/
structure ItD (K : PySem.W.Frag) (J : It) (F : Hp) (C : List (Addr × HO)) (ds : List PyData) : Prop where
  go : ∀ i F' H, Same F F' → Same F' H → (∀ c ∈ C, H c.1 = some c.2) → i < ds.length → J.go i H
  stop : ∀ i F' H, Same F F' → Same F' H → (∀ c ∈ C, H c.1 = some c.2) → ds.length ≤ i → J.stop i H
  yld : ∀ i F' H x H', Same F F' → Same F' H → (∀ c ∈ C, H c.1 = some c.2) → i < ds.length → J.yld i H x H' → ∃ d F'', ds[i]? = some d ∧ Step F' H F'' H' ∧ Dq F'' x d
abbrev MrI := Gm → Rz (Bool × List PyData)
def PostI (K : PySem.W.Frag) (S : Addr → Prop) (E : XK) (R : It → Hp → Prop) (F H : Hp) : Rz (Bool × List PyData) → Prop
  | .ok (b, ds) => ∀ J F' H' C, Step F H F' H' → (∀ c ∈ C, H' c.1 = some c.2) → (b = true → ∀ c ∈ C, S c.1) → ItD K J F' C ds → R J H'
  | .er c => ∀ F' H', Step F H F' H' → E (.ref (He.ga K c)) none H'
  | .no => False
def SimI (K : PySem.W.Frag) (E : XK) (t : TI) (m : MrI) : Prop := ∀ (S : Addr → Prop) (F H : Hp) (σ : L2.St) (Γ : Gm) (R : It → Hp → Prop), Same F H → EnvE K S F H σ Γ → PostI K S E R F H (m Γ) → t σ H R
structure PxI (X : Cx) (E : XK) (tg e : Expr) (m : MrI) (t : TI) : Prop where
  pi : PI X tg e t
  sim : SimI X.K E t m
def datAll : List Sl → Option (List PyData)
  | [] => some []
  | .dat d :: r => (datAll r).map (d :: ·)
  | _ :: _ => none
def itsN : Option (List PyData) → Fl → Rz (Bool × List PyData)
  | some ds, .par => .ok (true, ds)
  | some ds, .bor => .ok (false, ds)
  | _, _ => .no
def itsL (r : Rv) : Rz (Bool × List PyData) := match r.s with
  | .dat (.list ds) => .ok (true, ds)
  | .node .L xs => itsN (datAll xs) r.fl
  | _ => .no
def itsT (r : Rv) : Rz (Bool × List PyData) := match r.s with
  | .dat (.tuple ds) => .ok (true, ds)
  | _ => .no
def iL (a : Mr) : MrI := fun Γ => (a Γ).bind itsL
def iT (a : Mr) : MrI := fun Γ => (a Γ).bind itsT
section
variable {K : PySem.W.Frag} {S : Addr → Prop} {E : XK} {F H F1 H1 F2 H2 : Hp} {σ : L2.St} {Γ : Gm}
theorem dpAll_get {vs : List V} {ds : List PyData} (h : DqAll F vs ds) {i : Nat} {v : V} (e : vs[i]? = some v) : ∃ d, ds[i]? = some d ∧ Dq F v d := by
  induction ds generalizing vs i with
  | nil =>
    cases h
    cases e
  | cons d ds ih =>
    cases h with
    | cons a b =>
      cases i with
      | zero =>
        cases e
        exact ⟨d, rfl, a⟩
      | succ i => exact ih b e
theorem sqL_inj_of {a : Addr} {xs ys : List V} (h : SqL K H a xs) (y : ∀ zs, SqL K H a zs → zs[0]? = ys[0]?) : True := trivial
theorem itd_list {a : Addr} {xs : List V} {ds : List PyData} (sq : SqL K F a xs) (all : DqAll F xs ds) : ItD K (Itl K a) F [] ds := by
  have l := dpAll_len all
  refine ⟨fun i F' H ff fh _ hi => ⟨xs, xs[i]'(by rw [l]; exact hi), sqL_mono (ff.trans fh) sq, by simp⟩, fun i F' H ff fh _ hi => ⟨xs, sqL_mono (ff.trans fh) sq, by rw [l]; exact hi⟩, fun i F' H x H' ff fh _ hi y => ?_⟩
  obtain ⟨e, y⟩ := y
  subst e
  obtain ⟨d, h1, h2⟩ := dpAll_get all (y xs (sqL_mono (ff.trans fh) sq))
  exact ⟨d, F', h1, Step.refl fh, dp_mono ff h2⟩
theorem itd_tup {a : Addr} {xs : List V} {ds : List PyData} (sq : SqT K F a xs) (all : DqAll F xs ds) : ItD K (Itt K a) F [] ds := by
  have l := dpAll_len all
  refine ⟨fun i F' H ff fh _ hi => ⟨xs, xs[i]'(by rw [l]; exact hi), sqT_mono (ff.trans fh) sq, by simp⟩, fun i F' H ff fh _ hi => ⟨xs, sqT_mono (ff.trans fh) sq, by rw [l]; exact hi⟩, fun i F' H x H' ff fh _ hi y => ?_⟩
  obtain ⟨e, y⟩ := y
  subst e
  obtain ⟨d, h1, h2⟩ := dpAll_get all (y xs (sqT_mono (ff.trans fh) sq))
  exact ⟨d, F', h1, Step.refl fh, dp_mono ff h2⟩
theorem itd_cell {a : Addr} {xs : List V} {ds : List PyData} (all : DqAll F xs ds) : ItD K (Itl K a) F [(a, .lst xs)] ds := by
  have l := dpAll_len all
  have key : ∀ {H : Hp}, (∀ c ∈ [(a, HO.lst xs)], H c.1 = some c.2) → SqL K H a xs := fun h => SqL.of (h _ (List.mem_singleton.mpr rfl))
  refine ⟨fun i F' H ff fh c hi => ⟨xs, xs[i]'(by rw [l]; exact hi), key c, by simp⟩, fun i F' H ff fh c hi => ⟨xs, key c, by rw [l]; exact hi⟩, fun i F' H x H' ff fh c hi y => ?_⟩
  obtain ⟨e, y⟩ := y
  subst e
  obtain ⟨d, h1, h2⟩ := dpAll_get all (y xs (key c))
  exact ⟨d, F', h1, Step.refl fh, dp_mono ff h2⟩
theorem datAll_dp : ∀ {vs : List V} {ss : List Sl} {fp : List Addr} {ds : List PyData}, OwAll K F H vs ss fp → datAll ss = some ds → DqAll F vs ds
  | _, _, _, _, .nil, q => by
    cases q
    exact .nil
  | _, _, _, _, .cons (s := .dat d) (ss := ss) h t, q => by
    cases q2 : datAll ss with
    | none =>
      rw [datAll, q2] at q
      cases q
    | some es =>
      rw [datAll, q2] at q
      cases q
      cases h with
      | dat hd => exact .cons hd (datAll_dp t q2)
  | _, _, _, _, .cons (s := .node _ _) h t, q => by cases q
theorem simI_list {t : TE} {m : Mr} (h : Sim K E t m) : SimI K E (iList K t) (iL m) := by
  intro S F H σ Γ R e en p
  have p0 : PostI K S E R F H ((m Γ).bind itsL) := p
  refine h S F H σ Γ _ e en ?_
  cases q : m Γ with
  | no =>
    rw [q] at p0
    exact p0
  | er c =>
    rw [q] at p0
    exact p0
  | ok r =>
    intro v F1 H1 fp st ro nw
    rw [q] at p0
    obtain ⟨fl, s⟩ := r
    cases s with
    | dat d =>
      obtain ⟨fq, o⟩ := ro.ow
      cases o with
      | dat hd =>
        cases hd with
        | lst sq all => exact ⟨_, rfl, ⟨_, sqL_mono st.fh (SqL.of sq)⟩, p0 _ F1 H1 [] st (fun _ m => nomatch m) (fun _ _ m => nomatch m) (itd_list (SqL.of sq) all)⟩
        | _ => exact p0.elim
    | node k xs =>
      cases k with
      | L =>
        have p1 : PostI K S E R F H (itsN (datAll xs) fl) := p0
        cases q1 : datAll xs with
        | none =>
          rw [q1] at p1
          exact p1.elim
        | some ds =>
          rw [q1] at p1
          cases fl with
          | own => exact p1.elim
          | par =>
            obtain ⟨_, fq, o, hs⟩ := ro
            have o' : Ow K F1 H1 v (.node .L xs) fq := o
            cases o' with
            | node ha sh t =>
              have sh' : _ = HO.lst _ := sh
              subst sh'
              refine ⟨_, rfl, ⟨_, SqL.of ha⟩, p1 _ F1 H1 [(_, _)] st (fun c m => ?_) (fun _ c m => ?_) (itd_cell (datAll_dp t q1))⟩
              · cases List.mem_singleton.mp m
                exact ha
              · cases List.mem_singleton.mp m
                exact hs _ List.mem_cons_self
          | bor =>
            obtain ⟨_, fq, o⟩ := ro
            have o' : Ow K F1 H1 v (.node .L xs) fq := o
            cases o' with
            | node ha sh t =>
              have sh' : _ = HO.lst _ := sh
              subst sh'
              refine ⟨_, rfl, ⟨_, SqL.of ha⟩, p1 _ F1 H1 [(_, _)] st (fun c m => ?_) (fun z => by cases z) (itd_cell (datAll_dp t q1))⟩
              cases List.mem_singleton.mp m
              exact ha
      | _ => exact p0.elim
theorem simI_tup {t : TE} {m : Mr} (h : Sim K E t m) : SimI K E (iTup K t) (iT m) := by
  intro S F H σ Γ R e en p
  have p0 : PostI K S E R F H ((m Γ).bind itsT) := p
  refine h S F H σ Γ _ e en ?_
  cases q : m Γ with
  | no =>
    rw [q] at p0
    exact p0
  | er c =>
    rw [q] at p0
    exact p0
  | ok r =>
    intro v F1 H1 fp st ro nw
    rw [q] at p0
    obtain ⟨fl, s⟩ := r
    cases s with
    | dat d =>
      obtain ⟨fq, o⟩ := ro.ow
      cases o with
      | dat hd =>
        cases hd with
        | tup sq all => exact ⟨_, rfl, ⟨_, sqT_mono st.fh (SqT.of sq)⟩, p0 _ F1 H1 [] st (fun _ m => nomatch m) (fun _ _ m => nomatch m) (itd_tup (SqT.of sq) all)⟩
        | _ => exact p0.elim
    | node k xs => exact p0.elim
/-! ranges -/
def rngD (lo : Int) (n : Nat) : List PyData := (List.range n).map fun (i : Nat) => .int (lo + (i : Int))
def i62 (i : Int) : Bool := decide (-(2 ^ 62) ≤ i ∧ i < 2 ^ 62)
def oneI (rs : List Rv) : Rz (Bool × List PyData) := match rs with
  | [⟨_, .dat (.int j)⟩] => if i62 j = true then .ok (true, rngD 0 j.toNat) else .no
  | _ => .no
def twoI (rs : List Rv) : Rz (Bool × List PyData) := match rs with
  | [⟨_, .dat (.int i)⟩, ⟨_, .dat (.int j)⟩] => if i62 i = true ∧ i62 j = true then .ok (true, rngD i (j - i).toNat) else .no
  | _ => .no
def iR1 (as : MrA) : MrI := fun Γ => (as Γ).bind oneI
def iR2 (as : MrA) : MrI := fun Γ => (as Γ).bind twoI
theorem itd_range {lo : Int} {n : Nat} : ItD K (Itr lo n) F [] (rngD lo n) := by
  have l : (rngD lo n).length = n := by simp [rngD]
  refine ⟨fun i F' H ff fh c hi => by rw [l] at hi; exact hi, fun i F' H ff fh c hi => by rw [l] at hi; exact hi, fun i F' H x H' ff fh c hi y => ?_⟩
  obtain ⟨e, y⟩ := y
  subst e y
  rw [l] at hi
  exact ⟨.int (lo + i), F', by simp [rngD, hi], Step.refl fh, .int _⟩
theorem SimA.bindI {t : TA} {m : MrA} (h : SimA K E t m) {k : List Rv → Rz (Bool × List PyData)} {Q : It → Hp → Prop} {R : List V → Hp → Prop} (e : Same F H) (en : EnvE K S F H σ Γ)
    (p : PostI K S E Q F H ((m Γ).bind k)) (step : ∀ rs vs F1 H1 fp, m Γ = .ok rs → Step F H F1 H1 → Roks K S F1 H1 vs rs fp → New F1 H fp → PostI K S E Q F H (k rs) → R vs H1) : t σ H R := by
  refine h S F H σ Γ R e en ?_
  cases q : m Γ with
  | ok r =>
    rw [q] at p
    exact fun v F1 H1 fp st ro nw => step r v F1 H1 fp q st ro nw p
  | er c =>
    rw [q] at p
    exact p
  | no =>
    rw [q] at p
    exact p
theorem rok_int {v : V} {fl : Fl} {i : Int} {fp : List Addr} (h : Rok K S F H v ⟨fl, .dat (.int i)⟩ fp) : v = .int i := by
  obtain ⟨fq, o⟩ := h.ow
  cases o with
  | dat hd =>
    cases hd
    rfl
theorem simI_r1 {t : TA} {m : MrA} (h : SimA K E t m) : SimI K E (iRng1 t) (iR1 m) := by
  intro S F H σ Γ R e en p
  refine h.bindI e en p fun rs vs F1 H1 fp q st ro nw p1 => ?_
  unfold oneI at p1
  split at p1
  · rename_i fl j
    cases ro with
    | cons h1 h2 =>
      cases h2
      by_cases hj : i62 j = true
      · rw [if_pos hj] at p1
        have hj2 := of_decide_eq_true hj
        exact ⟨j, by rw [rok_int h1], hj2.1, hj2.2, p1 _ F1 H1 [] st (fun _ m => nomatch m) (fun _ _ m => nomatch m) itd_range⟩
      · rw [if_neg hj] at p1
        exact p1.elim
  · exact p1.elim
theorem simI_r2 {t : TA} {m : MrA} (h : SimA K E t m) : SimI K E (iRng2 t) (iR2 m) := by
  intro S F H σ Γ R e en p
  refine h.bindI e en p fun rs vs F1 H1 fp q st ro nw p1 => ?_
  unfold twoI at p1
  split at p1
  · rename_i fl i fl2 j
    cases ro with
    | cons h1 h2 =>
      cases h2 with
      | cons h3 h4 =>
        cases h4
        by_cases hj : i62 i = true ∧ i62 j = true
        · rw [if_pos hj] at p1
          have hi2 := of_decide_eq_true hj.1
          have hj2 := of_decide_eq_true hj.2
          exact ⟨i, j, by rw [rok_int h1, rok_int h3], ⟨hi2.1, hi2.2, hj2.1, hj2.2⟩, p1 _ F1 H1 [] st (fun _ m => nomatch m) (fun _ _ m => nomatch m) itd_range⟩
        · rw [if_neg hj] at p1
          exact p1.elim
  · exact p1.elim
end
section
variable {X : Cx} {E : XK} {tg a b : Expr} {ma : Mr} {ta : TE} {pos p : Pos} {es : List Expr} {me : MrA} {te : TA}
theorem pxi_list (h : Px X E a ma ta) : PxI X E tg a (iL ma) (iList X.K ta) := ⟨pi_list h.pe, simI_list h.sim⟩
theorem pxi_tup (h : Px X E a ma ta) : PxI X E tg a (iT ma) (iTup X.K ta) := ⟨pi_tup h.pe, simI_tup h.sim⟩
theorem pxi_r1 (hg : Gl X "range") (hm : X.mg "range" = none) (h : PxA X E [a] me te) (hs : starEach [a] X.env = [(false, eval a X.env)] := by rfl) : PxI X E tg (.Call (.Name "range" p) [a] [] pos) (iR1 me) (iRng1 te) := ⟨pi_range1 hg hm h.pa hs, simI_r1 h.sim⟩
theorem pxi_r2 (hg : Gl X "range") (hm : X.mg "range" = none) (h : PxA X E [a, b] me te) (hs : starEach [a, b] X.env = [(false, eval a X.env), (false, eval b X.env)] := by rfl) (hs2 : starEach [b] X.env = [(false, eval b X.env)] := by rfl) : PxI X E tg (.Call (.Name "range" p) [a, b] [] pos) (iR2 me) (iRng2 te) :=
  ⟨pi_range2 hg hm h.pa hs hs2, simI_r2 h.sim⟩
end
end Pf

/-! Pf6: comprehensions. -/
namespace Pf
open PySem L2

def wipeG (Γ : Gm) : List Nat → Gm
  | [] => Γ
  | i :: is => (wipeG Γ is).set i none
section
variable {K : PySem.W.Frag} {S : Addr → Prop} {E : XK} {F H F1 H1 F2 H2 : Hp} {σ : L2.St} {Γ : Gm}
theorem EnvE.drop {i : Nat} (h : EnvE K S F H σ Γ) : EnvE K S F H (σ.set i none) (Γ.set i none) := by
  refine ⟨by rw [List.length_set, List.length_set]; exact h.len, fun j q e => ?_⟩
  by_cases hj : i = j
  · subst hj
    rw [List.getElem?_set] at e
    by_cases hl : i < Γ.length
    · rw [if_pos rfl, if_pos hl] at e
      cases e
    · rw [if_pos rfl, if_neg hl] at e
      cases e
  · rw [List.getElem?_set, if_neg hj] at e ⊢
    exact h.at_ j q e
theorem EnvE.wipe : ∀ (vs : List Nat) {σ : L2.St} {Γ : Gm}, EnvE K S F H σ Γ → EnvE K S F H (L2.wipe σ vs) (wipeG Γ vs)
  | [], _, _, h => h
  | i :: vs, _, _, h => (EnvE.wipe vs h).drop
theorem EnvE.asg : ∀ (is : List Nat) {σ : L2.St} {Γ : Gm} {xs : List V} {ds : List PyData}, EnvE K S F H σ Γ → DqAll F xs ds → EnvE K S F H (asgs is xs σ) (asgG is ds Γ)
  | [], _, _, _, _, h, _ => h
  | i :: is, _, _, _, _, h, .nil => h
  | i :: is, _, _, _, _, h, .cons a b => EnvE.asg is (h.set (r := ⟨.own, .dat _⟩) (Ow.dat a) (fun z => by cases z)) b
theorem wipe_get {i : Nat} : ∀ (vs : List Nat) (σ : L2.St), (L2.wipe σ vs)[i]? = if i ∈ vs then (if i < σ.length then some none else none) else σ[i]?
  | [], σ => by simp [L2.wipe]
  | j :: vs, σ => by
    show ((L2.wipe σ vs).set j none)[i]? = _
    rw [List.getElem?_set, wipe_length, wipe_get vs σ]
    by_cases h2 : j = i
    · subst h2
      rw [if_pos rfl, if_pos List.mem_cons_self]
    · rw [if_neg h2]
      by_cases h1 : i ∈ vs
      · rw [if_pos h1, if_pos (List.mem_cons_of_mem _ h1)]
      · rw [if_neg h1, if_neg (fun m => (List.mem_cons.mp m).elim (fun z => h2 z.symm) h1)]
theorem asgs_len : ∀ (is : List Nat) (xs : List V) (σ : L2.St), (asgs is xs σ).length = σ.length
  | [], _, _ => rfl
  | _ :: _, [], _ => rfl
  | i :: is, x :: xs, σ => by
    show (asgs is xs (σ.set i (some x))).length = _
    rw [asgs_len is xs, List.length_set]
theorem asgs_out {i : Nat} : ∀ (is : List Nat) (xs : List V) (σ : L2.St), i ∉ is → (asgs is xs σ)[i]? = σ[i]?
  | [], _, _, _ => rfl
  | _ :: _, [], _, _ => rfl
  | j :: is, x :: xs, σ, h => by
    show (asgs is xs (σ.set j (some x)))[i]? = _
    rw [asgs_out is xs _ (fun m => h (List.mem_cons_of_mem _ m)), List.getElem?_set, if_neg (fun z => h (by rw [z]; exact List.mem_cons_self))]
theorem wipe_asgs {is vs : List Nat} {xs : List V} {σ : L2.St} (hs : ∀ i ∈ is, i ∈ vs) : L2.wipe (asgs is xs (L2.wipe σ vs)) vs = L2.wipe σ vs := by
  refine List.ext_getElem? fun i => ?_
  rw [wipe_get, asgs_len, wipe_length, wipe_get]
  by_cases h : i ∈ vs
  · rw [if_pos h, if_pos h]
  · rw [if_neg h, if_neg h, asgs_out _ _ _ (fun m => h (hs i m)), wipe_get, if_neg h]

def cgo (un : PyData → Option (List PyData)) (is : List Nat) (mt : MrT) (me : Mr) (Γ : Gm) : List PyData → Rz (List Sl)
  | [] => .ok []
  | d :: ds => match un d with
    | none => .no
    | some es => match mt (asgG is es Γ) with
      | .ok true => (match me (asgG is es Γ) with
        | .ok ⟨.own, s⟩ => (cgo un is mt me Γ ds).bind fun ss => .ok (s :: ss)
        | _ => .no)
      | .ok false => cgo un is mt me Γ ds
      | _ => .no
def eComp (mi : MrI) (un : PyData → Option (List PyData)) (is : List Nat) (mt : MrT) (me : Mr) (vs : List Nat) : Mr := fun Γ => (mi Γ).bind fun bd => match cgo un is mt me (wipeG Γ vs) bd.2 with
  | .ok ss => if ss.length ≤ most then .ok ⟨.own, .node .L ss⟩ else .no
  | _ => .no

theorem Rz.bind_ok {α β : Type} {x : Rz α} {f : α → Rz β} {b : β} (h : x.bind f = .ok b) : ∃ a, x = .ok a ∧ f a = .ok b := by
  cases x with
  | ok a => exact ⟨a, rfl, h⟩
  | er c => cases h
  | no => cases h
theorem owAll_snoc : ∀ {vs : List V} {ss : List Sl} {fp : List Addr} {v : V} {s : Sl} {fq : List Addr}, OwAll K F H vs ss fp → Ow K F H v s fq → OwAll K F H (vs ++ [v]) (ss ++ [s]) (fp ++ fq)
  | _, _, _, _, _, fq, .nil, h => by
    have z := OwAll.cons h .nil
    rw [List.append_nil] at z
    exact z
  | _, _, _, _, _, _, .cons h1 t, h => by
    rw [List.append_assoc]
    exact .cons h1 (owAll_snoc t h)

theorem sim_comp {wi : TI} {g : TG} {tt : TT} {te : TE} {vs is : List Nat} {un : PyData → Option (List PyData)} {mi : MrI} {mt : MrT} {me : Mr} (hi : SimI K E wi mi) (hg : TgOk K g is un) (ht : SimT K E0 tt mt) (he : Sim K E0 te me) (hs : ∀ i ∈ is, i ∈ vs) :
    Sim K E (tLc wi g tt te vs) (eComp mi un is mt me vs) := by
  intro S F H σ Γ Q e en p
  have p0 : Post K S E Q F H ((mi Γ).bind fun bd => match cgo un is mt me (wipeG Γ vs) bd.2 with | .ok ss => if ss.length ≤ most then .ok ⟨.own, .node .L ss⟩ else .no | _ => .no) := p
  refine hi S F H σ Γ _ e en ?_
  cases q : mi Γ with
  | no =>
    rw [q] at p0
    exact p0
  | er c =>
    rw [q] at p0
    exact p0
  | ok bd =>
    obtain ⟨b, ds⟩ := bd
    intro J F1 H1 C st hC _ it
    rw [q] at p0
    have p1 : Post K S E Q F H (match cgo un is mt me (wipeG Γ vs) ds with | .ok ss => if ss.length ≤ most then .ok ⟨.own, .node .L ss⟩ else .no | _ => .no) := p0
    cases q1 : cgo un is mt me (wipeG Γ vs) ds with
    | no =>
      rw [q1] at p1
      exact p1.elim
    | er c =>
      rw [q1] at p1
      exact p1.elim
    | ok tot =>
      rw [q1] at p1
      have p2 : Post K S E Q F H (if tot.length ≤ most then .ok ⟨.own, .node .L tot⟩ else .no) := p1
      by_cases hl : tot.length ≤ most
      · rw [if_pos hl] at p2
        intro D hD
        -- the invariant
        refine ⟨fun i m H' => m = ds.length - i ∧ i ≤ ds.length ∧ ∃ F' acc accS rest fp, Step F1 H1 F' H' ∧ F' D = none ∧ H' D = some (.lst acc) ∧ OwAll K F' H' acc accS fp ∧ New F' H1 fp ∧ D ∉ fp ∧ tot = accS ++ rest ∧ cgo un is mt me (wipeG Γ vs) (ds.drop i) = .ok rest, ⟨ds.length, by simp, Nat.zero_le _, F1, [], [], tot, [], ?_, st.fh.free hD, upd_same, .nil, New.nil, (fun m => nomatch m), rfl, q1⟩, ?_⟩
        · exact Step.grow st.fh fun b u z => by
            rw [upd_ne (ne_of_none z hD)]
            exact z
        · rintro i m H' ⟨rfl, hi', F', acc, accS, rest, fp, st1, fD, hHD, oa, nw, nD, et, er⟩
          have hC' : ∀ c ∈ C, H' c.1 = some c.2 := fun c mc => st1.hh _ _ (hC c mc)
          by_cases hlt : i < ds.length
          · refine .inr ⟨it.go i F' H' st1.ff st1.fh hC' hlt, _, fun _ z => z, ?_⟩
            intro x H2 y
            obtain ⟨d, F2, hd, st2, dp⟩ := it.yld i F' H' x H2 st1.ff st1.fh hC' hlt y
            have hdr : ds.drop i = d :: ds.drop (i + 1) := by
              rw [List.drop_eq_getElem_cons hlt]
              rw [List.getElem?_eq_getElem hlt] at hd
              rw [Option.some.inj hd]
            rw [hdr] at er
            rw [cgo] at er
            cases qu : un d with
            | none =>
              rw [qu] at er
              cases er
            | some es =>
              rw [qu] at er
              have er : (match mt (asgG is es (wipeG Γ vs)) with
                | .ok true => (match me (asgG is es (wipeG Γ vs)) with
                  | .ok ⟨.own, s⟩ => (cgo un is mt me (wipeG Γ vs) (ds.drop (i + 1))).bind fun ss => .ok (s :: ss)
                  | _ => .no)
                | .ok false => cgo un is mt me (wipeG Γ vs) (ds.drop (i + 1))
                | _ => .no) = .ok rest := er
              refine hg.run F2 H2 _ x d es _ st2.fh dp qu fun xs all => ⟨wipe_asgs hs, ?_⟩
              have en2 : EnvE K S F2 H2 (asgs is xs (L2.wipe σ vs)) (asgG is es (wipeG Γ vs)) := EnvE.asg is (((EnvE.wipe vs en).step st.ff st.hh).step st1.ff st1.hh |>.step st2.ff st2.hh) all
              refine ht.bind st2.fh en2 (fun c qc => by rw [qc] at er; cases er) (fun qc => by rw [qc] at er; cases er) fun b F3 H3 qb st3 => ?_
              rw [qb] at er
              cases b with
              | false =>
                refine iteF ⟨_, by omega, rfl, hlt, F3, acc, accS, rest, fp, st1.trans (st2.trans st3), st3.nw _ (same_ne st2.hh (by rw [hHD]; exact fun z => by cases z)) (st2.nw _ (by rw [hHD]; exact fun z => by cases z) fD), st3.hh _ _ (st2.hh _ _ hHD), owAll_mono (st2.ff.trans st3.ff) oa (fun a _ o z => st3.hh _ _ (st2.hh _ _ z)), ?_, nD, et, er⟩
                exact ⟨nw.nd, fun a ma => (st2.trans st3).nw a (owAll_dom oa a ma) (nw.nf a ma), nw.nh⟩
              | true =>
                have er : (match me (asgG is es (wipeG Γ vs)) with
                  | .ok ⟨.own, s⟩ => (cgo un is mt me (wipeG Γ vs) (ds.drop (i + 1))).bind fun ss => .ok (s :: ss)
                  | _ => .no) = .ok rest := er
                refine iteT (he S F3 H3 _ _ _ st3.fh (en2.step st3.ff st3.hh) ?_)
                cases qe : me (asgG is es (wipeG Γ vs)) with
                | no =>
                  rw [qe] at er
                  cases er
                | er c =>
                  rw [qe] at er
                  cases er
                | ok r =>
                  rw [qe] at er
                  obtain ⟨fl, s⟩ := r
                  cases fl with
                  | par => cases er
                  | bor => cases er
                  | own =>
                    obtain ⟨rest', q5, q6⟩ := Rz.bind_ok er
                    have q6 : s :: rest' = rest := by
                      cases q6
                      rfl
                    intro y F4 H4 fy st4 ro nwy
                    have ow : Ow K F4 H4 y s fy := ro
                    have sAll := (st2.trans st3).trans st4
                    have hD4 : H4 D = some (.lst acc) := sAll.hh _ _ hHD
                    have fD4 : F4 D = none := sAll.nw _ (by rw [hHD]; exact fun z => by cases z) fD
                    have hD3 : H3 D ≠ none := by
                      rw [st3.hh _ _ (st2.hh _ _ hHD)]
                      exact fun z => by cases z
                    have nDy : D ∉ fy := fun m => hD3 (nwy.nh D m)
                    have la : acc.length < sizeLine := by
                      have l1 := owAll_len oa
                      rw [et, ← q6] at hl
                      rw [List.length_append, List.length_cons] at hl
                      rw [l1]
                      exact Nat.lt_of_lt_of_le (by omega) (most_ok hl)
                    have sameD : ∀ o, Same F4 (upd H4 D o) := fun o a u z => by
                      have na : a ≠ D := fun w => by
                        rw [w, fD4] at z
                        cases z
                      rw [upd_ne na]
                      exact st4.fh _ _ z
                    refine ⟨acc, hD4, la, _, by omega, rfl, hlt, F4, acc ++ [y], accS ++ [s], rest', fp ++ fy, ⟨st1.ff.trans sAll.ff, sameD _, fun a u z => ?_, fun a ha hf => sAll.nw _ (same_ne st1.hh ha) (st1.nw a ha hf)⟩, fD4, upd_same, ?_, ?_, ?_, ?_, q5⟩
                    · have na : a ≠ D := ne_of_none z hD
                      rw [upd_ne na]
                      exact sAll.hh _ _ (st1.hh _ _ z)
                    · refine owAll_snoc (owAll_mono sAll.ff oa fun a ma o z => ?_) (ow_mono (Same.refl F4) ow fun a ma o z => ?_)
                      · rw [upd_ne (fun (w : a = D) => nD (by rw [← w]; exact ma))]
                        exact sAll.hh _ _ z
                      · rw [upd_ne (fun (w : a = D) => nDy (by rw [← w]; exact ma))]
                        exact z
                    · have k1 : New F4 H1 fp := ⟨nw.nd, fun a ma => sAll.nw a (owAll_dom oa a ma) (nw.nf a ma), nw.nh⟩
                      refine ⟨List.nodup_append.mpr ⟨nw.nd, nwy.nd, fun a ha b hb w => ?_⟩, fun a ma => ?_, fun a ma => ?_⟩
                      · subst w
                        exact same_ne (st2.trans st3).hh (owAll_dom oa a ha) (nwy.nh a hb)
                      · rcases List.mem_append.mp ma with ma | ma
                        · exact k1.nf a ma
                        · exact nwy.nf a ma
                      · rcases List.mem_append.mp ma with ma | ma
                        · exact nw.nh a ma
                        · exact st1.hh.free ((st2.trans st3).hh.free (nwy.nh a ma))
                    · exact fun m => (List.mem_append.mp m).elim nD nDy
                    · rw [et, ← q6, List.append_assoc]
                      rfl
          · have e2 : i = ds.length := by omega
            subst e2
            rw [List.drop_length] at er
            have er : Rz.ok ([] : List Sl) = .ok rest := er
            cases er
            rw [List.append_nil] at et
            subst et
            refine .inl ⟨it.stop _ F' H' st1.ff st1.fh hC' (Nat.le_refl _), ?_⟩
            refine p2 _ F' H' (D :: fp) (st.trans st1) (Ow.node hHD (show Shape K .L acc (.lst acc) from rfl) oa) ⟨List.nodup_cons.mpr ⟨nD, nw.nd⟩, fun a m => ?_, fun a m => ?_⟩
            · rcases List.mem_cons.mp m with rfl | m
              · exact fD
              · exact nw.nf a m
            · rcases List.mem_cons.mp m with rfl | m
              · exact st.hh.free hD
              · exact st.hh.free (nw.nh a m)
      · rw [if_neg hl] at p2
        exact p2.elim
end
structure PxTs (X : Cx) (E : XK) (ifs : List Expr) (m : MrT) (t : TT) : Prop where
  ts : PTs X ifs t
  sim : SimT X.K E t m
def eYes : MrT := fun _ => .ok true
section
variable {X : Cx} {E : XK} {e elt tg iter : Expr} {m : MrT} {t : TT} {ifs : List Expr}
theorem pxts_nil : PxTs X E [] eYes tYes := ⟨pts_nil, fun S F H σ Γ Q e en p => p F H (Step.refl e)⟩
theorem pxts_one (h : PxT X E e m t) : PxTs X E [e] m t := ⟨pts_one h.pt, h.sim⟩
theorem px_lc {scope : Scope} {own : List (Str × Nat)} {pos : Pos} {wi : TI} {g : TG} {te : TE} {is : List Nat} {un : PyData → Option (List PyData)} {mi : MrI} {me : Mr} (hc : X.calm = true) (hN : X.N.Nodup) (hi : PxI X E tg iter mi wi) (ok : BlkOk X.N X.env.scope scope own)
    (hg : ∀ (s : Shared) (H : Hp) (C : Addr) (cl : List (Str × Addr)) (fp : List Addr), PxG (X.blk s H scope (compEnvC scope cl C X.env) fp) tg is un g)
    (ht : ∀ (s : Shared) (H : Hp) (C : Addr) (cl : List (Str × Addr)) (fp : List Addr), PxTs (X.blk s H scope (compEnvC scope cl C X.env) fp) E0 ifs m t)
    (he : ∀ (s : Shared) (H : Hp) (C : Addr) (cl : List (Str × Addr)) (fp : List Addr), Px (X.blk s H scope (compEnvC scope cl C X.env) fp) E0 elt me te)
    (hw : ∀ i ∈ is, i ∈ own.map (·.2) := by decide) (hs : ∀ x, foldedSetIterable iter X.env x = pure x := by intro _; rfl) :
    Px X E (.ListComp elt [⟨tg, iter, ifs, 0⟩] scope pos) (eComp mi un is m me (own.map (·.2))) (tLc wi g t te (own.map (·.2))) :=
  ⟨pe_lc hc hN hi.pi ok (fun s H C cl fp => (hg s H C cl fp).pg) (fun s H C cl fp => (ht s H C cl fp).ts) (fun s H C cl fp => (he s H C cl fp).pe) hs,
    sim_comp hi.sim (hg X.s_0 X.H_0 0 [] []).ok (ht X.s_0 X.H_0 0 [] []).sim (he X.s_0 X.H_0 0 [] []).sim hw⟩
end
end Pf

/-! Pf7: statements, loops, a def's body. -/
namespace Pf
open PySem L2

structure Bs where
  F : Hp
  H : Hp
  M : Addr → Prop
  S : Addr → Prop
  pin : List V
structure StepB (B : Bs) (F H : Hp) : Prop where
  ff : Same B.F F
  fh : Same F H
  hh : ∀ a o, ¬ B.M a → B.H a = some o → H a = some o
  nw : ∀ a, ¬ B.M a → B.H a ≠ none → B.F a = none → F a = none
  hS : ∀ a, B.S a → B.H a ≠ none ∧ ¬ B.M a
abbrev Sst (B : Bs) : Addr → Prop := B.S
def SlotOk (K : PySem.W.Frag) (B : Bs) (F H : Hp) (v : V) (r : Rv) (fp : List Addr) : Prop := match r.fl with
  | .own => Ow K F H v r.s fp ∧ fp.Nodup ∧ ∀ a ∈ fp, F a = none ∧ (B.H a = none ∨ B.M a)
  | .par => fp = [] ∧ ∃ fp', Ow K F H v r.s fp' ∧ ∀ a ∈ fp', Sst B a
  | .bor => False
structure EnvS (K : PySem.W.Frag) (B : Bs) (F H : Hp) (σ : L2.St) (Γ : Gm) : Prop where
  st : StepB B F H
  len : σ.length = Γ.length
  pin : ∀ (i : Nat) (v : V), B.pin[i]? = some v → σ[i]? = some (some v)
  ex : ∃ fp : Nat → List Addr, (∀ (i : Nat) (r : Rv), Γ[i]? = some (some r) → ∃ v, σ[i]? = some (some v) ∧ SlotOk K B F H v r (fp i)) ∧
    ∀ (i j : Nat) (r r' : Rv) (a : Addr), i ≠ j → Γ[i]? = some (some r) → Γ[j]? = some (some r') → a ∈ fp i → a ∉ fp j
section
variable {K : PySem.W.Frag} {B : Bs} {E : XK} {F H F' H' F1 H1 F2 H2 : Hp} {σ : L2.St} {Γ : Gm}
def Bs.at_ (B : Bs) (ps : List V) : Bs := { B with pin := ps }
def Bs.push (B : Bs) (v : V) : Bs := { B with pin := v :: B.pin }
theorem SlotOk.at_ {ps : List V} {v : V} {r : Rv} {fp : List Addr} (h : SlotOk K B F H v r fp) : SlotOk K (B.at_ ps) F H v r fp := h
theorem StepB.at_ {ps : List V} (s : StepB B F H) : StepB (B.at_ ps) F H := ⟨s.ff, s.fh, s.hh, s.nw, s.hS⟩
theorem StepB.step (s : StepB B F H) (t : Step F H F' H') : StepB B F' H' :=
  ⟨s.ff.trans t.ff, t.fh, fun a o m e => t.hh _ _ (s.hh a o m e), fun a m h f => t.nw a (by
    cases q : B.H a with
    | none => exact absurd q h
    | some o =>
      rw [s.hh a o m q]
      exact fun z => by cases z) (s.nw a m h f), s.hS⟩
theorem SlotOk.step {v : V} {r : Rv} {fp : List Addr} (t : Step F H F' H') (h : SlotOk K B F H v r fp) : SlotOk K B F' H' v r fp := by
  obtain ⟨fl, s⟩ := r
  cases fl with
  | own =>
    obtain ⟨o, n, f⟩ := h
    exact ⟨ow_step t.ff t.hh o, n, fun a m => ⟨t.nw a (ow_dom o a m) (f a m).1, (f a m).2⟩⟩
  | par =>
    obtain ⟨e, fp', o, s⟩ := h
    exact ⟨e, fp', ow_step t.ff t.hh o, s⟩
  | bor => exact h
theorem SlotOk.dom {v : V} {r : Rv} {fp : List Addr} (h : SlotOk K B F H v r fp) : ∀ a ∈ fp, H a ≠ none := by
  obtain ⟨fl, s⟩ := r
  cases fl with
  | own => exact ow_dom h.1
  | par =>
    rw [h.1]
    intro a m
    cases m
  | bor => exact h.elim
theorem EnvS.step (t : Step F H F' H') (h : EnvS K B F H σ Γ) : EnvS K B F' H' σ Γ := by
  obtain ⟨fp, h1, h2⟩ := h.ex
  exact ⟨h.st.step t, h.len, h.pin, fp, fun i r e => let ⟨v, a, b⟩ := h1 i r e; ⟨v, a, b.step t⟩, h2⟩
theorem EnvS.e (h : EnvS K B F H σ Γ) : EnvE K (Sst B) F H σ Γ := by
  obtain ⟨fp, h1, h2⟩ := h.ex
  refine ⟨h.len, fun i r e => ?_⟩
  obtain ⟨v, a, b⟩ := h1 i r e
  obtain ⟨fl, s⟩ := r
  cases fl with
  | own => exact ⟨v, fp i, a, b.1, fun z => by cases z⟩
  | par =>
    obtain ⟨_, fp', o, s⟩ := b
    exact ⟨v, fp', a, o, fun _ => s⟩
  | bor => exact b.elim
/-- a new value is fit for a slot -/
theorem slot_new {v : V} {r : Rv} {fp : List Addr} (h : StepB B F H) (t : Step F H F' H') (ro : Rok K (Sst B) F' H' v r fp) (nw : New F' H fp) (hb : r.fl ≠ .bor) : SlotOk K B F' H' v r fp := by
  obtain ⟨fl, s⟩ := r
  cases fl with
  | own =>
    refine ⟨ro, nw.nd, fun a m => ⟨nw.nf a m, ?_⟩⟩
    by_cases hm : B.M a
    · exact .inr hm
    · cases q : B.H a with
      | none => exact .inl rfl
      | some o =>
        have z := h.hh a o hm q
        rw [nw.nh a m] at z
        cases z
  | par => exact ro
  | bor => exact absurd rfl hb
theorem EnvS.set {i : Nat} {v : V} {r : Rv} {fp : List Addr} (h : EnvS K B F H σ Γ) (t : Step F H F' H') (ro : Rok K (Sst B) F' H' v r fp) (nw : New F' H fp) (hb : r.fl ≠ .bor) (hp : B.pin.length ≤ i) : EnvS K B F' H' (σ.set i (some v)) (Γ.set i (some r)) := by
  obtain ⟨f, h1, h2⟩ := h.ex
  refine ⟨h.st.step t, by rw [List.length_set, List.length_set]; exact h.len, fun j w e => ?_, fun j => if j = i then fp else f j, fun j q e => ?_, fun j k q q' a hne e1 e2 m => ?_⟩
  · have hl := (List.getElem?_eq_some_iff.mp e).1
    rw [List.getElem?_set, if_neg (fun z => by omega)]
    exact h.pin j w e
  · rw [List.getElem?_set] at e ⊢
    by_cases hj : i = j
    · subst hj
      rw [if_pos rfl] at e ⊢
      by_cases hl : i < Γ.length
      · rw [if_pos hl] at e
        cases e
        rw [if_pos (by rw [h.len]; exact hl)]
        refine ⟨v, rfl, ?_⟩
        show SlotOk K B F' H' v r (if i = i then fp else f i)
        rw [if_pos rfl]
        exact slot_new h.st t ro nw hb
      · rw [if_neg hl] at e
        cases e
    · rw [if_neg hj] at e ⊢
      obtain ⟨w, a, b⟩ := h1 j q e
      refine ⟨w, a, ?_⟩
      show SlotOk K B F' H' w q (if j = i then fp else f j)
      rw [if_neg (Ne.symm hj)]
      exact b.step t
  · rw [List.getElem?_set] at e1 e2
    have m : a ∈ (if j = i then fp else f j) := m
    show a ∉ (if k = i then fp else f k)
    by_cases hj : j = i
    · have hk : k ≠ i := fun z => hne (hj.trans z.symm)
      rw [if_pos hj] at m
      rw [if_neg hk]
      rw [if_neg (Ne.symm hk)] at e2
      obtain ⟨w, a2, b⟩ := h1 k q' e2
      exact fun mk => b.dom a mk (nw.nh a m)
    · rw [if_neg hj] at m
      rw [if_neg (Ne.symm hj)] at e1
      by_cases hk : k = i
      · rw [if_pos hk]
        obtain ⟨w, a2, b⟩ := h1 j q e1
        exact fun mk => b.dom a m (nw.nh a mk)
      · rw [if_neg hk]
        rw [if_neg (Ne.symm hk)] at e2
        exact h2 j k q q' a hne e1 e2 m
/-- less is told -/
theorem EnvS.weak {Δ : Gm} (h : EnvS K B F H σ Γ) (l : Δ.length = Γ.length) (w : ∀ (i : Nat) (r : Rv), Δ[i]? = some (some r) → Γ[i]? = some (some r)) : EnvS K B F H σ Δ := by
  obtain ⟨f, h1, h2⟩ := h.ex
  exact ⟨h.st, h.len.trans l.symm, h.pin, f, fun i r e => h1 i r (w i r e), fun i j r r' a hne e1 e2 => h2 i j r r' a hne (w i r e1) (w j r' e2)⟩
theorem push_pin {v : V} (h : ∀ (i : Nat) (w : V), B.pin[i]? = some w → σ[i]? = some (some w)) : ∀ (i : Nat) (w : V), (B.push v).pin[i]? = some w → (some v :: σ)[i]? = some (some w)
  | 0, w, e => by
    have e : some v = some w := e
    cases e
    rfl
  | i + 1, w, e => h i w e
/-- the value as one slot more, in front -/
theorem EnvS.push {v : V} {r : Rv} {fp : List Addr} (h : EnvS K B F H σ Γ) (t : Step F H F' H') (ro : Rok K (Sst B) F' H' v r fp) (nw : New F' H fp) (hb : r.fl ≠ .bor) : EnvS K (B.push v) F' H' (some v :: σ) (some r :: Γ) := by
  obtain ⟨f, h1, h2⟩ := h.ex
  refine ⟨(h.st.step t).at_, by rw [List.length_cons, List.length_cons, h.len], push_pin h.pin, fun j => match j with | 0 => fp | j + 1 => f j, fun j q e => ?_, fun j k q q' a hne e1 e2 m => ?_⟩
  · cases j with
    | zero =>
      cases e
      exact ⟨v, rfl, (slot_new h.st t ro nw hb).at_⟩
    | succ j =>
      obtain ⟨w, a, b⟩ := h1 j q e
      exact ⟨w, a, (b.step t).at_⟩
  · cases j with
    | zero =>
      cases k with
      | zero => exact absurd rfl hne
      | succ k =>
        obtain ⟨w, a2, b⟩ := h1 k q' e2
        exact fun mk => b.dom a mk (nw.nh a m)
    | succ j =>
      cases k with
      | zero =>
        obtain ⟨w, a2, b⟩ := h1 j q e1
        exact fun mk => b.dom a m (nw.nh a mk)
      | succ k => exact h2 j k q q' a (fun z => hne (by rw [z])) e1 e2 m
/-- a slot's own value taken out, in front -/
theorem EnvS.move {i : Nat} {v : V} {r : Rv} (h : EnvS K B F H σ Γ) (e : Γ[i]? = some (some r)) (hv : σ[i]? = some (some v)) : EnvS K (B.push v) F H (some v :: σ) (some r :: Γ.set i none) := by
  obtain ⟨f, h1, h2⟩ := h.ex
  have drop : ∀ (j : Nat) (q : Rv), (Γ.set i none)[j]? = some (some q) → j ≠ i ∧ Γ[j]? = some (some q) := fun j q e => by
    rw [List.getElem?_set] at e
    by_cases hj : i = j
    · rw [if_pos hj] at e
      split at e <;> cases e
    · rw [if_neg hj] at e
      exact ⟨Ne.symm hj, e⟩
  refine ⟨h.st.at_, by rw [List.length_cons, List.length_cons, List.length_set, h.len], push_pin h.pin, fun j => match j with | 0 => f i | j + 1 => f j, fun j q e2 => ?_, fun j k q q' a hne e1 e2 m => ?_⟩
  · cases j with
    | zero =>
      cases e2
      obtain ⟨w, a, b⟩ := h1 i r e
      rw [hv] at a
      cases a
      exact ⟨v, rfl, b⟩
    | succ j => exact h1 j q (drop j q e2).2
  · cases j with
    | zero =>
      cases k with
      | zero => exact absurd rfl hne
      | succ k =>
        obtain ⟨n1, n2⟩ := drop k q' e2
        exact h2 i k r q' a (Ne.symm n1) e n2 m
    | succ j =>
      obtain ⟨n1, n2⟩ := drop j q e1
      cases k with
      | zero => exact h2 j i q r a n1 n2 e m
      | succ k => exact h2 j k q q' a (fun z => hne (by rw [z])) n2 (drop k q' e2).2 m
theorem EnvS.dropS {i : Nat} (h : EnvS K B F H σ Γ) : EnvS K B F H σ (Γ.set i none) :=
  h.weak (by rw [List.length_set]) fun j q e => by
    rw [List.getElem?_set] at e
    by_cases hj : i = j
    · rw [if_pos hj] at e
      split at e <;> cases e
    · rw [if_neg hj] at e
      exact e
end

/-! ### statements and their mirrors -/
inductive Oz where
  | nx (Γ : Gm) | rt (r : Rv) (Γ : Gm) | bk (Γ : Gm) | ct (Γ : Gm) | er (c : Str) (Γ : Gm) | no
abbrev MrS := Gm → Oz
def PostS (K : PySem.W.Frag) (B : Bs) (E : XK) (D : Ends) : Oz → Prop
  | .nx Γ => ∀ F H σ, EnvS K B F H σ Γ → D.nx σ H
  | .bk Γ => ∀ F H σ, EnvS K B F H σ Γ → D.bk σ H
  | .ct Γ => ∀ F H σ, EnvS K B F H σ Γ → D.ct σ H
  | .rt r Γ => ∀ v F H σ, EnvS K (B.push v) F H (some v :: σ) (some r :: Γ) → D.rt v H
  | .er c Γ => ∀ F H σ, EnvS K B F H σ Γ → E (.ref (He.ga K c)) none H
  | .no => False
def SimS (K : PySem.W.Frag) (E : XK) (np : Nat) (t : TS) (m : MrS) : Prop := ∀ (B : Bs) (F H : Hp) (σ : L2.St) (Γ : Gm) (D : Ends), B.pin.length ≤ np → EnvS K B F H σ Γ → PostS K B E D (m Γ) → t D σ H
structure PxS (X : Cx) (E : XK) (np : Nat) (st : Stmt) (m : MrS) (t : TS) : Prop where
  ps : PS X st t
  sim : SimS X.K E np t m
structure PxSs (X : Cx) (E : XK) (np : Nat) (st : List Stmt) (m : MrS) (t : TS) : Prop where
  ps : PSs X st t
  sim : SimS X.K E np t m

def sSeq (a b : MrS) : MrS := fun Γ => match a Γ with
  | .nx Γ' => b Γ'
  | z => z
def sSkip : MrS := fun Γ => .nx Γ
def sBrk : MrS := fun Γ => .bk Γ
def sCnt : MrS := fun Γ => .ct Γ
def sNo : MrS := fun _ => .no
def asg1 (i : Nat) (z : Rz Rv) (Γ : Gm) : Oz := match z with
  | .ok ⟨.bor, _⟩ => .no
  | .ok r => .nx (Γ.set i (some r))
  | .er c => .er c Γ
  | .no => .no
def sAsg (i : Nat) (m : Mr) : MrS := fun Γ => asg1 i (m Γ) Γ
def ret1 (z : Rz Rv) (Γ : Gm) : Oz := match z with
  | .ok ⟨.bor, _⟩ => .no
  | .ok r => .rt r Γ
  | .er c => .er c Γ
  | .no => .no
def sRet (m : Mr) : MrS := fun Γ => ret1 (m Γ) Γ
def sRetV (i : Nat) : MrS := fun Γ => match Γ[i]? with
  | some (some r) => .rt r (Γ.set i none)
  | _ => .no
def drop1 (z : Rz Rv) (Γ : Gm) : Oz := match z with
  | .ok _ => .nx Γ
  | .er c => .er c Γ
  | .no => .no
def sExp (m : Mr) : MrS := fun Γ => drop1 (m Γ) Γ
def sIf (c : MrT) (a b : MrS) : MrS := fun Γ => match c Γ with
  | .ok true => a Γ
  | .ok false => b Γ
  | .er c => .er c Γ
  | .no => .no
section
variable {K : PySem.W.Frag} {E : XK} {np : Nat} {t u : TS} {m m' : MrS}
theorem simS_seq (h : SimS K E np t m) (h' : SimS K E np u m') : SimS K E np (tSeq t u) (sSeq m m') := by
  intro B F H σ Γ D hp en p
  refine h B F H σ Γ _ hp en ?_
  have p0 : PostS K B E D (match m Γ with | .nx Γ' => m' Γ' | z => z) := p
  cases q : m Γ with
  | nx Γ' =>
    rw [q] at p0
    exact fun F' H' σ' en' => h' B F' H' σ' Γ' D hp en' p0
  | rt r Γ' =>
    rw [q] at p0
    exact p0
  | bk Γ' =>
    rw [q] at p0
    exact p0
  | ct Γ' =>
    rw [q] at p0
    exact p0
  | er c Γ' =>
    rw [q] at p0
    exact p0
  | no =>
    rw [q] at p0
    exact p0
theorem simS_skip : SimS K E np tNext sSkip := fun B F H σ Γ D hp en p => p F H σ en
theorem simS_brk : SimS K E np tBreak sBrk := fun B F H σ Γ D hp en p => p F H σ en
theorem simS_cnt : SimS K E np tCont sCnt := fun B F H σ Γ D hp en p => p F H σ en
theorem simS_no : SimS K E np tNever sNo := fun B F H σ Γ D hp en p => p.elim
theorem Sim.stm {te : TE} {me : Mr} (h : Sim K E te me) {B : Bs} {F H : Hp} {σ : L2.St} {Γ : Gm} (en : EnvS K B F H σ Γ) {R : VK}
    (he : ∀ c, me Γ = .er c → ∀ F' H', EnvS K B F' H' σ Γ → E (.ref (He.ga K c)) none H') (hn : me Γ ≠ .no)
    (step : ∀ r v F' H' fp, me Γ = .ok r → Step F H F' H' → Rok K (Sst B) F' H' v r fp → New F' H fp → R v H') : te σ H R := by
  refine h (Sst B) F H σ Γ R en.st.fh en.e ?_
  cases q : me Γ with
  | ok r => exact fun v F' H' fp st ro nw => step r v F' H' fp q st ro nw
  | er c => exact fun F' H' st => he c q F' H' (en.step st)
  | no => exact hn q
theorem asg1_nb {i : Nat} {r : Rv} {Γ : Gm} (h : r.fl ≠ .bor) : asg1 i (.ok r) Γ = .nx (Γ.set i (some r)) := by
  obtain ⟨fl, s⟩ := r
  cases fl with
  | own => rfl
  | par => rfl
  | bor => exact absurd rfl h
theorem asg1_b {i : Nat} {r : Rv} {Γ : Gm} (h : r.fl = .bor) : asg1 i (.ok r) Γ = .no := by
  obtain ⟨fl, s⟩ := r
  subst h
  rfl
theorem ret1_nb {r : Rv} {Γ : Gm} (h : r.fl ≠ .bor) : ret1 (.ok r) Γ = .rt r Γ := by
  obtain ⟨fl, s⟩ := r
  cases fl with
  | own => rfl
  | par => rfl
  | bor => exact absurd rfl h
theorem ret1_b {r : Rv} {Γ : Gm} (h : r.fl = .bor) : ret1 (.ok r) Γ = .no := by
  obtain ⟨fl, s⟩ := r
  subst h
  rfl
theorem simS_asg {i : Nat} {te : TE} {me : Mr} (hi : np ≤ i) (h : Sim K E te me) : SimS K E np (tAsg te (gName i)) (sAsg i me) := by
  intro B F H σ Γ D hp en p
  have p0 : PostS K B E D (asg1 i (me Γ) Γ) := p
  refine h.stm en (fun c q => by rw [q] at p0; exact fun F' H' en' => p0 F' H' σ en') (fun q => by rw [q] at p0; exact p0) fun r v F' H' fp q st ro nw => ?_
  rw [q] at p0
  by_cases hb : r.fl = .bor
  · rw [asg1_b hb] at p0
    exact p0.elim
  · rw [asg1_nb hb] at p0
    exact p0 F' H' _ (en.set st ro nw hb (Nat.le_trans hp hi))
theorem simS_ret {te : TE} {me : Mr} (h : Sim K E te me) : SimS K E np (tRet te) (sRet me) := by
  intro B F H σ Γ D hp en p
  have p0 : PostS K B E D (ret1 (me Γ) Γ) := p
  refine h.stm en (fun c q => by rw [q] at p0; exact fun F' H' en' => p0 F' H' σ en') (fun q => by rw [q] at p0; exact p0) fun r v F' H' fp q st ro nw => ?_
  rw [q] at p0
  by_cases hb : r.fl = .bor
  · rw [ret1_b hb] at p0
    exact p0.elim
  · rw [ret1_nb hb] at p0
    exact p0 v F' H' σ (en.push st ro nw hb)
theorem simS_retV {i : Nat} : SimS K E np (tRet (tVar i)) (sRetV i) := by
  intro B F H σ Γ D hp en p
  have p0 : PostS K B E D (match Γ[i]? with | some (some r) => .rt r (Γ.set i none) | _ => .no) := p
  cases q : Γ[i]? with
  | none =>
    rw [q] at p0
    exact p0.elim
  | some o =>
    cases o with
    | none =>
      rw [q] at p0
      exact p0.elim
    | some r =>
      rw [q] at p0
      obtain ⟨f, h1, _⟩ := en.ex
      obtain ⟨v, hv, _⟩ := h1 i r q
      exact ⟨v, hv, p0 v F H σ (en.move q hv)⟩
theorem simS_exp {te : TE} {me : Mr} (h : Sim K E te me) : SimS K E np (tDrop te) (sExp me) := by
  intro B F H σ Γ D hp en p
  have p0 : PostS K B E D (drop1 (me Γ) Γ) := p
  refine h.stm en (fun c q => by rw [q] at p0; exact fun F' H' en' => p0 F' H' σ en') (fun q => by rw [q] at p0; exact p0) fun r v F' H' fp q st ro nw => ?_
  rw [q] at p0
  exact p0 F' H' σ (en.step st)
theorem simS_if {tc : TT} {mc : MrT} (hc : SimT K E tc mc) (h : SimS K E np t m) (h' : SimS K E np u m') : SimS K E np (tIfS tc t u) (sIf mc m m') := by
  intro B F H σ Γ D hp en p
  have p0 : PostS K B E D (match mc Γ with | .ok true => m Γ | .ok false => m' Γ | .er c => .er c Γ | .no => .no) := p
  refine hc.bind en.st.fh en.e (fun c q => by rw [q] at p0; exact fun F' H' st => p0 F' H' σ (en.step st)) (fun q => by rw [q] at p0; exact p0) fun b F' H' q st => ?_
  rw [q] at p0
  cases b with
  | true => exact iteT (h B F' H' σ Γ D hp (en.step st) p0)
  | false => exact iteF (h' B F' H' σ Γ D hp (en.step st) p0)
end
section
variable {X : Cx} {E : XK} {np : Nat} {st : Stmt} {rest body els : List Stmt} {m m' : MrS} {t u : TS} {e c : Expr} {me : Mr} {te : TE} {mc : MrT} {tc : TT} {pos pos' : Pos} {x : Str}
theorem pxs_nil : PxSs X E np [] sSkip tNext := ⟨pss_nil, simS_skip⟩
theorem pxs_cons (h : PxS X E np st m t) (h' : PxSs X E np rest m' u) : PxSs X E np (st :: rest) (sSeq m m') (tSeq t u) := ⟨pss_cons h.ps h'.ps, simS_seq h.sim h'.sim⟩
theorem pxs_one (h : PxS X E np st m t) : PxSs X E np [st] m t := ⟨pss_one h.ps, h.sim⟩
theorem pxs_pass : PxS X E np (.Pass pos) sSkip tNext := ⟨ps_pass, simS_skip⟩
theorem pxs_brk : PxS X E np (.Break pos) sBrk tBreak := ⟨ps_break, simS_brk⟩
theorem pxs_cnt : PxS X E np (.Continue pos) sCnt tCont := ⟨ps_continue, simS_cnt⟩
theorem pxs_no : PxS X E np st sNo tNever := ⟨ps_never, simS_no⟩
theorem pxs_asg {i : Nat} (hN : X.N.Nodup) (hi : X.N[i]? = some x) (hx : Loc X.env.scope x) (he : Px X E e me te) (hnp : np ≤ i := by decide) (hs : swapsWith e (some (.Name x pos')) pos.line X.env = pure false := by rfl) (hf : X.fn x = true ∨ X.env.scope.names.lookup x = some .local := by first | exact .inl rfl | exact .inr rfl | assumption) :
    PxS X E np (.Assign [.Name x pos'] e pos) (sAsg i me) (tAsg te (gName i)) := ⟨ps_set hN hi hx he.pe hs hf, simS_asg hnp he.sim⟩
theorem pxs_ret (he : Px X E e me te) : PxS X E np (.Return (some e) pos) (sRet me) (tRet te) := ⟨ps_ret he.pe, simS_ret he.sim⟩
theorem pxs_retV (i : Nat) (hN : X.N[i]? = some x := by rfl) (hv : Vis X.env.scope x := by first | exact Or.inl rfl | exact Or.inr (Or.inl rfl) | exact Or.inr (Or.inr rfl)) (hd : (x == ("__debug__" : Str)) = false := by decide)
    (hcd : (x == ("__classdict__" : Str)) = false := by decide) : PxS X E np (.Return (some (.Name x pos')) pos) (sRetV i) (tRet (tVar i)) := ⟨ps_ret (pe_var hN hv hd hcd), simS_retV⟩
theorem pxs_exp (he : Px X E e me te) (hs : swapsWith e none pos.line X.env = pure false := by rfl) : PxS X E np (.Expr e pos) (sExp me) (tDrop te) := ⟨ps_expr he.pe hs, simS_exp he.sim⟩
theorem pxs_if (hc : PxT X E c mc tc) (h : PxSs X E np body m t) (h' : PxSs X E np els m' u) : PxS X E np (.If c body els pos) (sIf mc m m') (tIfS tc t u) := ⟨ps_if hc.pt h.ps h'.ps, simS_if hc.sim h.sim h'.sim⟩
end
end Pf

/-! Pf8: loops, assignments to several names, list methods, a def's body. -/
namespace Pf
open PySem L2

section
variable {K : PySem.W.Frag} {B : Bs} {E : XK} {F H F' H' F1 H1 F2 H2 : Hp} {σ : L2.St} {Γ : Gm}
/-- from here on: what is owned now may change, all else stays -/
theorem EnvS.rebase (h : EnvS K B F H σ Γ) : ∃ B' : Bs, B'.F = F ∧ B'.H = H ∧ B'.S = B.S ∧ B'.pin = B.pin ∧ EnvS K B' F H σ Γ ∧ ∀ F' H' σ' Γ' ps, EnvS K (B'.at_ ps) F' H' σ' Γ' → EnvS K (B.at_ ps) F' H' σ' Γ' := by
  obtain ⟨fp, h1, h2⟩ := h.ex
  have st := h.st
  have inS : ∀ a, B.S a → H a ≠ none := fun a s => by
    obtain ⟨s1, s2⟩ := st.hS a s
    cases q : B.H a with
    | none => exact absurd q s1
    | some o =>
      rw [st.hh a o s2 q]
      exact fun z => by cases z
  have ownM : ∀ i r a, Γ[i]? = some (some r) → a ∈ fp i → (B.H a = none ∨ B.M a) := fun i r a e m => by
    obtain ⟨v, _, so⟩ := h1 i r e
    obtain ⟨fl, s⟩ := r
    cases fl with
    | own => exact (so.2.2 a m).2
    | par =>
      rw [so.1] at m
      cases m
    | bor => exact so.elim
  refine ⟨⟨F, H, fun a => ∃ i r, Γ[i]? = some (some r) ∧ a ∈ fp i, B.S, B.pin⟩, rfl, rfl, rfl, rfl, ⟨⟨Same.refl F, st.fh, fun _ _ _ z => z, fun _ _ _ z => z, fun a s => ⟨inS a s, fun ⟨i, r, e, m⟩ => ?_⟩⟩, h.len, h.pin, fp, fun i r e => ?_, h2⟩, fun F' H' σ' Γ' ps h' => ?_⟩
  · obtain ⟨s1, s2⟩ := st.hS a s
    rcases ownM i r a e m with z | z
    · exact s1 z
    · exact s2 z
  · obtain ⟨v, hv, so⟩ := h1 i r e
    refine ⟨v, hv, ?_⟩
    obtain ⟨fl, s⟩ := r
    cases fl with
    | own => exact ⟨so.1, so.2.1, fun a m => ⟨(so.2.2 a m).1, .inr ⟨i, _, e, m⟩⟩⟩
    | par => exact so
    | bor => exact so
  · obtain ⟨fq, k1, k2⟩ := h'.ex
    have st' := h'.st
    have nM : ∀ a, ¬ B.M a → B.H a ≠ none → ¬ ∃ i r, Γ[i]? = some (some r) ∧ a ∈ fp i := fun a m1 m2 ⟨i, r, e, m⟩ => (ownM i r a e m).elim m2 m1
    refine ⟨⟨st.ff.trans st'.ff, st'.fh, fun a o m q => st'.hh a o (nM a m (fun z => by rw [show B.H a = some o from q] at z; cases z)) (st.hh a o m q), fun a m n f => st'.nw a (nM a m n) (by
      cases q : B.H a with
      | none => exact absurd q n
      | some o =>
        show H a ≠ none
        rw [st.hh a o m q]
        exact fun z => by cases z) (st.nw a m n f), st.hS⟩, h'.len, h'.pin, fq, fun i r e => ?_, k2⟩
    obtain ⟨v, hv, so⟩ := k1 i r e
    refine ⟨v, hv, ?_⟩
    obtain ⟨fl, s⟩ := r
    cases fl with
    | own =>
      refine ⟨so.1, so.2.1, fun a m => ⟨(so.2.2 a m).1, ?_⟩⟩
      rcases (so.2.2 a m).2 with z | ⟨j, r', e', m'⟩
      · by_cases hm : B.M a
        · exact .inr hm
        · cases q : B.H a with
          | none => exact .inl q
          | some o =>
            have w := st.hh a o hm q
            rw [show H a = none from z] at w
            cases w
      · exact ownM j r' a e' m'
    | par => exact so
    | bor => exact so
theorem EnvS.asg : ∀ (is : List Nat) {σ : L2.St} {Γ : Gm} {xs : List V} {ds : List PyData}, (∀ i ∈ is, B.pin.length ≤ i) → EnvS K B F H σ Γ → DqAll F xs ds → EnvS K B F H (asgs is xs σ) (asgG is ds Γ)
  | [], _, _, _, _, _, h, _ => h
  | i :: is, _, _, _, _, _, h, .nil => h
  | i :: is, _, _, _, _, hp, h, .cons a b => EnvS.asg is (fun j m => hp j (List.mem_cons_of_mem _ m)) (h.set (Step.refl h.st.fh) (Rok.dat a) New.nil (fun z => by cases z) (hp i List.mem_cons_self)) b
end

/-! ### for -/
def floop (un : PyData → Option (List PyData)) (is : List Nat) (body : MrS) : List PyData → Gm → Oz
  | [], Γ => .nx Γ
  | d :: ds, Γ => match un d with
    | none => .no
    | some es => match body (asgG is es Γ) with
      | .nx Γ' => floop un is body ds Γ'
      | .ct Γ' => floop un is body ds Γ'
      | .bk Γ' => .nx Γ'
      | .rt r Γ' => .rt r Γ'
      | .er c Γ' => .er c Γ'
      | .no => .no
def sFor (mi : MrI) (un : PyData → Option (List PyData)) (is : List Nat) (body : MrS) : MrS := fun Γ => match mi Γ with
  | .ok (true, ds) => floop un is body ds Γ
  | .ok (false, _) => .no
  | .er c => .er c Γ
  | .no => .no
section
variable {K : PySem.W.Frag} {E : XK} {np : Nat} {t u : TS} {m m' : MrS}
theorem simS_for {wi : TI} {g : TG} {tb : TS} {is : List Nat} {un : PyData → Option (List PyData)} {mi : MrI} {body : MrS} (hi : SimI K E wi mi) (hg : TgOk K g is un) (hb : SimS K E np tb body) (hn : ∀ i ∈ is, np ≤ i) : SimS K E np (tFor wi g tb) (sFor mi un is body) := by
  intro B F H σ Γ D hp en p
  have p0 : PostS K B E D (match mi Γ with | .ok (true, ds) => floop un is body ds Γ | .ok (false, _) => .no | .er c => .er c Γ | .no => .no) := p
  refine hi B.S F H σ Γ _ en.st.fh en.e ?_
  cases q : mi Γ with
  | no =>
    rw [q] at p0
    exact p0
  | er c =>
    rw [q] at p0
    exact fun F' H' st => p0 F' H' σ (en.step st)
  | ok bd =>
    obtain ⟨b, ds⟩ := bd
    rw [q] at p0
    cases b with
    | false => exact p0.elim
    | true =>
      intro J F1 H1 C st hC hS it
      have p1 : PostS K B E D (floop un is body ds Γ) := p0
      obtain ⟨B', e1, e2, e3, e5, en', back⟩ := (en.step st).rebase
      have back0 : ∀ F' H' σ' Γ', EnvS K B' F' H' σ' Γ' → EnvS K B F' H' σ' Γ' := fun F' H' σ' Γ' z => back F' H' σ' Γ' B.pin (by rw [← e5]; exact z)
      have backv : ∀ v F' H' σ' Γ', EnvS K (B'.push v) F' H' σ' Γ' → EnvS K (B.push v) F' H' σ' Γ' := fun v F' H' σ' Γ' z => back F' H' σ' Γ' (v :: B.pin) (by rw [← e5]; exact z)
      refine ⟨fun i m σ' H' => m = ds.length - i ∧ i ≤ ds.length ∧ ∃ F' Γ', EnvS K B' F' H' σ' Γ' ∧ PostS K B E D (floop un is body (ds.drop i) Γ'), ⟨ds.length, by simp, Nat.zero_le _, F1, Γ, en', p1⟩, ?_⟩
      rintro i m σ' H' ⟨rfl, hi', F', Γ', en2, p2⟩
      have ff : Same F1 F' := by
        have z := en2.st.ff
        rw [e1] at z
        exact z
      have hC' : ∀ c ∈ C, H' c.1 = some c.2 := fun c mc => by
        have s := hS rfl c mc
        have z := en2.st.hS c.1 (by rw [e3]; exact s)
        exact en2.st.hh c.1 c.2 z.2 (by rw [e2]; exact hC c mc)
      by_cases hlt : i < ds.length
      · refine .inr ⟨it.go i F' H' ff en2.st.fh hC' hlt, _, fun _ _ z => z, ?_⟩
        intro x H2 y
        obtain ⟨d, F2, hd, st2, dp⟩ := it.yld i F' H' x H2 ff en2.st.fh hC' hlt y
        have hdr : ds.drop i = d :: ds.drop (i + 1) := by
          rw [List.drop_eq_getElem_cons hlt]
          rw [List.getElem?_eq_getElem hlt] at hd
          rw [Option.some.inj hd]
        rw [hdr, floop] at p2
        cases qu : un d with
        | none =>
          rw [qu] at p2
          exact p2.elim
        | some es =>
          rw [qu] at p2
          have p3 : PostS K B E D (match body (asgG is es Γ') with
            | .nx Γ' => floop un is body (ds.drop (i + 1)) Γ'
            | .ct Γ' => floop un is body (ds.drop (i + 1)) Γ'
            | .bk Γ' => .nx Γ'
            | .rt r Γ' => .rt r Γ'
            | .er c Γ' => .er c Γ'
            | .no => .no) := p2
          refine hg.run F2 H2 σ' x d es _ st2.fh dp qu fun xs all => ?_
          have hp' : B'.pin.length ≤ np := by rw [e5]; exact hp
          refine hb B' F2 H2 _ _ _ hp' ((en2.step st2).asg is (fun i m => Nat.le_trans hp' (hn i m)) all) ?_
          cases qb : body (asgG is es Γ') with
          | no =>
            rw [qb] at p3
            exact p3
          | nx Γ2 =>
            rw [qb] at p3
            exact fun F3 H3 σ3 en3 => ⟨_, by omega, rfl, hlt, F3, Γ2, en3, p3⟩
          | ct Γ2 =>
            rw [qb] at p3
            exact fun F3 H3 σ3 en3 => ⟨_, by omega, rfl, hlt, F3, Γ2, en3, p3⟩
          | bk Γ2 =>
            rw [qb] at p3
            exact fun F3 H3 σ3 en3 => p3 F3 H3 σ3 (back0 _ _ _ _ en3)
          | rt r Γ2 =>
            rw [qb] at p3
            exact fun v F3 H3 σ3 en3 => p3 v F3 H3 σ3 (backv _ _ _ _ _ en3)
          | er c Γ2 =>
            rw [qb] at p3
            exact fun F3 H3 σ3 en3 => p3 F3 H3 σ3 (back0 _ _ _ _ en3)
      · have e4 : i = ds.length := by omega
        subst e4
        rw [List.drop_length] at p2
        exact .inl ⟨it.stop _ F' H' ff en2.st.fh hC' (Nat.le_refl _), p2 F' H' σ' (back0 _ _ _ _ en2)⟩

/-! ### while -/
def wloop (c : MrT) (body : MrS) : Nat → Gm → Oz
  | 0, _ => .no
  | n + 1, Γ => match c Γ with
    | .ok true => (match body Γ with
      | .nx Γ' => wloop c body n Γ'
      | .ct Γ' => wloop c body n Γ'
      | .bk Γ' => .nx Γ'
      | .rt r Γ' => .rt r Γ'
      | .er c Γ' => .er c Γ'
      | .no => .no)
    | .ok false => .nx Γ
    | .er c => .er c Γ
    | .no => .no
theorem simS_while {n : Nat} {tc : TT} {tb : TS} {mc : MrT} {body : MrS} (hc : SimT K E tc mc) (hb : SimS K E np tb body) : SimS K E np (tWhile tc tb) (wloop mc body n) := by
  intro B F H σ Γ D hp en p
  refine ⟨fun k σ' H' => ∃ F' Γ', EnvS K B F' H' σ' Γ' ∧ PostS K B E D (wloop mc body k Γ'), ⟨n, F, Γ, en, p⟩, ?_⟩
  rintro k σ' H' ⟨F', Γ', en2, p2⟩
  cases k with
  | zero => exact p2.elim
  | succ k =>
    have p3 : PostS K B E D (match mc Γ' with
      | .ok true => (match body Γ' with
        | .nx Γ' => wloop mc body k Γ'
        | .ct Γ' => wloop mc body k Γ'
        | .bk Γ' => .nx Γ'
        | .rt r Γ' => .rt r Γ'
        | .er c Γ' => .er c Γ'
        | .no => .no)
      | .ok false => .nx Γ'
      | .er c => .er c Γ'
      | .no => .no) := p2
    refine hc.bind en2.st.fh en2.e (fun c q => by rw [q] at p3; exact fun F3 H3 st => p3 F3 H3 σ' (en2.step st)) (fun q => by rw [q] at p3; exact p3) fun b F3 H3 q st => ?_
    rw [q] at p3
    cases b with
    | false => exact iteF (p3 F3 H3 σ' (en2.step st))
    | true =>
      refine iteT ⟨_, fun _ _ z => z, ?_⟩
      refine hb B F3 H3 σ' Γ' _ hp (en2.step st) ?_
      have p4 : PostS K B E D (match body Γ' with
        | .nx Γ' => wloop mc body k Γ'
        | .ct Γ' => wloop mc body k Γ'
        | .bk Γ' => .nx Γ'
        | .rt r Γ' => .rt r Γ'
        | .er c Γ' => .er c Γ'
        | .no => .no) := p3
      cases qb : body Γ' with
      | no =>
        rw [qb] at p4
        exact p4
      | nx Γ2 =>
        rw [qb] at p4
        exact fun F4 H4 σ4 en4 => ⟨k, Nat.lt_succ_self k, F4, Γ2, en4, p4⟩
      | ct Γ2 =>
        rw [qb] at p4
        exact fun F4 H4 σ4 en4 => ⟨k, Nat.lt_succ_self k, F4, Γ2, en4, p4⟩
      | bk Γ2 =>
        rw [qb] at p4
        exact p4
      | rt r Γ2 =>
        rw [qb] at p4
        exact p4
      | er c Γ2 =>
        rw [qb] at p4
        exact p4
end
section
variable {X : Cx} {E : XK} {np : Nat} {st : Stmt} {rest body els : List Stmt} {m m' : MrS} {t u : TS} {e c tg iter : Expr} {me : Mr} {te : TE} {mc : MrT} {tc : TT} {pos pos' : Pos} {x : Str}
theorem pxs_for {wi : TI} {g : TG} {is : List Nat} {un : PyData → Option (List PyData)} {mi : MrI} (hp : PassesOwn (model X.prog X.w) X.A X.env X.xe) (hc : X.calm = true) (hi : PxI X E tg iter mi wi) (hg : PxG X tg is un g) (hb : PxSs X E np body m t)
    (hn : ∀ i ∈ is, np ≤ i := by decide) (hs : ∀ x, foldedSetIterable iter X.env x = pure x := by intro _; rfl) : PxS X E np (.For tg iter body [] pos) (sFor mi un is m) (tFor wi g t) := ⟨ps_for hp hc hi.pi hg.pg hb.ps hs, simS_for hi.sim hg.ok hb.sim hn⟩
theorem pxs_while {n : Nat} (hp : PassesOwn (model X.prog X.w) X.A X.env X.xe) (hc : PxT X E c mc tc) (hb : PxSs X E np body m t) : PxS X E np (.While c body [] pos) (wloop mc m n) (tWhile tc t) := ⟨ps_while hp hc.pt hb.ps, simS_while hc.sim hb.sim⟩
end
end Pf

/-! Pf9: several names at once, lists that change, new objects, refusals, a def's body. -/
namespace Pf
open PySem L2

/-! ### several slots at once -/
structure EnvR (K : PySem.W.Frag) (B : Bs) (F H : Hp) (σ : L2.St) (Γ : Gm) (R : List Addr) : Prop where
  st : StepB B F H
  len : σ.length = Γ.length
  pin : ∀ (i : Nat) (v : V), B.pin[i]? = some v → σ[i]? = some (some v)
  ex : ∃ fp : Nat → List Addr, (∀ (i : Nat) (r : Rv), Γ[i]? = some (some r) → ∃ v, σ[i]? = some (some v) ∧ SlotOk K B F H v r (fp i)) ∧
    (∀ (i j : Nat) (r r' : Rv) (a : Addr), i ≠ j → Γ[i]? = some (some r) → Γ[j]? = some (some r') → a ∈ fp i → a ∉ fp j) ∧
    ∀ (i : Nat) (r : Rv) (a : Addr), Γ[i]? = some (some r) → a ∈ fp i → a ∉ R
def asgR : List Nat → List Rv → Gm → Gm
  | i :: is, r :: rs, Γ => asgR is rs (Γ.set i (some r))
  | _, _, Γ => Γ
section
variable {K : PySem.W.Frag} {B : Bs} {E : XK} {F H F' H' F1 H1 F2 H2 : Hp} {σ : L2.St} {Γ : Gm} {R fp fq : List Addr}
theorem EnvR.s (h : EnvR K B F H σ Γ R) : EnvS K B F H σ Γ := ⟨h.st, h.len, h.pin, let ⟨f, a, b, _⟩ := h.ex; ⟨f, a, b⟩⟩
theorem EnvS.r (h : EnvS K B F H σ Γ) (t : Step F H F' H') (nw : New F' H R) : EnvR K B F' H' σ Γ R := by
  have h2 := h.step t
  obtain ⟨f, a, b⟩ := h.ex
  refine ⟨h2.st, h.len, h.pin, f, fun i r e => let ⟨v, x, y⟩ := a i r e; ⟨v, x, y.step t⟩, b, fun i r c e m mr => ?_⟩
  obtain ⟨v, _, so⟩ := a i r e
  exact so.dom c m (nw.nh c mr)
theorem EnvR.set {i : Nat} {v : V} {r : Rv} (h : EnvR K B F H σ Γ (fp ++ R)) (nd : (fp ++ R).Nodup) (so : SlotOk K B F H v r fp) (hp : B.pin.length ≤ i) : EnvR K B F H (σ.set i (some v)) (Γ.set i (some r)) R := by
  obtain ⟨f, h1, h2, h3⟩ := h.ex
  obtain ⟨n1, n2, n3⟩ := List.nodup_append.mp nd
  refine ⟨h.st, by rw [List.length_set, List.length_set]; exact h.len, fun j w e => ?_, fun j => if j = i then fp else f j, fun j q e => ?_, fun j k q q' a hne e1 e2 m => ?_, fun j q a e m mr => ?_⟩
  · have hl := (List.getElem?_eq_some_iff.mp e).1
    rw [List.getElem?_set, if_neg (fun z => by omega)]
    exact h.pin j w e
  · rw [List.getElem?_set] at e ⊢
    by_cases hj : i = j
    · subst hj
      rw [if_pos rfl] at e ⊢
      by_cases hl : i < Γ.length
      · rw [if_pos hl] at e
        cases e
        rw [if_pos (by rw [h.len]; exact hl)]
        refine ⟨v, rfl, ?_⟩
        show SlotOk K B F H v r (if i = i then fp else f i)
        rw [if_pos rfl]
        exact so
      · rw [if_neg hl] at e
        cases e
    · rw [if_neg hj] at e ⊢
      obtain ⟨w, a, b⟩ := h1 j q e
      refine ⟨w, a, ?_⟩
      show SlotOk K B F H w q (if j = i then fp else f j)
      rw [if_neg (Ne.symm hj)]
      exact b
  · rw [List.getElem?_set] at e1 e2
    have m : a ∈ (if j = i then fp else f j) := m
    show a ∉ (if k = i then fp else f k)
    by_cases hj : j = i
    · have hk : k ≠ i := fun z => hne (hj.trans z.symm)
      rw [if_pos hj] at m
      rw [if_neg hk]
      rw [if_neg (Ne.symm hk)] at e2
      exact fun mk => h3 k q' a e2 mk (List.mem_append_left _ m)
    · rw [if_neg hj] at m
      rw [if_neg (Ne.symm hj)] at e1
      by_cases hk : k = i
      · rw [if_pos hk]
        exact fun mk => h3 j q a e1 m (List.mem_append_left _ mk)
      · rw [if_neg hk]
        rw [if_neg (Ne.symm hk)] at e2
        exact h2 j k q q' a hne e1 e2 m
  · have m : a ∈ (if j = i then fp else f j) := m
    by_cases hj : j = i
    · rw [if_pos hj] at m
      exact n3 a m a mr rfl
    · rw [if_neg hj] at m
      rw [List.getElem?_set, if_neg (Ne.symm hj)] at e
      exact h3 j q a e m (List.mem_append_right _ mr)
def FitB (B : Bs) (F : Hp) (fp : List Addr) : Prop := ∀ a ∈ fp, F a = none ∧ (B.H a = none ∨ B.M a)
theorem fit_new (st : StepB B F H) (nw : New F' H fp) : FitB B F' fp := fun a m => ⟨nw.nf a m, by
  by_cases hm : B.M a
  · exact .inr hm
  · cases q : B.H a with
    | none => exact .inl rfl
    | some o =>
      have z := st.hh a o hm q
      rw [nw.nh a m] at z
      cases z⟩
theorem rok_slot {v : V} {r : Rv} (ro : Rok K (Sst B) F H v r fp) (hb : r.fl ≠ .bor) (nd : fp.Nodup) (ft : FitB B F fp) : SlotOk K B F H v r fp := by
  obtain ⟨fl, s⟩ := r
  cases fl with
  | own => exact ⟨ro, nd, ft⟩
  | par => exact ro
  | bor => exact absurd rfl hb
theorem EnvR.sets : ∀ (is : List Nat) {σ : L2.St} {Γ : Gm} {vs : List V} {rs : List Rv} {fp : List Addr}, (∀ i ∈ is, B.pin.length ≤ i) → Roks K (Sst B) F H vs rs fp → (∀ r ∈ rs, r.fl ≠ .bor) → FitB B F fp → fp.Nodup → EnvR K B F H σ Γ fp → EnvS K B F H (asgs is vs σ) (asgR is rs Γ)
  | [], _, _, _, _, _, _, _, _, _, _, h => h.s
  | _ :: _, _, _, _, _, _, _, .nil, _, _, _, h => h.s
  | i :: is, _, _, _, _, _, hp, .cons (fp := fp) (fq := fq) ro rs, hb, ft, nd, h =>
    EnvR.sets is (fun j m => hp j (List.mem_cons_of_mem _ m)) rs (fun r m => hb r (List.mem_cons_of_mem _ m)) (fun a m => ft a (List.mem_append_right _ m)) (List.nodup_append.mp nd).2.1
      (h.set nd (rok_slot ro (hb _ List.mem_cons_self) (List.nodup_append.mp nd).1 (fun a m => ft a (List.mem_append_left _ m))) (hp i List.mem_cons_self))
theorem owAll_roks {S : Addr → Prop} : ∀ {vs : List V} {ss : List Sl} {fp : List Addr}, OwAll K F H vs ss fp → Roks K S F H vs (ss.map fun s => ⟨.own, s⟩) fp
  | _, _, _, .nil => .nil
  | _, _, _, .cons h t => .cons h (owAll_roks t)
theorem dpAll_roks {S : Addr → Prop} : ∀ {vs : List V} {ds : List PyData}, DqAll F vs ds → Roks K S F H vs (ds.map fun d => ⟨.own, .dat d⟩) []
  | _, _, .nil => .nil
  | _, _, .cons h t => .cons (fp := []) (Rok.dat h) (dpAll_roks t)
end
def nbor (rs : List Rv) : Bool := rs.all fun r => match r.fl with
  | .bor => false
  | _ => true
theorem nbor_ok {rs : List Rv} (h : nbor rs = true) : ∀ r ∈ rs, r.fl ≠ .bor := fun r m e => by
  have z := List.all_eq_true.mp h r m
  rw [e] at z
  cases z
def par1 (is : List Nat) (z : Rz (List Rv)) (Γ : Gm) : Oz := match z with
  | .ok rs => if nbor rs = true ∧ rs.length = is.length then .nx (asgR is rs Γ) else .no
  | .er c => .er c Γ
  | .no => .no
def sPar (is : List Nat) (m : MrA) : MrS := fun Γ => par1 is (m Γ) Γ
def unp (n : Nat) (r : Rv) : Option (List Rv) := match r with
  | ⟨_, .dat (.tuple ds)⟩ => if ds.length = n then some (ds.map fun d => ⟨.own, .dat d⟩) else none
  | ⟨.own, .node .T xs⟩ => if xs.length = n then some (xs.map fun s => ⟨.own, s⟩) else none
  | _ => none
def unp1 (is : List Nat) (z : Rz Rv) (Γ : Gm) : Oz := match z with
  | .ok r => (match unp is.length r with
    | some rs => .nx (asgR is rs Γ)
    | none => .no)
  | .er c => .er c Γ
  | .no => .no
def sUnp (is : List Nat) (m : Mr) : MrS := fun Γ => unp1 is (m Γ) Γ
section
variable {K : PySem.W.Frag} {E : XK} {np : Nat}
theorem SimA.stm {te : TA} {me : MrA} (h : SimA K E te me) {B : Bs} {F H : Hp} {σ : L2.St} {Γ : Gm} (en : EnvS K B F H σ Γ) {R : List V → Hp → Prop}
    (he : ∀ c, me Γ = .er c → ∀ F' H', EnvS K B F' H' σ Γ → E (.ref (He.ga K c)) none H') (hn : me Γ ≠ .no)
    (step : ∀ rs vs F' H' fp, me Γ = .ok rs → Step F H F' H' → Roks K (Sst B) F' H' vs rs fp → New F' H fp → R vs H') : te σ H R := by
  refine h (Sst B) F H σ Γ R en.st.fh en.e ?_
  cases q : me Γ with
  | ok r => exact fun v F' H' fp st ro nw => step r v F' H' fp q st ro nw
  | er c => exact fun F' H' st => he c q F' H' (en.step st)
  | no => exact hn q
theorem roks_len {S : Addr → Prop} {F H : Hp} : ∀ {vs : List V} {rs : List Rv} {fp : List Addr}, Roks K S F H vs rs fp → vs.length = rs.length
  | _, _, _, .nil => rfl
  | _, _, _, .cons _ t => by rw [List.length_cons, List.length_cons, roks_len t]
theorem simS_par {is : List Nat} {te : TA} {me : MrA} (hi : ∀ i ∈ is, np ≤ i) (h : SimA K E te me) {t : TS} (Rt : Ends → L2.St → List V → Hp → Prop) (ht : ∀ D σ H, te σ H (Rt D σ) → t D σ H) (hr : ∀ D σ vs H1, vs.length = is.length → D.nx (asgs is vs σ) H1 → Rt D σ vs H1) : SimS K E np t (sPar is me) := by
  intro B F H σ Γ D hp en p
  have p0 : PostS K B E D (par1 is (me Γ) Γ) := p
  refine ht D σ H (h.stm en (fun c q => by rw [q] at p0; exact fun F' H' en' => p0 F' H' σ en') (fun q => by rw [q] at p0; exact p0) fun rs vs F' H' fp q st ro nw => ?_)
  rw [q] at p0
  have p1 : PostS K B E D (if nbor rs = true ∧ rs.length = is.length then .nx (asgR is rs Γ) else .no) := p0
  by_cases hb : nbor rs = true ∧ rs.length = is.length
  · rw [if_pos hb] at p1
    exact hr D σ vs H' (by rw [roks_len ro, hb.2]) (p1 F' H' _ (EnvR.sets is (fun i m => Nat.le_trans hp (hi i m)) ro (nbor_ok hb.1) (fit_new en.st nw) nw.nd (en.r st nw)))
  · rw [if_neg hb] at p1
    exact p1.elim
theorem simS_unp {is : List Nat} {te : TE} {me : Mr} {n : Nat} (hi : ∀ i ∈ is, np ≤ i) (hn : n = is.length) (h : Sim K E te me) : SimS K E np (tAsg te (gTup K n (gNames is))) (sUnp is me) := by
  subst hn
  intro B F H σ Γ D hp en p
  have p0 : PostS K B E D (unp1 is (me Γ) Γ) := p
  refine h.stm en (fun c q => by rw [q] at p0; exact fun F' H' en' => p0 F' H' σ en') (fun q => by rw [q] at p0; exact p0) fun r v F' H' fp q st ro nw => ?_
  rw [q] at p0
  have p1 : PostS K B E D (match unp is.length r with | some rs => .nx (asgR is rs Γ) | none => .no) := p0
  have hp2 : ∀ i ∈ is, B.pin.length ≤ i := fun i m => Nat.le_trans hp (hi i m)
  obtain ⟨fl, s⟩ := r
  cases s with
  | dat d =>
    obtain ⟨fq, o⟩ := ro.ow
    cases o with
    | dat hd =>
      cases hd with
      | tup sq all =>
        rename_i a xs ds
        have p2 : PostS K B E D (match (if ds.length = is.length then some (ds.map fun d => (⟨.own, .dat d⟩ : Rv)) else none) with | some rs => .nx (asgR is rs Γ) | none => .no) := by
          cases fl <;> exact p1
        by_cases hl : ds.length = is.length
        · rw [if_pos hl] at p2
          have l2 := dpAll_len all
          refine ⟨a, xs, rfl, sqT_mono st.fh (SqT.of sq), by rw [l2, hl], gNames_run is xs σ (by rw [l2, hl]) (p2 F' H' _ ?_)⟩
          exact EnvR.sets is hp2 (dpAll_roks all) (fun r m => by
            obtain ⟨d, _, rfl⟩ := List.mem_map.mp m
            exact fun z => by cases z) (fun a m => by cases m) List.nodup_nil (en.r st New.nil)
        · rw [if_neg hl] at p2
          exact p2.elim
      | _ => cases fl <;> exact p1.elim
  | node k xs =>
    cases fl with
    | par => cases k <;> exact p1.elim
    | bor => cases k <;> exact p1.elim
    | own =>
      cases k with
      | T =>
        have p2 : PostS K B E D (match (if xs.length = is.length then some (xs.map fun s => (⟨.own, s⟩ : Rv)) else none) with | some rs => .nx (asgR is rs Γ) | none => .no) := p1
        by_cases hl : xs.length = is.length
        · rw [if_pos hl] at p2
          have o' : Ow K F' H' v (.node .T xs) fp := ro
          cases o' with
          | node ha sh t =>
            have sh' : _ = HO.tup _ := sh
            subst sh'
            rename_i a vs fp'
            have l2 := owAll_len t
            refine ⟨a, vs, rfl, SqT.of ha, by rw [l2, hl], gNames_run is vs σ (by rw [l2, hl]) (p2 F' H' _ ?_)⟩
            have nw' : New F' H fp' := ⟨(List.nodup_cons.mp nw.nd).2, fun b m => nw.nf b (List.mem_cons_of_mem _ m), fun b m => nw.nh b (List.mem_cons_of_mem _ m)⟩
            exact EnvR.sets is hp2 (owAll_roks t) (fun r m => by
              obtain ⟨d, _, rfl⟩ := List.mem_map.mp m
              exact fun z => by cases z) (fit_new en.st nw') nw'.nd (en.r st nw')
        · rw [if_neg hl] at p2
          exact p2.elim
      | _ => exact p1.elim
end
section
variable {X : Cx} {E : XK} {np : Nat} {e a b c : Expr} {me : Mr} {te : TE} {ma : MrA} {ta : TA} {pos pos' : Pos} {x y z : Str}
theorem pxs_unp {es : List Expr} {is : List Nat} {kt n : Nat} {pt : Pos} (hc : X.calm = true) (he : Px X E e me te) (h : PxGs X es is) (hnp : ∀ i ∈ is, np ≤ i := by decide) (hs : swapsWithSole [.Tuple es kt pt] e pos.line X.env = pure false := by rfl) (hw : swappedStores [.Tuple es kt pt] e X.env = pure none := by rfl)
    (hn : (assignEach es X.env).length = n := by rfl) (hst : (assignEach es X.env).findIdx? (·.1) = none := by rfl) (hi : n = is.length := by rfl) :
    PxS X E np (.Assign [.Tuple es kt pt] e pos) (sUnp is me) (tAsg te (gTup X.K n (gNames is))) := ⟨ps_asg he.pe (pg_tup hc h.pgs hn hst) hs hw, simS_unp hnp hi he.sim⟩
theorem pxs_par2 {i j : Nat} {px py pt : Pos} {kt k2 pt2} (hc : X.calm = true) (hN : X.N.Nodup) (hi : X.N[i]? = some x) (hj : X.N[j]? = some y) (hij : i ≠ j)
    (hx : X.env.scope.names.lookup x = some .local) (hy : X.env.scope.names.lookup y = some .local) (ha : PxA X E [a, b] ma ta)
    (hw : swappedStores [.Tuple [.Name x px, .Name y py] kt pt] (.Tuple [a, b] k2 pt2) X.env = pure (some [x, y])) (hnp : ∀ l ∈ [i, j], np ≤ l := by decide)
    (hs : swapsWithSole [.Tuple [.Name x px, .Name y py] kt pt] (.Tuple [a, b] k2 pt2) pos.line X.env = pure false := by rfl) :
    PxS X E np (.Assign [.Tuple [.Name x px, .Name y py] kt pt] (.Tuple [a, b] k2 pt2) pos) (sPar [i, j] ma) (tPar i j ta) :=
  ⟨ps_par hc hN hi hj hij hx hy ha.pa hw hs, simS_par hnp ha.sim (fun D σ vs H1 => ∃ v w, vs = [v, w] ∧ D.nx ((σ.set i (some v)).set j (some w)) H1) (fun _ _ _ h => h) fun D σ vs H1 l q => match vs, l, q with
    | [v, w], _, q => ⟨v, w, rfl, q⟩⟩
theorem pxs_par3 {i j l : Nat} {px py pz pt : Pos} {kt k2 pt2} (hc : X.calm = true) (hN : X.N.Nodup) (hi : X.N[i]? = some x) (hj : X.N[j]? = some y) (hl : X.N[l]? = some z) (hij : i ≠ j) (hil : i ≠ l) (hjl : j ≠ l)
    (hx : X.env.scope.names.lookup x = some .local) (hy : X.env.scope.names.lookup y = some .local) (hz : X.env.scope.names.lookup z = some .local) (ha : PxA X E [a, b, c] ma ta)
    (hw : swappedStores [.Tuple [.Name x px, .Name y py, .Name z pz] kt pt] (.Tuple [a, b, c] k2 pt2) X.env = pure (some [x, y, z])) (hnp : ∀ k ∈ [i, j, l], np ≤ k := by decide)
    (hs : swapsWithSole [.Tuple [.Name x px, .Name y py, .Name z pz] kt pt] (.Tuple [a, b, c] k2 pt2) pos.line X.env = pure false := by rfl) :
    PxS X E np (.Assign [.Tuple [.Name x px, .Name y py, .Name z pz] kt pt] (.Tuple [a, b, c] k2 pt2) pos) (sPar [i, j, l] ma) (tPar3 i j l ta) :=
  ⟨ps_par3 hc hN hi hj hl hij hil hjl hx hy hz ha.pa hw hs, simS_par hnp ha.sim (fun D σ vs H1 => ∃ u v w, vs = [u, v, w] ∧ D.nx (((σ.set i (some u)).set j (some v)).set l (some w)) H1) (fun _ _ _ h => h) fun D σ vs H1 l q => match vs, l, q with
    | [u, v, w], _, q => ⟨u, v, w, rfl, q⟩⟩
end

/-! ### a slot's own thing is changed -/
section
variable {K : PySem.W.Frag} {B : Bs} {E : XK} {F H F' H' : Hp} {σ : L2.St} {Γ : Gm}
theorem EnvS.own_slot (h : EnvS K B F H σ Γ) {i : Nat} {k : Nk} {xs : List Sl} (e : Γ[i]? = some (some ⟨.own, .node k xs⟩)) :
    ∃ a o vs fp, σ[i]? = some (some (.ref a)) ∧ H a = some o ∧ Shape K k vs o ∧ OwAll K F H vs xs fp ∧ fp.Nodup ∧
      ∀ F' H' o' k' vs' xs' fq fpn, Step F H F' H' → New F' H fpn → Shape K k' vs' o' → OwAll K F' H' vs' xs' fq → fq.Nodup → (∀ b ∈ fq, b ∈ fp ∨ b ∈ fpn) → EnvS K B F' (upd H' a o') σ (Γ.set i (some ⟨.own, .node k' xs'⟩)) := by
  obtain ⟨f, h1, h2⟩ := h.ex
  obtain ⟨v, hv, so⟩ := h1 i _ e
  obtain ⟨ow, nd, ft⟩ := so
  have ow : Ow K F H v (.node k xs) (f i) := ow
  obtain ⟨g, hg⟩ : ∃ g, g = f i := ⟨_, rfl⟩
  rw [← hg] at ow nd ft
  cases ow with
  | node ha sh t =>
    rename_i a o vs fp
    obtain ⟨na, nf⟩ := List.nodup_cons.mp nd
    have haN : H a ≠ none := by
      rw [ha]
      exact fun z => by cases z
    refine ⟨a, o, vs, fp, hv, ha, sh, t, nf, fun F' H' o' k' vs' xs' fq fpn st nw sh' t' nd' sub => ?_⟩
    have faN : F' a = none := st.nw a haN (ft a List.mem_cons_self).1
    have naq : a ∉ fq := fun m => (sub a m).elim na fun z => haN (nw.nh a z)
    have nS : ¬ B.S a := fun s => by
      obtain ⟨s1, s2⟩ := h.st.hS a s
      rcases (ft a List.mem_cons_self).2 with z | z
      · exact s1 z
      · exact s2 z
    have stB := h.st.step st
    have fitN := fit_new h.st nw
    refine ⟨⟨stB.ff, fun b u z => ?_, fun b u m z => ?_, stB.nw, stB.hS⟩, by rw [List.length_set]; exact h.len, h.pin, fun j => if j = i then a :: fq else f j, fun j q z => ?_, fun j l q q' b hne e1 e2 m => ?_⟩
    · have nb : b ≠ a := fun w => by
        rw [w, faN] at z
        cases z
      rw [upd_ne nb]
      exact stB.fh _ _ z
    · have nb : b ≠ a := fun w => by
        rw [w] at z m
        rcases (ft a List.mem_cons_self).2 with y | y
        · rw [y] at z
          cases z
        · exact m y
      rw [upd_ne nb]
      exact stB.hh b u m z
    · rw [List.getElem?_set] at z
      by_cases hj : i = j
      · subst hj
        rw [if_pos rfl] at z
        split at z
        · cases z
          refine ⟨.ref a, hv, ?_⟩
          show SlotOk K B F' _ (.ref a) ⟨.own, .node k' xs'⟩ (if i = i then a :: fq else f i)
          rw [if_pos rfl]
          refine ⟨.node upd_same sh' (owAll_mono (Same.refl F') t' fun b m u y => ?_), List.nodup_cons.mpr ⟨naq, nd'⟩, fun b m => ?_⟩
          · have nb : b ≠ a := fun w => naq (by rw [← w]; exact m)
            rw [upd_ne nb]
            exact y
          · rcases List.mem_cons.mp m with rfl | m
            · exact ⟨faN, (ft _ List.mem_cons_self).2⟩
            · rcases sub b m with y | y
              · exact ⟨st.nw b (owAll_dom t b y) (ft b (List.mem_cons_of_mem _ y)).1, (ft b (List.mem_cons_of_mem _ y)).2⟩
              · exact fitN b y
        · cases z
      · rw [if_neg hj] at z
        obtain ⟨w, hw, sw⟩ := h1 j q z
        refine ⟨w, hw, ?_⟩
        show SlotOk K B F' _ w q (if j = i then a :: fq else f j)
        rw [if_neg (Ne.symm hj)]
        have naj : a ∉ f j := fun m => h2 i j _ q a hj e z (by rw [← hg]; exact List.mem_cons_self) m
        have sw' := sw.step st
        obtain ⟨fl, s⟩ := q
        cases fl with
        | own => exact ⟨ow_mono (Same.refl F') sw'.1 (fun b m u y => by
            have nb : b ≠ a := fun w => naj (by rw [← w]; exact m)
            rw [upd_ne nb]
            exact y), sw'.2⟩
        | par =>
          obtain ⟨e0, fp', o1, s1⟩ := sw'
          exact ⟨e0, fp', ow_mono (Same.refl F') o1 (fun b m u y => by
            have nb : b ≠ a := fun w => nS (by rw [← w]; exact s1 b m)
            rw [upd_ne nb]
            exact y), s1⟩
        | bor => exact sw'
    · rw [List.getElem?_set] at e1 e2
      have m : b ∈ (if j = i then a :: fq else f j) := m
      show b ∉ (if l = i then a :: fq else f l)
      have key : ∀ (l : Nat) (q' : Rv), l ≠ i → Γ[l]? = some (some q') → b ∈ a :: fq → b ∉ f l := fun l q' hl e2 m ml => by
        obtain ⟨w, _, sw⟩ := h1 l q' e2
        rcases List.mem_cons.mp m with y | m
        · exact h2 i l _ q' b (Ne.symm hl) e e2 (by rw [← hg, y]; exact List.mem_cons_self) ml
        · rcases sub b m with y | y
          · exact h2 i l _ q' b (Ne.symm hl) e e2 (by rw [← hg]; exact List.mem_cons_of_mem _ y) ml
          · exact sw.dom b ml (nw.nh b y)
      by_cases hj : j = i
      · have hl : l ≠ i := fun z => hne (hj.trans z.symm)
        rw [if_pos hj] at m
        rw [if_neg hl]
        rw [if_neg (Ne.symm hl)] at e2
        exact key l q' hl e2 m
      · rw [if_neg hj] at m
        rw [if_neg (Ne.symm hj)] at e1
        by_cases hl : l = i
        · rw [if_pos hl]
          exact fun mk => key j q hj e1 mk m
        · rw [if_neg hl]
          rw [if_neg (Ne.symm hl)] at e2
          exact h2 j l q q' b hne e1 e2 m
end
end Pf

/-! Pf10: lists that change, refusals, defs. -/
namespace Pf
open PySem L2

section
variable {K : PySem.W.Frag} {F H : Hp}
theorem owAll_split : ∀ (n : Nat) {vs : List V} {xs : List Sl} {fp : List Addr}, OwAll K F H vs xs fp → ∃ f1 f2, OwAll K F H (vs.take n) (xs.take n) f1 ∧ OwAll K F H (vs.drop n) (xs.drop n) f2 ∧ fp = f1 ++ f2
  | 0, _, _, fp, h => ⟨[], fp, by rw [List.take_zero, List.take_zero]; exact .nil, by rw [List.drop_zero, List.drop_zero]; exact h, rfl⟩
  | n + 1, _, _, _, .nil => ⟨[], [], .nil, .nil, rfl⟩
  | n + 1, _, _, _, .cons (fp := fp) h t => by
    obtain ⟨f1, f2, a, b, e⟩ := owAll_split n t
    exact ⟨fp ++ f1, f2, .cons h a, b, by rw [e, List.append_assoc]⟩
theorem owAll_append : ∀ {vs ws : List V} {xs ys : List Sl} {fp fq : List Addr}, OwAll K F H vs xs fp → OwAll K F H ws ys fq → OwAll K F H (vs ++ ws) (xs ++ ys) (fp ++ fq)
  | _, _, _, _, _, _, .nil, h => h
  | _, _, _, _, _, _, .cons h t, g => by
    rw [List.append_assoc]
    exact .cons h (owAll_append t g)
theorem owAll_one {v : V} {s : Sl} {fp : List Addr} (h : Ow K F H v s fp) : OwAll K F H [v] [s] fp := by
  have z := OwAll.cons h .nil
  rw [List.append_nil] at z
  exact z
end
def app1 (i : Nat) (Γ : Gm) (z : Rz Rv) : Oz := match Γ[i]? with
  | some (some ⟨.own, .node .L xs⟩) => (match z with
    | .ok ⟨.own, s⟩ => if xs.length < most then .nx (Γ.set i (some ⟨.own, .node .L (xs ++ [s])⟩)) else .no
    | .er c => .er c Γ
    | _ => .no)
  | _ => .no
def sApp (i : Nat) (m : Mr) : MrS := fun Γ => app1 i Γ (m Γ)
def ins1 (i : Nat) (Γ : Gm) (z : Rz (List Rv)) : Oz := match Γ[i]? with
  | some (some ⟨.own, .node .L xs⟩) => (match z with
    | .ok [⟨_, .dat (.int k)⟩, ⟨.own, s⟩] => if xs.length < most ∧ 0 ≤ k ∧ k < 2 ^ 63 then .nx (Γ.set i (some ⟨.own, .node .L (xs.take k.toNat ++ [s] ++ xs.drop k.toNat)⟩)) else .no
    | .er c => .er c Γ
    | _ => .no)
  | _ => .no
def sIns (i : Nat) (m : MrA) : MrS := fun Γ => ins1 i Γ (m Γ)
def put1 (i : Nat) (Γ : Gm) (z : Rz (List Rv)) : Oz := match Γ[i]? with
  | some (some ⟨.own, .node .L xs⟩) => (match z with
    | .ok [⟨.own, s⟩, ⟨_, .dat (.int k)⟩] => (match ixN xs.length k with
      | some j => .nx (Γ.set i (some ⟨.own, .node .L (xs.take j ++ [s] ++ xs.drop (j + 1))⟩))
      | none => .no)
    | .er c => .er c Γ
    | _ => .no)
  | _ => .no
def sPut (i : Nat) (m ix : Mr) : MrS := fun Γ => put1 i Γ (eCons m (eCons ix eNil) Γ)
section
variable {K : PySem.W.Frag} {E : XK} {np : Nat}
theorem simS_app {i : Nat} {te : TE} {me : Mr} (h : Sim K E te me) : SimS K E np (tDrop (tBM K "list" rAppend (tVar i) (tCons te tNil))) (sApp i me) := by
  intro B F H σ Γ D hp en p
  have p0 : PostS K B E D (app1 i Γ (me Γ)) := p
  unfold app1 at p0
  split at p0
  · rename_i xs hs
    obtain ⟨a, o, vs, fp, hv, ha, sh, t, nd, k⟩ := en.own_slot hs
    have sh : o = .lst vs := sh
    subst sh
    refine ⟨_, hv, Or.inl ⟨rfl, _, SqL.of ha⟩, ?_⟩
    refine h.stm en (fun c q => by rw [q] at p0; exact fun F' H' en' => p0 F' H' σ en') (fun q => by rw [q] at p0; exact p0) fun r v F' H' fq q st ro nw => ?_
    rw [q] at p0
    obtain ⟨fl, s⟩ := r
    cases fl with
    | par => exact p0.elim
    | bor => exact p0.elim
    | own =>
      have p1 : PostS K B E D (if xs.length < most then .nx (Γ.set i (some ⟨.own, .node .L (xs ++ [s])⟩)) else .no) := p0
      by_cases hl : xs.length < most
      · rw [if_pos hl] at p1
        have oy : Ow K F' H' v s fq := ro
        refine ⟨a, vs, v, rfl, rfl, st.hh _ _ ha, by rw [owAll_len t]; exact Nat.lt_of_lt_of_le hl (most_ok (Nat.le_refl _)), p1 F' _ σ ?_⟩
        refine k F' H' (.lst (vs ++ [v])) .L (vs ++ [v]) (xs ++ [s]) (fp ++ fq) fq st nw rfl (owAll_snoc (owAll_mono st.ff t fun b _ o z => st.hh _ _ z) oy) ?_ (fun b m => List.mem_append.mp m)
        exact List.nodup_append.mpr ⟨nd, nw.nd, fun b m c m' z => by
          subst z
          exact owAll_dom t b m (nw.nh b m')⟩
      · rw [if_neg hl] at p1
        exact p1.elim
  · exact p0.elim
theorem simS_ins {i : Nat} {te : TA} {me : MrA} (h : SimA K E te me) {r : V → List V → Hp → VK → Prop} (hr : r = fun x vs H Q => ∃ (l : Addr) (xs : List V) (i : Int) (y : V), x = .ref l ∧ vs = [.int i, y] ∧ H l = some (.lst xs) ∧ xs.length < sizeLine ∧ 0 ≤ i ∧ i < 2 ^ 63 ∧ Q .non (upd H l (.lst (xs.take i.toNat ++ [y] ++ xs.drop i.toNat)))) :
    SimS K E np (tDrop (tBM K "list" r (tVar i) te)) (sIns i me) := by
  subst hr
  intro B F H σ Γ D hp en p
  have p0 : PostS K B E D (ins1 i Γ (me Γ)) := p
  unfold ins1 at p0
  split at p0
  · rename_i xs hs
    obtain ⟨a, o, vs, fp, hv, ha, sh, t, nd, k⟩ := en.own_slot hs
    have sh : o = .lst vs := sh
    subst sh
    refine ⟨_, hv, Or.inl ⟨rfl, _, SqL.of ha⟩, ?_⟩
    refine h.stm en (fun c q => by rw [q] at p0; exact fun F' H' en' => p0 F' H' σ en') (fun q => by rw [q] at p0; exact p0) fun rs us F' H' fq q st ro nw => ?_
    rw [q] at p0
    split at p0
    · rename_i fl j s e
      cases e
      cases ro with
      | cons h1 h2 =>
        cases h2 with
        | cons h3 h4 =>
          cases h4
          rename_i v1 f1 v2 f2
          have e1 := rok_int h1
          have oy : Ow K F' H' v2 s f2 := h3
          by_cases hl : xs.length < most ∧ 0 ≤ j ∧ j < 2 ^ 63
          · rw [if_pos hl] at p0
            refine ⟨a, vs, j, v2, rfl, by rw [e1], st.hh _ _ ha, by rw [owAll_len t]; exact Nat.lt_of_lt_of_le hl.1 (most_ok (Nat.le_refl _)), hl.2.1, hl.2.2, p0 F' _ σ ?_⟩
            obtain ⟨g1, g2, t1, t2, eg⟩ := owAll_split j.toNat (owAll_mono st.ff t fun b _ o z => st.hh _ _ z)
            have nw2 : New F' H f2 := ⟨((List.nodup_append.mp nw.nd).2.1).sublist (List.sublist_append_left _ _), fun b m => nw.nf b (List.mem_append_right _ (List.mem_append_left _ m)), fun b m => nw.nh b (List.mem_append_right _ (List.mem_append_left _ m))⟩
            refine k F' H' _ .L _ _ (g1 ++ f2 ++ g2) f2 st nw2 rfl (owAll_append (owAll_append t1 (owAll_one oy)) t2) ?_ (fun b m => ?_)
            · rw [eg] at nd
              obtain ⟨n1, n2, n3⟩ := List.nodup_append.mp nd
              have out : ∀ b, b ∈ g1 ++ g2 → b ∉ f2 := fun b m m' => owAll_dom t b (by rw [eg]; exact m) (nw2.nh b m')
              refine List.nodup_append.mpr ⟨List.nodup_append.mpr ⟨n1, nw2.nd, fun b m c m' z => ?_⟩, n2, fun b m c m' z => ?_⟩
              · subst z
                exact out b (List.mem_append_left _ m) m'
              · subst z
                rcases List.mem_append.mp m with m | m
                · exact n3 b m b m' rfl
                · exact out b (List.mem_append_right _ m') m
            · rw [eg]
              rcases List.mem_append.mp m with m | m
              · rcases List.mem_append.mp m with m | m
                · exact .inl (List.mem_append_left _ m)
                · exact .inr m
              · exact .inl (List.mem_append_right _ m)
          · rw [if_neg hl] at p0
            exact p0.elim
    · rename_i e
      cases e
    · exact p0.elim
  · exact p0.elim
theorem set_split {α : Type} {xs : List α} {j : Nat} {v : α} (h : j < xs.length) : xs.set j v = xs.take j ++ [v] ++ xs.drop (j + 1) := by
  rw [List.set_eq_take_append_cons_drop, if_pos h, List.append_assoc]
  rfl
theorem simS_put {i : Nat} {te ti : TE} {me mi : Mr} (h : Sim K E te me) (h' : Sim K E ti mi) : SimS K E np (tAsg te (gSub (tVar i) ti rSetL)) (sPut i me mi) := by
  intro B F H σ Γ D hp en p
  have p0 : PostS K B E D (put1 i Γ (eCons me (eCons mi eNil) Γ)) := p
  unfold put1 at p0
  split at p0
  · rename_i xs hs
    obtain ⟨a, o, vs, fp, hv, ha, sh, t, nd, k⟩ := en.own_slot hs
    have sh : o = .lst vs := sh
    subst sh
    have p1 : PostS K B E D (match ((me Γ).bind fun x => ((mi Γ).bind fun y => .ok [y]).bind fun xs => .ok (x :: xs)) with
      | .ok [⟨.own, s⟩, ⟨_, .dat (.int k)⟩] => (match ixN xs.length k with
        | some j => .nx (Γ.set i (some ⟨.own, .node .L (xs.take j ++ [s] ++ xs.drop (j + 1))⟩))
        | none => .no)
      | .er c => .er c Γ
      | _ => .no) := by
      have e : eCons me (eCons mi eNil) Γ = ((me Γ).bind fun x => ((mi Γ).bind fun y => .ok [y]).bind fun xs => .ok (x :: xs)) := rfl
      rw [e] at p0
      exact p0
    refine h.stm en (fun c q => by rw [q] at p1; exact fun F' H' en' => p1 F' H' σ en') (fun q => by rw [q] at p1; exact p1) fun r v F1 H1 f1 q st1 ro1 nw1 => ?_
    rw [q] at p1
    have en1 := en.step st1
    refine ⟨.ref a, hv, h'.stm en1 (fun c q => by rw [q] at p1; exact fun F' H' en' => p1 F' H' σ en') (fun q => by rw [q] at p1; exact p1) fun r2 y F2 H2 f2 q2 st2 ro2 nw2' => ?_⟩
    rw [q2] at p1
    have st := st1.trans st2
    have p2 : PostS K B E D (match ([r, r2] : List Rv) with
      | [⟨.own, s⟩, ⟨_, .dat (.int k)⟩] => (match ixN xs.length k with
        | some j => .nx (Γ.set i (some ⟨.own, .node .L (xs.take j ++ [s] ++ xs.drop (j + 1))⟩))
        | none => .no)
      | _ => .no) := by
      obtain ⟨fl, s⟩ := r
      obtain ⟨fl2, s2⟩ := r2
      cases fl with
      | own =>
        cases s2 with
        | dat d => cases d <;> exact p1
        | node k xs => exact p1
      | par => exact p1
      | bor => exact p1
    split at p2
    · rename_i s fl j e
      cases e
      have e1 := rok_int ro2
      have oy : Ow K F2 H2 v s f1 := ow_step st2.ff st2.hh ro1
      cases hx : ixN xs.length j with
      | none =>
        rw [hx] at p2
        exact p2.elim
      | some l =>
        rw [hx] at p2
        have hl := (ixN_seq hx).2.1
        have lv := owAll_len t
        refine ⟨a, vs, j, l, rfl, e1, st.hh _ _ ha, by rw [lv]; exact hx, ?_⟩
        rw [set_split (by rw [lv]; exact hl)]
        refine p2 F2 _ σ ?_
        obtain ⟨g1, g2, t1, t2, eg⟩ := owAll_split l (owAll_mono st.ff t fun b _ o z => st.hh _ _ z)
        obtain ⟨g3, g4, t3, t4, eg2⟩ := owAll_split 1 t2
        rw [List.drop_drop, List.drop_drop] at t4
        have nw2 : New F2 H f1 := ⟨nw1.nd, fun b m => st2.nw b (ro1.dom b m) (nw1.nf b m), nw1.nh⟩
        refine k F2 H2 _ .L _ _ (g1 ++ f1 ++ g4) f1 st nw2 rfl (owAll_append (owAll_append t1 (owAll_one oy)) t4) ?_ (fun b m => ?_)
        · rw [eg, eg2] at nd
          obtain ⟨n1, n2, n3⟩ := List.nodup_append.mp nd
          have out : ∀ b, b ∈ g1 ++ (g3 ++ g4) → b ∉ f1 := fun b m m' => owAll_dom t b (by rw [eg, eg2]; exact m) (nw2.nh b m')
          refine List.nodup_append.mpr ⟨List.nodup_append.mpr ⟨n1, nw2.nd, fun b m c m' z => ?_⟩, (List.nodup_append.mp n2).2.1, fun b m c m' z => ?_⟩
          · subst z
            exact out b (List.mem_append_left _ m) m'
          · subst z
            rcases List.mem_append.mp m with m | m
            · exact n3 b m b (List.mem_append_right _ m') rfl
            · exact out b (List.mem_append_right _ (List.mem_append_right _ m')) m
        · rw [eg, eg2]
          rcases List.mem_append.mp m with m | m
          · rcases List.mem_append.mp m with m | m
            · exact .inl (List.mem_append_left _ m)
            · exact .inr m
          · exact .inl (List.mem_append_right _ (List.mem_append_right _ m))
    · exact p2.elim
  · exact p0.elim
end
section
variable {X : Cx} {E : XK} {np : Nat} {e ix : Expr} {es : List Expr} {me mi : Mr} {te ti : TE} {ma : MrA} {ta : TA} {pos pos' apos cpos : Pos} {x : Str}
theorem pxs_app {i : Nat} (hN : X.N[i]? = some x) (hv : Vis X.env.scope x) (he : Px X E e me te) (hline : (apos.endLine == cpos.line) = true := by rfl) (hs : starEach [e] X.env = (false, eval e X.env) :: starEach [] X.env := by rfl)
    (hfew : ((backTo cpos (starEach [e] X.env)).all (fun x => !x.1) && (backToKw cpos (keywordEach [] X.env)).all (fun x => x.1.isSome)
      && decide ([e].length + ([] : List Keyword).length + (if ([] : List Keyword).isEmpty then 0 else 1) < 30)) = true := by rfl)
    (hsw : swapsWith (.Call (.Attribute (.Name x pos') "append" apos) [e] [] cpos) none pos.line X.env = pure false := by rfl)
    (hbase : attributeBase (.Name x pos') "append" X.env (eval (.Name x pos') X.env) = eval (.Name x pos') X.env := by rfl) (hd : (x == ("__debug__" : Str)) = false := by decide) (hcd : (x == ("__classdict__" : Str)) = false := by decide) :
    PxS X E np (.Expr (.Call (.Attribute (.Name x pos') "append" apos) [e] [] cpos) pos) (sApp i me) (tDrop (tBM X.K "list" rAppend (tVar i) (tCons te tNil))) :=
  ⟨ps_expr (pe_bm PySem.F.plainAttrs_list PySem.F.slot_list_append PySem.F.type_list_append mt_append (pe_var hN hv hd hcd) (pa_cons he.pe pa_nil hs) hbase hfew hline hs) hsw, simS_app he.sim⟩
theorem pxs_ins {i : Nat} {e2 : Expr} (hN : X.N[i]? = some x) (hv : Vis X.env.scope x) (he : PxA X E [e, e2] ma ta) (hline : (apos.endLine == cpos.line) = true := by rfl) (hs : starEach [e, e2] X.env = (false, eval e X.env) :: starEach [e2] X.env := by rfl)
    (hfew : ((backTo cpos (starEach [e, e2] X.env)).all (fun x => !x.1) && (backToKw cpos (keywordEach [] X.env)).all (fun x => x.1.isSome)
      && decide ([e, e2].length + ([] : List Keyword).length + (if ([] : List Keyword).isEmpty then 0 else 1) < 30)) = true := by rfl)
    (hpl : (backTo cpos (starEach [e2] X.env)).any (·.1) = false := by rfl)
    (hsw : swapsWith (.Call (.Attribute (.Name x pos') "insert" apos) [e, e2] [] cpos) none pos.line X.env = pure false := by rfl)
    (hbase : attributeBase (.Name x pos') "insert" X.env (eval (.Name x pos') X.env) = eval (.Name x pos') X.env := by rfl) (hd : (x == ("__debug__" : Str)) = false := by decide) (hcd : (x == ("__classdict__" : Str)) = false := by decide) :
    PxS X E np (.Expr (.Call (.Attribute (.Name x pos') "insert" apos) [e, e2] [] cpos) pos) (sIns i ma) (tDrop (tBM X.K "list" (fun x vs H Q => ∃ (l : Addr) (xs : List V) (i : Int) (y : V), x = .ref l ∧ vs = [.int i, y] ∧ H l = some (.lst xs) ∧ xs.length < sizeLine ∧ 0 ≤ i ∧ i < 2 ^ 63 ∧
    Q .non (upd H l (.lst (xs.take i.toNat ++ [y] ++ xs.drop i.toNat)))) (tVar i) ta)) :=
  ⟨ps_expr (pe_bm PySem.F.plainAttrs_list PySem.F.slot_list_insert PySem.F.type_list_insert mt_insert (pe_var hN hv hd hcd) he.pa hbase hfew hline hs hpl) hsw, simS_ins he.sim rfl⟩
theorem pxs_put {i : Nat} {pt : Pos} (hN : X.N[i]? = some x) (hv : Vis X.env.scope x) (he : Px X E e me te) (hi : Px X E ix mi ti) (hs : swapsWithSole [.Subscript (.Name x pos') ix pt] e pos.line X.env = pure false := by rfl) (hw : swappedStores [.Subscript (.Name x pos') ix pt] e X.env = pure none := by rfl)
    (ha : ∀ v, assign (.Subscript (.Name x pos') ix pt) X.env v = (do
      let ov ← holding [v] (eval (.Name x pos') X.env)
      let iv ← holding [v, ov] (eval ix X.env)
      standAt pt
      holding [v, ov, iv] (setItem ov iv v)
      release [v, ov, iv] []) := by intro _; rfl) (hd : (x == ("__debug__" : Str)) = false := by decide) (hcd : (x == ("__classdict__" : Str)) = false := by decide) :
    PxS X E np (.Assign [.Subscript (.Name x pos') ix pt] e pos) (sPut i me mi) (tAsg te (gSub (tVar i) ti rSetL)) :=
  ⟨ps_asg he.pe (pg_sub (pe_var hN hv hd hcd) hi.pe set_list ha) hs hw, simS_put he.sim hi.sim⟩
end
end Pf

/-! Pf11: refusals; a def's promise by its body; defs that change their first things; new objects. -/
namespace Pf
open PySem PySem.Spec L2

/-! ### raise -/
def sRaise (c : Str) : MrS := fun Γ => .er c Γ
theorem simS_raise {K : PySem.W.Frag} {E : XK} {np : Nat} {c : Str} : SimS K E np (fun _ σ H => E (.ref (He.ga K c)) none H) (sRaise c) := fun B F H σ Γ D hp en p => p F H σ en
theorem pxs_raise {X : Cx} {E : XK} {np : Nat} {x m : Str} {j : Nat} {p p2 pos pos' : Pos} (hc : X.calm = true) (tk : Takes X (fun cls d _ H => E cls d H)) (xP : PySem.W.excIn X.K (He.ga X.K x) He.veBase "ValueError.__new__" = true)
    (gP : X.mg x = some (.ref (He.ga X.K x))) (kP : PySem.W.keepIn X.K (.ref (He.ga X.K x)) = true) (bP : PySem.W.subIn X.K (.ref (He.ga X.K x)) (.type "BaseException") = some true) (tP : PySem.W.typeIn X.K (.ref (He.ga X.K x)) = some (.type "type")) (hg : Gl X x)
    (hdb : (x == ("__debug__" : Str)) = false := by decide) :
    PxS X E np (.Raise (some (.Call (.Name x p) [.Constant (.str m) j p2] [] pos')) none pos) (sRaise x) (fun _ σ H => E (.ref (He.ga X.K x)) none H) :=
  ⟨ps_raise hc tk (pmk_own PySem.F.excBase_ValueError xP gP kP (raises_own bP tP) hg hdb), simS_raise⟩

/-! ### a def that changes nothing -/
def parR (s : Sl) : Rv := match s with
  | .dat d => ⟨.own, .dat d⟩
  | s => ⟨.par, s⟩
def initG (nN : Nat) (ss : List Sl) : Gm := ss.map (fun s => some (parR s)) ++ List.replicate (nN - ss.length) none
def fin2 : Oz → Rz Rv
  | .rt r _ => .ok r
  | .nx _ => .ok ⟨.own, .dat .none⟩
  | .er c _ => .er c
  | _ => .no
def runF (np nN : Nat) (ms : MrS) : Fm := fun ss => if ss.length = np then fin2 (ms (initG nN ss)) else .no
section
variable {K : PySem.W.Frag} {F H : Hp}
theorem owL_get : ∀ {vs : List V} {ss : List Sl} {i : Nat} {s : Sl}, OwL K F H vs ss → ss[i]? = some s → ∃ v fp, vs[i]? = some v ∧ Ow K F H v s fp
  | _, _, _, _, .nil, e => by cases e
  | _, _, 0, _, .cons (v := v) fp h t, e => by
    cases e
    exact ⟨v, fp, rfl, h⟩
  | _, _, i + 1, _, .cons fp h t, e => owL_get (i := i) t e
theorem parR_slot {B : Bs} {v : V} {s : Sl} {fp : List Addr} (h : Ow K F H v s fp) (hS : ∀ a ∈ fp, B.S a) : SlotOk K B F H v (parR s) [] := by
  cases s with
  | dat d => cases h with
    | dat hd => exact ⟨.dat hd, List.nodup_nil, fun _ m => nomatch m⟩
  | node k xs => exact ⟨rfl, fp, h, hS⟩
theorem start_get {N : List Str} {vs : List V} {i : Nat} {v : V} (e : vs[i]? = some v) : (L2.start N vs)[i]? = some (some v) := by
  unfold L2.start
  have hl := (List.getElem?_eq_some_iff.mp e).1
  rw [List.getElem?_append_left (by rw [List.length_map]; exact hl), List.getElem?_map, e]
  rfl
theorem initG_get {nN : Nat} {ss : List Sl} {i : Nat} {r : Rv} (e : (initG nN ss)[i]? = some (some r)) : ∃ s, ss[i]? = some s ∧ r = parR s := by
  unfold initG at e
  by_cases hl : i < ss.length
  · rw [List.getElem?_append_left (by rw [List.length_map]; exact hl), List.getElem?_map, List.getElem?_eq_getElem hl] at e
    cases e
    exact ⟨_, List.getElem?_eq_getElem hl, rfl⟩
  · rw [List.getElem?_append_right (by rw [List.length_map]; omega), List.getElem?_replicate] at e
    split at e <;> cases e
theorem pure_end {E : XK} {Q : VK} {S : Addr → Prop} {z : Oz} (e : Same F H) (p : Post K (fun a => H a ≠ none) E Q F H (fin2 z)) : PostS K ⟨F, H, fun _ => False, fun a => H a ≠ none, []⟩ E { nx := fun _ H' => Q .non H', rt := Q } z := by
  have toStep : ∀ {F' H' : Hp} {ps : List V}, StepB ⟨F, H, fun _ => False, fun a => H a ≠ none, ps⟩ F' H' → Step F H F' H' := fun st => ⟨st.ff, st.fh, fun a o q => st.hh a o (fun z => z) q, fun a h f => st.nw a (fun z => z) h f⟩
  cases z with
  | nx Γ => exact fun F' H' σ en => p .non F' H' [] (toStep en.st) (Rok.dat .non) New.nil
  | rt r Γ =>
    intro v F' H' σ en
    obtain ⟨f, h1, _⟩ := en.ex
    obtain ⟨w, hw, so⟩ := h1 0 r rfl
    cases hw
    obtain ⟨fl, s⟩ := r
    cases fl with
    | own => exact p v F' H' (f 0) (toStep en.st) so.1 ⟨so.2.1, fun a m => (so.2.2 a m).1, fun a m => (so.2.2 a m).2.elim (fun z => z) (fun z => z.elim)⟩
    | par => exact p v F' H' [] (toStep en.st) ⟨rfl, so.2⟩ New.nil
    | bor => exact so.elim
  | bk Γ => exact p.elim
  | ct Γ => exact p.elim
  | er c Γ => exact fun F' H' σ en => p F' H' (toStep en.st)
  | no => exact p
end
section
variable {P : Program} {w : World} {K : PySem.W.Frag} {mg : Str → Option Value} {base : Heap}
theorem initG_len {nN : Nat} {ss : List Sl} : (initG nN ss).length = ss.length + (nN - ss.length) := by
  simp [initG]
theorem start_len {N : List Str} {vs : List V} : (L2.start N vs).length = vs.length + (N.length - vs.length) := by
  simp [L2.start]
theorem envS_start {F H : Hp} {N : List Str} {vs : List V} {ss : List Sl} (e : Same F H) (ol : OwL K F H vs ss) : EnvS K ⟨F, H, fun _ => False, fun a => H a ≠ none, []⟩ F H (L2.start N vs) (initG N.length ss) := by
  refine ⟨⟨Same.refl F, e, fun _ _ _ z => z, fun _ _ _ z => z, fun a h => ⟨h, fun z => z⟩⟩, by rw [start_len, initG_len, owL_len ol], (fun i v z => by cases z), (fun _ => []), (fun i r z => ?_), (fun _ _ _ _ _ _ _ _ m => nomatch m)⟩
  obtain ⟨s, hs, rfl⟩ := initG_get z
  obtain ⟨v, fp, hv, ow⟩ := owL_get ol hs
  exact ⟨v, start_get hv, parR_slot ow (ow_dom ow)⟩
/-- a def that changes nothing keeps what its mirror says -/
theorem fn_pure {x qual : Str} {st : Stmt} {f : Addr} {fd : FuncData} {N ps : List Str} {k : Nat} {ms : MrS} (Fu : Fun K x qual st f fd) (S : FnScope N ps (defScope st))
    (hbody : ∀ (cdv : Value) (A : Around) (outer : List PySem.Env) (s : Shared) (H : Hp) (E : XK), Room k (A.deeper (PyProof.Rows.envOfC qual (defScope st) s.heap.objs.size f cdv)) →
      ∃ t, PxSs (cxOf (L2.CX P w) P w K mg base N qual (defScope st) f cdv A outer s H E) E 0 (defBody st) ms t) : FnOk P w K mg base (L2.CX P w) (k + 1) f fd ps (spM K (runF ps.length N.length ms)) := by
  have lenOk : ∀ {vs : List V} {H : Hp} {Q : VK} {E : XK}, spM K (runF ps.length N.length ms) vs H Q E → vs.length = ps.length := fun {vs H Q E} h => by
    obtain ⟨F, ss, e, ol, p⟩ := h
    by_cases hl : ss.length = ps.length
    · rw [owL_len ol, hl]
    · unfold runF at p
      rw [if_neg hl] at p
      exact p.elim
  refine Fu.okX S (fun vs H Q E h => lenOk h) (fun cdv A outer s H vs Q E hr h => ?_)
  obtain ⟨t, ht⟩ := hbody cdv A outer s H E hr
  refine ⟨t, ht.ps, ?_⟩
  have hvl := lenOk h
  obtain ⟨F, ss, e, ol, p⟩ := h
  have hl : ss.length = ps.length := by rw [← owL_len ol, hvl]
  unfold runF at p
  rw [if_pos hl] at p
  exact ht.sim _ F H _ (initG N.length ss) _ (Nat.zero_le _) (envS_start e ol) (pure_end (S := fun _ => True) e p)
end

/-! ### a def that changes its first things -/
inductive Oi where
  | ok (r : Rv) (ss : List Sl) | er (c : Str) (ss : List Sl) | no
abbrev Fi := List Sl → List Sl → Oi
inductive OwS (K : PySem.W.Frag) (F H : Hp) (S : Addr → Prop) : List V → List Sl → Prop
  | nil : OwS K F H S [] []
  | cons {v : V} {vs : List V} {s : Sl} {ss : List Sl} (fp : List Addr) : Ow K F H v s fp → (∀ a ∈ fp, S a) → OwS K F H S vs ss → OwS K F H S (v :: vs) (s :: ss)
def ioB (F H : Hp) (fp : List Addr) (us : List V) : Bs := ⟨F, H, fun a => a ∈ fp, fun a => H a ≠ none ∧ a ∉ fp, us⟩
def PostI2 (K : PySem.W.Frag) (E : XK) (Q : VK) (F H : Hp) (us : List V) (fp : List Addr) : Oi → Prop
  | .ok r ss => ∀ v F' H' fp' fq, StepB (ioB F H fp us) F' H' → OwAll K F' H' us ss fp' → Rok K (ioB F H fp us).S F' H' v r fq → (fp' ++ fq).Nodup → FitB (ioB F H fp us) F' (fp' ++ fq) → Q v H'
  | .er c ss => ∀ F' H' fp', StepB (ioB F H fp us) F' H' → OwAll K F' H' us ss fp' → fp'.Nodup → FitB (ioB F H fp us) F' fp' → E (.ref (He.ga K c)) none H'
  | .no => False
def spI (K : PySem.W.Frag) (np : Nat) (m : Fi) : Sp := fun vs H Q E => ∃ F us ws ss bs fp, vs = us ++ ws ∧ us.length = np ∧ Same F H ∧ OwAll K F H us ss fp ∧ fp.Nodup ∧ (∀ a ∈ fp, F a = none) ∧ OwS K F H (fun a => H a ≠ none ∧ a ∉ fp) ws bs ∧ PostI2 K E Q F H us fp (m ss bs)
def outs : Nat → Gm → Option (List Sl)
  | 0, _ => some []
  | n + 1, some ⟨.own, s⟩ :: Γ => (outs n Γ).map (s :: ·)
  | _, _ => none
def initI (nN : Nat) (ss bs : List Sl) : Gm := ss.map (fun s => some ⟨.own, s⟩) ++ bs.map (fun s => some (parR s)) ++ List.replicate (nN - (ss.length + bs.length)) none
def oOk (r : Rv) : Option (List Sl) → Oi
  | some ss => .ok r ss
  | none => .no
def oEr (c : Str) : Option (List Sl) → Oi
  | some ss => .er c ss
  | none => .no
def fin3 (np : Nat) : Oz → Oi
  | .rt r Γ => oOk r (outs np Γ)
  | .nx Γ => oOk ⟨.own, .dat .none⟩ (outs np Γ)
  | .er c Γ => oEr c (outs np Γ)
  | _ => .no
def runI (np nb nN : Nat) (ms : MrS) : Fi := fun ss bs => if ss.length = np ∧ bs.length = nb then fin3 np (ms (initI nN ss bs)) else .no
section
variable {K : PySem.W.Frag} {B : Bs} {F H : Hp}
/-- the first things, read off the slots -/
theorem outs_ow : ∀ {np : Nat} {Γ : Gm} {ss : List Sl} {σ : L2.St} {us : List V} (f : Nat → List Addr), outs np Γ = some ss → us.length = np → (∀ (i : Nat) (v : V), us[i]? = some v → σ[i]? = some (some v)) →
    (∀ (i : Nat) (r : Rv), Γ[i]? = some (some r) → ∃ v, σ[i]? = some (some v) ∧ SlotOk K B F H v r (f i)) → (∀ (i j : Nat) (r r' : Rv) (a : Addr), i ≠ j → Γ[i]? = some (some r) → Γ[j]? = some (some r') → a ∈ f i → a ∉ f j) →
    ∃ fp, OwAll K F H us ss fp ∧ fp.Nodup ∧ FitB B F fp ∧ ∀ a ∈ fp, ∃ i r, i < np ∧ Γ[i]? = some (some r) ∧ a ∈ f i
  | 0, Γ, ss, σ, us, f, q, l, _, _, _ => by
    cases q
    cases us with
    | nil => exact ⟨[], .nil, List.nodup_nil, (fun _ m => nomatch m), (fun _ m => nomatch m)⟩
    | cons u us => cases l
  | np + 1, Γ, ss, σ, us, f, q, l, hp, h1, h2 => by
    cases us with
    | nil => cases l
    | cons u us =>
      cases Γ with
      | nil => cases q
      | cons o Γ =>
        cases o with
        | none => cases q
        | some r =>
          obtain ⟨fl, s⟩ := r
          cases fl with
          | par => cases q
          | bor => cases q
          | own =>
            have q2 : (outs np Γ).map (s :: ·) = some ss := q
            cases q3 : outs np Γ with
            | none =>
              rw [q3] at q2
              cases q2
            | some ss' =>
              rw [q3] at q2
              cases q2
              cases σ with
              | nil =>
                have z := hp 0 u rfl
                cases z
              | cons ov σ =>
                obtain ⟨fp, a1, a2, a3, a4⟩ := outs_ow (np := np) (Γ := Γ) (σ := σ) (us := us) (fun i => f (i + 1)) q3 (Nat.succ.inj l) (fun i v e => hp (i + 1) v e) (fun i r e => h1 (i + 1) r e) (fun i j r r' a hne e1 e2 => h2 (i + 1) (j + 1) r r' a (fun z => hne (Nat.succ.inj z)) e1 e2)
                obtain ⟨v, hv, so⟩ := h1 0 _ rfl
                have z := hp 0 u rfl
                rw [hv] at z
                cases z
                refine ⟨f 0 ++ fp, .cons so.1 a1, List.nodup_append.mpr ⟨so.2.1, a2, fun a m b m' e => ?_⟩, fun a m => ?_, fun a m => ?_⟩
                · subst e
                  obtain ⟨i, r, _, e, m2⟩ := a4 a m'
                  exact h2 0 (i + 1) _ r a (fun z => by cases z) rfl e m m2
                · rcases List.mem_append.mp m with m | m
                  · exact so.2.2 a m
                  · exact a3 a m
                · rcases List.mem_append.mp m with m | m
                  · exact ⟨0, _, Nat.succ_pos _, rfl, m⟩
                  · obtain ⟨i, r, hi, e, m2⟩ := a4 a m
                    exact ⟨i + 1, r, Nat.succ_lt_succ hi, e, m2⟩
theorem io_end {E : XK} {Q : VK} {us : List V} {fp : List Addr} {np : Nat} (hl : us.length = np) {z : Oz} (p : PostI2 K E Q F H us fp (fin3 np z)) : PostS K (ioB F H fp us) E { nx := fun _ H' => Q .non H', rt := Q } z := by
  cases z with
  | nx Γ =>
    have p : PostI2 K E Q F H us fp (oOk ⟨.own, .dat .none⟩ (outs np Γ)) := p
    intro F' H' σ en
    cases q : outs np Γ with
    | none =>
      rw [q] at p
      exact p.elim
    | some ss =>
      rw [q] at p
      obtain ⟨f, h1, h2⟩ := en.ex
      obtain ⟨fp', a1, a2, a3, _⟩ := outs_ow f q hl en.pin h1 h2
      exact p .non F' H' fp' [] en.st a1 (Rok.dat .non) (by rw [List.append_nil]; exact a2) (by rw [List.append_nil]; exact a3)
  | er c Γ =>
    have p : PostI2 K E Q F H us fp (oEr c (outs np Γ)) := p
    intro F' H' σ en
    cases q : outs np Γ with
    | none =>
      rw [q] at p
      exact p.elim
    | some ss =>
      rw [q] at p
      obtain ⟨f, h1, h2⟩ := en.ex
      obtain ⟨fp', a1, a2, a3, _⟩ := outs_ow f q hl en.pin h1 h2
      exact p F' H' fp' en.st a1 a2 a3
  | rt r Γ =>
    have p : PostI2 K E Q F H us fp (oOk r (outs np Γ)) := p
    intro v F' H' σ en
    cases q : outs np Γ with
    | none =>
      rw [q] at p
      exact p.elim
    | some ss =>
      rw [q] at p
      obtain ⟨f, h1, h2⟩ := en.ex
      obtain ⟨fp', a1, a2, a3, a4⟩ := outs_ow (B := (ioB F H fp us).push v) (fun i => f (i + 1)) q hl (fun i v e => en.pin (i + 1) v e) (fun i r e => h1 (i + 1) r e) (fun i j r r' a hne e1 e2 => h2 (i + 1) (j + 1) r r' a (fun z => hne (Nat.succ.inj z)) e1 e2)
      obtain ⟨w, hw, so⟩ := h1 0 r rfl
      cases hw
      have st : StepB (ioB F H fp us) F' H' := ⟨en.st.ff, en.st.fh, en.st.hh, en.st.nw, en.st.hS⟩
      have dis : ∀ a, a ∈ fp' → a ∉ f 0 := fun a m m0 => by
        obtain ⟨i, r', _, e, m2⟩ := a4 a m
        exact h2 0 (i + 1) r r' a (fun z => by cases z) rfl e m0 m2
      obtain ⟨fl, s⟩ := r
      cases fl with
      | own => exact p v F' H' fp' (f 0) st a1 so.1 (List.nodup_append.mpr ⟨a2, so.2.1, fun a m b m' e => dis a m (by rw [e]; exact m')⟩) (fun a m => (List.mem_append.mp m).elim (a3 a) (so.2.2 a))
      | par => exact p v F' H' fp' [] st a1 ⟨rfl, so.2⟩ (by rw [List.append_nil]; exact a2) (by rw [List.append_nil]; exact a3)
      | bor => exact so.elim
  | bk Γ => exact p.elim
  | ct Γ => exact p.elim
  | no => exact p
end
end Pf

/-! Pf12: defs that change their first things; fields stored; new objects. -/
namespace Pf
open PySem PySem.Spec L2

section
variable {P : Program} {w : World} {K : PySem.W.Frag} {mg : Str → Option Value} {base : Heap}
theorem owS_len {F H : Hp} {S : Addr → Prop} : ∀ {vs : List V} {ss : List Sl}, OwS K F H S vs ss → vs.length = ss.length
  | _, _, .nil => rfl
  | _, _, .cons _ _ _ t => by rw [List.length_cons, List.length_cons, owS_len t]
theorem owS_get {F H : Hp} {S : Addr → Prop} : ∀ {vs : List V} {ss : List Sl} {i : Nat} {s : Sl}, OwS K F H S vs ss → ss[i]? = some s → ∃ v fp, vs[i]? = some v ∧ Ow K F H v s fp ∧ ∀ a ∈ fp, S a
  | _, _, _, _, .nil, e => by cases e
  | _, _, 0, _, .cons (v := v) fp h hs t, e => by
    cases e
    exact ⟨v, fp, rfl, h, hs⟩
  | _, _, i + 1, _, .cons fp h hs t, e => owS_get (i := i) t e
/-- the footprints of the single things -/
theorem owAll_fps {F H : Hp} : ∀ {vs : List V} {ss : List Sl} {fp : List Addr}, OwAll K F H vs ss fp → fp.Nodup →
    ∃ f : Nat → List Addr, (∀ (i : Nat) (s : Sl), ss[i]? = some s → ∃ v, vs[i]? = some v ∧ Ow K F H v s (f i) ∧ (f i).Nodup ∧ ∀ a ∈ f i, a ∈ fp) ∧ (∀ i, ss.length ≤ i → f i = []) ∧ ∀ i j a, i ≠ j → a ∈ f i → a ∉ f j
  | _, _, _, .nil, _ => ⟨fun _ => [], (fun i s e => by cases e), (fun _ _ => rfl), (fun _ _ _ _ m => nomatch m)⟩
  | _, _, _, .cons (v := v) (s := s) (ss := ss) (fp := fp) (fps := fps) h t, nd => by
    obtain ⟨n1, n2, n3⟩ := List.nodup_append.mp nd
    obtain ⟨f, h1, h2, h3⟩ := owAll_fps t n2
    refine ⟨fun i => match i with | 0 => fp | i + 1 => f i, fun i s' e => ?_, fun i hl => ?_, fun i j a hne m => ?_⟩
    · cases i with
      | zero =>
        cases e
        exact ⟨v, rfl, h, n1, fun a m => List.mem_append_left _ m⟩
      | succ i =>
        obtain ⟨v', a1, a2, a3, a4⟩ := h1 i s' e
        exact ⟨v', a1, a2, a3, fun a m => List.mem_append_right _ (a4 a m)⟩
    · cases i with
      | zero => exact absurd hl (Nat.not_succ_le_zero _)
      | succ i => exact h2 i (Nat.le_of_succ_le_succ hl)
    · have inS : ∀ i a, a ∈ f i → a ∈ fps := fun i a m => by
        by_cases hl : i < ss.length
        · obtain ⟨_, _, _, _, a4⟩ := h1 i _ (List.getElem?_eq_getElem hl)
          exact a4 a m
        · rw [h2 i (Nat.le_of_not_lt hl)] at m
          cases m
      cases i with
      | zero =>
        cases j with
        | zero => exact absurd rfl hne
        | succ j => exact fun m2 => n3 a m a (inS j a m2) rfl
      | succ i =>
        cases j with
        | zero => exact fun m2 => n3 a m2 a (inS i a m) rfl
        | succ j => exact h3 i j a (fun z => hne (by rw [z])) m
theorem initI_get {nN : Nat} {ss bs : List Sl} {i : Nat} {r : Rv} (e : (initI nN ss bs)[i]? = some (some r)) : (∃ s, ss[i]? = some s ∧ r = ⟨.own, s⟩) ∨ (ss.length ≤ i ∧ ∃ s, bs[i - ss.length]? = some s ∧ r = parR s) := by
  unfold initI at e
  rw [List.append_assoc] at e
  by_cases hl : i < ss.length
  · rw [List.getElem?_append_left (by rw [List.length_map]; exact hl), List.getElem?_map, List.getElem?_eq_getElem hl] at e
    cases e
    exact .inl ⟨_, List.getElem?_eq_getElem hl, rfl⟩
  · rw [List.getElem?_append_right (by rw [List.length_map]; omega), List.length_map] at e
    refine .inr ⟨Nat.le_of_not_lt hl, ?_⟩
    by_cases hb : i - ss.length < bs.length
    · rw [List.getElem?_append_left (by rw [List.length_map]; exact hb), List.getElem?_map, List.getElem?_eq_getElem hb] at e
      cases e
      exact ⟨_, List.getElem?_eq_getElem hb, rfl⟩
    · rw [List.getElem?_append_right (by rw [List.length_map]; omega), List.getElem?_replicate] at e
      split at e <;> cases e
theorem envS_io {F H : Hp} {N : List Str} {us ws : List V} {ss bs : List Sl} {fp : List Addr} (e : Same F H) (oa : OwAll K F H us ss fp) (nd : fp.Nodup) (nf : ∀ a ∈ fp, F a = none) (os : OwS K F H (fun a => H a ≠ none ∧ a ∉ fp) ws bs) :
    EnvS K (ioB F H fp us) F H (L2.start N (us ++ ws)) (initI N.length ss bs) := by
  obtain ⟨f, h1, h2, h3⟩ := owAll_fps oa nd
  have l1 := owAll_len oa
  have l2 := owS_len os
  refine ⟨⟨Same.refl F, e, fun _ _ _ z => z, fun _ _ _ z => z, fun a h => h⟩, ?_, fun i v z => ?_, f, fun i r z => ?_, fun i j r r' a hne _ _ m => h3 i j a hne m⟩
  · simp [L2.start, initI, l1, l2]
  · have z : us[i]? = some v := z
    have hl := (List.getElem?_eq_some_iff.mp z).1
    exact start_get (by rw [List.getElem?_append_left hl]; exact z)
  · rcases initI_get z with ⟨s, hs, rfl⟩ | ⟨hle, s, hs, rfl⟩
    · obtain ⟨v, hv, ow, n1, sub⟩ := h1 i s hs
      have hl := (List.getElem?_eq_some_iff.mp hv).1
      exact ⟨v, start_get (by rw [List.getElem?_append_left hl]; exact hv), ow, n1, fun a m => ⟨nf a (sub a m), .inr (sub a m)⟩⟩
    · obtain ⟨v, fq, hv, ow, hS⟩ := owS_get os hs
      rw [h2 i hle]
      exact ⟨v, start_get (by rw [List.getElem?_append_right (by rw [l1]; exact hle), l1]; exact hv), parR_slot ow hS⟩
/-- a def that changes its first np things -/
theorem fn_io {x qual : Str} {st : Stmt} {f : Addr} {fd : FuncData} {N ps : List Str} {k np nb : Nat} {ms : MrS} (hps : np + nb = ps.length) (Fu : Fun K x qual st f fd) (S : FnScope N ps (defScope st))
    (hbody : ∀ (cdv : Value) (A : Around) (outer : List PySem.Env) (s : Shared) (H : Hp) (E : XK), Room k (A.deeper (PyProof.Rows.envOfC qual (defScope st) s.heap.objs.size f cdv)) →
      ∃ t, PxSs (cxOf (L2.CX P w) P w K mg base N qual (defScope st) f cdv A outer s H E) E np (defBody st) ms t) : FnOk P w K mg base (L2.CX P w) (k + 1) f fd ps (spI K np (runI np nb N.length ms)) := by
  have chk : ∀ {H : Hp} {Q : VK} {E : XK} {F : Hp} {us : List V} {fp : List Addr} {ss bs : List Sl}, PostI2 K E Q F H us fp (runI np nb N.length ms ss bs) → ss.length = np ∧ bs.length = nb := fun {H Q E F us fp ss bs} p => by
    by_cases hl : ss.length = np ∧ bs.length = nb
    · exact hl
    · unfold runI at p
      rw [if_neg hl] at p
      exact p.elim
  refine Fu.okX S (fun vs H Q E h => ?_) (fun cdv A outer s H vs Q E hr h => ?_)
  · obtain ⟨F, us, ws, ss, bs, fp, rfl, l, e, oa, nd, nf, os, p⟩ := h
    have c := chk p
    rw [List.length_append, l, owS_len os, c.2, hps]
  · obtain ⟨t, ht⟩ := hbody cdv A outer s H E hr
    refine ⟨t, ht.ps, ?_⟩
    obtain ⟨F, us, ws, ss, bs, fp, rfl, l, e, oa, nd, nf, os, p⟩ := h
    have c := chk p
    unfold runI at p
    rw [if_pos c] at p
    exact ht.sim _ F H _ (initI N.length ss bs) _ (Nat.le_of_eq l) (envS_io e oa nd nf os) (io_end l p)
end

/-! ### a field stored -/
def putN (f : Str) (s : Sl) : List Str → List Sl → List Str × List Sl
  | n :: ns, x :: xs => if n = f then (n :: ns, s :: xs) else (n :: (putN f s ns xs).1, x :: (putN f s ns xs).2)
  | _, _ => ([f], [s])
def fld1 (i : Nat) (cs : List Str) (f : Str) (Γ : Gm) (z : Rz Rv) : Oz := match z with
  | .ok ⟨.own, s⟩ => (match Γ[i]? with
    | some (some ⟨.own, .node (.O c ns) xs⟩) => if c ∈ cs ∧ ns.length < 900 ∧ ns.length = xs.length then .nx (Γ.set i (some ⟨.own, .node (.O c (putN f s ns xs).1) (putN f s ns xs).2⟩)) else .no
    | _ => .no)
  | .er c => .er c Γ
  | _ => .no
def sFldS (i : Nat) (cs : List Str) (f : Str) (m : Mr) : MrS := fun Γ => fld1 i cs f Γ (m Γ)
section
variable {K : PySem.W.Frag} {E : XK} {np : Nat}
theorem putN_ok {F H : Hp} {f : Str} {y : V} {s : Sl} {fy : List Addr} (oy : Ow K F H y s fy) : ∀ {ns : List Str} {vs : List V} {xs : List Sl} {fp : List Addr}, OwAll K F H vs xs fp → ns.length = vs.length → fp.Nodup → (∀ a ∈ fp, a ∉ fy) → fy.Nodup →
    ∃ vs' fq, putF f y (ns.zip vs) = (putN f s ns xs).1.zip vs' ∧ (putN f s ns xs).1.length = vs'.length ∧ OwAll K F H vs' (putN f s ns xs).2 fq ∧ fq.Nodup ∧ ∀ a ∈ fq, a ∈ fp ∨ a ∈ fy
  | [], [], _, _, .nil, _, _, _, ny => ⟨[y], fy, rfl, rfl, owAll_one oy, ny, fun a m => .inr m⟩
  | [], _ :: _, _, _, _, l, _, _, _ => by cases l
  | _ :: _, [], _, _, _, l, _, _, _ => by cases l
  | n :: ns, v :: vs, _, _, .cons (s := x) (ss := xs) (fp := f1) (fps := f2) h t, l, nd, dis, ny => by
    obtain ⟨n1, n2, n3⟩ := List.nodup_append.mp nd
    by_cases e : n = f
    · refine ⟨y :: vs, fy ++ f2, ?_, ?_, ?_, ?_, fun a m => ?_⟩
      · show (if n = f then (n, y) :: ns.zip vs else _) = (if n = f then (n :: ns, s :: xs) else _).1.zip (y :: vs)
        rw [if_pos e, if_pos e]
        rfl
      · show (if n = f then (n :: ns, s :: xs) else _).1.length = _
        rw [if_pos e]
        exact l
      · show OwAll K F H (y :: vs) (if n = f then (n :: ns, s :: xs) else _).2 _
        rw [if_pos e]
        exact .cons oy t
      · exact List.nodup_append.mpr ⟨ny, n2, fun a m b m' z => dis b (List.mem_append_right _ m') (by rw [← z]; exact m)⟩
      · rcases List.mem_append.mp m with m | m
        · exact .inr m
        · exact .inl (List.mem_append_right _ m)
    · obtain ⟨vs', fq, q1, q2, q3, q4, q5⟩ := putN_ok oy t (Nat.succ.inj l) n2 (fun a m => dis a (List.mem_append_right _ m)) ny
      refine ⟨v :: vs', f1 ++ fq, ?_, ?_, ?_, ?_, fun a m => ?_⟩
      · show (if n = f then _ else (n, v) :: putF f y (ns.zip vs)) = (if n = f then _ else (n :: (putN f s ns xs).1, x :: (putN f s ns xs).2)).1.zip (v :: vs')
        rw [if_neg e, if_neg e, q1]
        rfl
      · show (if n = f then _ else (n :: (putN f s ns xs).1, x :: (putN f s ns xs).2)).1.length = _
        rw [if_neg e, List.length_cons, List.length_cons, q2]
      · show OwAll K F H (v :: vs') (if n = f then _ else (n :: (putN f s ns xs).1, x :: (putN f s ns xs).2)).2 _
        rw [if_neg e]
        exact .cons h q3
      · refine List.nodup_append.mpr ⟨n1, q4, fun a m b m' z => ?_⟩
        subst z
        rcases q5 a m' with w | w
        · exact n3 a m a w rfl
        · exact dis a (List.mem_append_left _ m) w
      · rcases List.mem_append.mp m with m | m
        · exact .inl (List.mem_append_left _ m)
        · exact (q5 a m).imp (fun z => List.mem_append_right _ z) fun z => z
theorem simS_fld {i : Nat} {cs : List Str} {f : Str} {te : TE} {me : Mr} (hc : ∀ c ∈ cs, Cls K (He.ga K c) ∧ NoAttr K (He.ga K c) f) (h : Sim K E te me) : SimS K E np (L2.sFld K (tVar i) te f) (sFldS i cs f me) := by
  intro B F H σ Γ D hp en p
  have p0 : PostS K B E D (fld1 i cs f Γ (me Γ)) := p
  refine h.stm en (fun c q => by rw [q] at p0; exact fun F' H' en' => p0 F' H' σ en') (fun q => by rw [q] at p0; exact p0) fun r v F' H' fy q st ro nw => ?_
  rw [q] at p0
  obtain ⟨fl, s⟩ := r
  cases fl with
  | par => exact p0.elim
  | bor => exact p0.elim
  | own =>
    have oy : Ow K F' H' v s fy := ro
    have p1 : PostS K B E D (match Γ[i]? with
      | some (some ⟨.own, .node (.O c ns) xs⟩) => if c ∈ cs ∧ ns.length < 900 ∧ ns.length = xs.length then .nx (Γ.set i (some ⟨.own, .node (.O c (putN f s ns xs).1) (putN f s ns xs).2⟩)) else .no
      | _ => .no) := p0
    split at p1
    · rename_i c ns xs hs
      by_cases hh : c ∈ cs ∧ ns.length < 900 ∧ ns.length = xs.length
      · rw [if_pos hh] at p1
        obtain ⟨a, o, vs, fp, hv, ha, sh, t, nd, k⟩ := en.own_slot hs
        obtain ⟨hl, dx, rfl⟩ := sh
        obtain ⟨c1, c2⟩ := hc c hh.1
        have t' := owAll_mono st.ff t fun b _ o z => st.hh b o z
        obtain ⟨vs', fq, q1, q2, q3, q4, q5⟩ := putN_ok (f := f) oy t' hl nd (fun a m m' => owAll_dom t a m (nw.nh a m')) nw.nd
        refine ⟨_, hv, a, _, dx, _, rfl, st.hh _ _ ha, c1, c2, ?_, ?_⟩
        · rw [List.length_zip, ← hl, Nat.min_self]
          omega
        · rw [q1]
          exact p1 F' _ σ (k F' H' _ (.O c (putN f s ns xs).1) vs' _ fq fy st nw ⟨q2, dx, rfl⟩ q3 q4 q5)
      · rw [if_neg hh] at p1
        exact p1.elim
    · exact p1.elim
end
theorem pxs_fld {X : Cx} {E : XK} {np i : Nat} {cs : List Str} {f x : Str} {e : Expr} {me : Mr} {te : TE} {pos pos' pos2 : Pos} (hN : X.N[i]? = some x) (hv : Vis X.env.scope x) (hc : ∀ c ∈ cs, Cls X.K (He.ga X.K c) ∧ NoAttr X.K (He.ga X.K c) f) (he : Px X E e me te)
    (hs : swapsWith e (some (.Attribute (.Name x pos2) f pos')) pos.line X.env = pure false := by rfl) (hd : (x == ("__debug__" : Str)) = false := by decide) (hcd : (x == ("__classdict__" : Str)) = false := by decide) :
    PxS X E np (.Assign [.Attribute (.Name x pos2) f pos'] e pos) (sFldS i cs f me) (L2.sFld X.K (tVar i) te f) := ⟨ps_fld (pe_var hN hv hd hcd) he.pe hs, simS_fld hc he.sim⟩

/-! ### new objects -/
def mk1 (z : Oi) : Rz Rv := match z with
  | .ok ⟨_, .dat .none⟩ [s] => .ok ⟨.own, s⟩
  | .er c _ => .er c
  | _ => .no
def eMake (c : Str) (m : Fi) (as : MrA) : Mr := fun Γ => (as Γ).bind fun rs => mk1 (m [.node (.O c []) []] (rs.map Rv.s))
section
variable {K : PySem.W.Frag} {E : XK} {F H F1 H1 : Hp}
theorem owL_S {G : Hp} {S : Addr → Prop} (k : ∀ a o, H a = some o → G a = some o) (hS : ∀ a, H a ≠ none → S a) : ∀ {vs : List V} {ss : List Sl}, OwL K F H vs ss → OwS K F G S vs ss
  | _, _, .nil => .nil
  | _, _, .cons fp h t => .cons fp (ow_mono (Same.refl F) h fun a _ o z => k a o z) (fun a m => hS a (ow_dom h a m)) (owL_S k hS t)
theorem sim_make {c : Str} {m : Fi} {t : TA} {ma : MrA} (h : SimA K E t ma) : Sim K E (tMake (He.ga K c) (spI K 1 m) [] E t) (eMake c m ma) := by
  intro S F H σ Γ Q e en p
  refine h.bind e en p fun rs vs F1 H1 fp q st ro nw p1 => ?_
  intro x dx hx hdx hne
  rw [List.append_nil]
  have k1 : ∀ a o, H1 a = some o → (upd (upd H1 dx (.own x)) x (.ins (He.ga K c) dx [])) a = some o := fun a o z => by
    rw [upd_ne (ne_of_none z hx), upd_ne (ne_of_none z hdx)]
    exact z
  have e1 : Same F1 (upd (upd H1 dx (.own x)) x (.ins (He.ga K c) dx [])) := fun a o z => k1 a o (st.fh a o z)
  have oa : OwAll K F1 (upd (upd H1 dx (.own x)) x (.ins (He.ga K c) dx [])) [.ref x] [.node (.O c []) []] [x] := owAll_one (.node (vs := []) upd_same ⟨rfl, dx, rfl⟩ .nil)
  have hnone : ∀ a, (upd (upd H1 dx (.own x)) x (.ins (He.ga K c) dx [])) a = none → H1 a = none := fun a z => by
    cases q : H1 a with
    | none => rfl
    | some o =>
      rw [k1 a o q] at z
      cases z
  refine ⟨F1, [.ref x], vs, _, _, [x], rfl, rfl, e1, oa, List.nodup_cons.mpr ⟨(fun m => nomatch m), List.nodup_nil⟩, (fun a hm => by cases List.mem_singleton.mp hm; exact st.fh.free hx), owL_S k1 (fun a z => ⟨fun w => z (hnone a w), fun hm => by cases List.mem_singleton.mp hm; exact z hx⟩) ro.owL, ?_⟩
  · have p2 : Post K S E Q F H (mk1 (m [.node (.O c []) []] (rs.map Rv.s))) := p1
    have toStep : ∀ {F' H' : Hp}, StepB (ioB F1 (upd (upd H1 dx (.own x)) x (.ins (He.ga K c) dx [])) [x] [.ref x]) F' H' → Step F H F' H' := fun {F' H'} s2 => by
      refine ⟨st.ff.trans s2.ff, s2.fh, fun a o z => ?_, fun a z1 z2 => ?_⟩
      · have z' := st.hh a o z
        exact s2.hh a o (fun m => by cases List.mem_singleton.mp m; rw [hx] at z'; cases z') (k1 a o z')
      · have z' := same_ne st.hh z1
        exact s2.nw a (fun m => by cases List.mem_singleton.mp m; exact z' hx) (fun w => z' (hnone a w)) (st.nw a z1 z2)
    cases q2 : m [.node (.O c []) []] (rs.map Rv.s) with
    | no =>
      rw [q2] at p2
      exact p2.elim
    | er c ss =>
      rw [q2] at p2
      exact fun F' H' fp' s2 _ _ _ => p2 F' H' (toStep s2)
    | ok r ss =>
      rw [q2] at p2
      unfold mk1 at p2
      split at p2
      · rename_i fl s e
        cases e
        intro v F' H' fp' fq s2 oa2 rov nd2 ft
        have ev : v = .non := by
          obtain ⟨fz, o⟩ := rov.ow
          cases o with
          | dat hd =>
            cases hd
            rfl
        refine ⟨ev, ?_⟩
        cases oa2 with
        | cons ow t =>
          cases t
          rename_i f1
          rw [List.append_nil] at nd2 ft
          refine p2 _ F' H' f1 (toStep s2) ow ⟨(List.nodup_append.mp nd2).1, fun a m => (ft a (List.mem_append_left _ m)).1, fun a m => ?_⟩
          rcases (ft a (List.mem_append_left _ m)).2 with z | z
          · exact st.hh.free (hnone a z)
          · cases List.mem_singleton.mp z
            exact st.hh.free hx
      · rename_i e
        cases e
      · exact p2.elim
end
theorem px_make {X : Cx} {E : XK} {e : Expr} {es : List Expr} {me : MrA} {te : TA} {CX : CXT} {k : Nat} {f : Addr} {fd : FuncData} {ps : List Str} {m : Fi} {x : Str} {p pos : Pos} (M : Mk X.K (He.ga X.K x) f) (F : FnOk X.prog X.w X.K X.mg X.base CX k f fd ps (spI X.K 1 m)) (hr : Room (k + 1) X.A) (hg : Gl X x) (hm : X.mg x = some (.ref (He.ga X.K x))) (hb : Binds X.K fd ps []) (hx : Passes CX X E)
    (ha : PxA X E (e :: es) me te) (hdb : (x == ("__debug__" : Str)) = false := by decide) (he : starEach (e :: es) X.env = (false, eval e X.env) :: starEach es X.env := by rfl) (hpl : (backTo pos (starEach es X.env)).any (·.1) = false := by rfl) :
    Px X E (.Call (.Name x p) (e :: es) [] pos) (eMake x m me) (tMake (He.ga X.K x) (spI X.K 1 m) [] E te) := ⟨pe_make M F hr hg hm hb .nil hx ha.pa hdb he hpl, sim_make ha.sim⟩
end Pf

/-! Pf13: the primitives. -/
namespace Pf
open PySem PySem.Spec L2

section
variable {K : PySem.W.Frag} {F H : Hp}
theorem owL_1 {x : V} {ss : List Sl} (h : OwL K F H [x] ss) : ∃ s fp, ss = [s] ∧ Ow K F H x s fp := by
  cases h with
  | cons fp o t =>
    cases t
    exact ⟨_, fp, rfl, o⟩
theorem owL_2 {x y : V} {ss : List Sl} (h : OwL K F H [x, y] ss) : ∃ s t fp fq, ss = [s, t] ∧ Ow K F H x s fp ∧ Ow K F H y t fq := by
  cases h with
  | cons fp o t =>
    obtain ⟨s, fq, rfl, o2⟩ := owL_1 t
    exact ⟨_, _, fp, fq, rfl, o, o2⟩
theorem ow_int {x : V} {i : Int} {fp : List Addr} (h : Ow K F H x (.dat (.int i)) fp) : x = .int i := by
  cases h with
  | dat hd =>
    cases hd
    rfl
theorem ow_bool {x : V} {i : Bool} {fp : List Addr} (h : Ow K F H x (.dat (.bool i)) fp) : x = .bl i := by
  cases h with
  | dat hd =>
    cases hd
    rfl
theorem OpR.via {X : Cx} {g : Value → Value → Sem Value} {r' : R2} (h : ∀ x y H Q, r' x y H Q → ∃ r, OpR X g r ∧ r x y H Q) : OpR X g r' := fun pins s σ H x y v u Q I rx ry q =>
  let ⟨_, h1, h2⟩ := h x y H Q q
  h1 pins s σ H x y v u Q I rx ry h2
theorem IxR.via {X : Cx} {r' : R2} (h : ∀ x y H Q, r' x y H Q → ∃ r, IxR X r ∧ r x y H Q) : IxR X r' := fun value slice pins s σ H x y v u Q I rx ry q hs =>
  let ⟨_, h1, h2⟩ := h x y H Q q
  h1 value slice pins s σ H x y v u Q I rx ry h2 hs
theorem CallR.via {X : Cx} {f : Value} {r' : List V → Hp → VK → Prop} (h : ∀ xs H Q, r' xs H Q → ∃ r, CallR X f r ∧ r xs H Q) : CallR X f r' := fun pins s σ H xs us Q I rs q =>
  let ⟨_, h1, h2⟩ := h xs H Q q
  h1 pins s σ H xs us Q I rs h2
end

/-! ### numbers -/
def iOp (g : Int → Int → Option PyData) : List Sl → Option Sl
  | [.dat (.int a), .dat (.int b)] => (g a b).map .dat
  | _ => none
theorem iOp_some {g : Int → Int → Option PyData} {a b s : Sl} (h : iOp g [a, b] = some s) : ∃ i j d, a = .dat (.int i) ∧ b = .dat (.int j) ∧ g i j = some d ∧ s = .dat d := by
  unfold iOp at h
  split at h
  · rename_i i j e
    cases e
    cases q : g i j with
    | none =>
      rw [q] at h
      cases h
    | some d =>
      rw [q] at h
      cases h
      exact ⟨i, j, d, rfl, rfl, q, rfl⟩
  · cases h
section
variable {X : Cx}
theorem opd_int {fn : Value → Value → Sem Value} {C : Int → Int → Prop} {gv : Int → Int → V} {g : Int → Int → Option PyData} (h : OpR X fn (rI C gv)) (hg : ∀ i j d, g i j = some d → C i j ∧ ∀ F, Dq F (gv i j) d) : OpD X fn (iOp g) := by
  refine OpR.via fun x y H Q q => ⟨_, h, ?_⟩
  obtain ⟨F, ss, s, e, ol, fs, k⟩ := q
  obtain ⟨a, b, fa, fb, rfl, oa, ob⟩ := owL_2 ol
  obtain ⟨i, j, d, rfl, rfl, gd, rfl⟩ := iOp_some fs
  obtain ⟨c, dq⟩ := hg i j d gd
  exact ⟨i, j, ow_int oa, ow_int ob, c, k _ F H [] (Step.refl e) (.dat (dq F)) New.nil⟩
theorem opr_c {fn : Value → Value → Sem Value} {gv : Int → Int → V} (h : OpR X fn (rI0 gv)) : OpR X fn (rI (fun _ _ => True) gv) := OpR.via fun x y H Q ⟨i, j, a, b, _, q⟩ => ⟨_, h, i, j, a, b, q⟩
def dSub (i j : Int) : Option PyData := some (.int (i - j))
def dMulI (i j : Int) : Option PyData := if (-(2 ^ 64) < i ∧ i < 2 ^ 64) ∨ (-(2 ^ 64) < j ∧ j < 2 ^ 64) then some (.int (i * j)) else none
def dMod (i j : Int) : Option PyData := if 0 < j then some (.int (i % j)) else none
def dDiv (i j : Int) : Option PyData := if 0 < j ∧ j < 1073741824 then some (.int (i / j)) else none
def dPow (i j : Int) : Option PyData := if 0 ≤ j ∧ j ≤ 1000000 ∧ i.natAbs < 2 ^ 64 then some (.int (i ^ j.toNat)) else none
def dLt (i j : Int) : Option PyData := some (.bool (decide (i < j)))
def dLe (i j : Int) : Option PyData := some (.bool (decide (i ≤ j)))
def dGt (i j : Int) : Option PyData := some (.bool (decide (j < i)))
def dGe (i j : Int) : Option PyData := some (.bool (decide (j ≤ i)))
abbrev pSub := iOp dSub
abbrev pMod := iOp dMod
abbrev pDiv := iOp dDiv
abbrev pPow := iOp dPow
abbrev pLt := iOp dLt
abbrev pLe := iOp dLe
abbrev pGt := iOp dGt
abbrev pGe := iOp dGe
theorem od_sub : OpD X (binaryOp .Sub) pSub := opd_int (opr_c op_sub) fun i j d h => by cases h; exact ⟨trivial, fun _ => .int _⟩
theorem od_lt : OpD X (compareOp .Lt) pLt := opd_int (opr_c op_lt) fun i j d h => by cases h; exact ⟨trivial, fun _ => .bl _⟩
theorem od_le : OpD X (compareOp .LtE) pLe := opd_int (opr_c op_le) fun i j d h => by cases h; exact ⟨trivial, fun _ => .bl _⟩
theorem od_gt : OpD X (compareOp .Gt) pGt := opd_int (opr_c op_gt) fun i j d h => by cases h; exact ⟨trivial, fun _ => .bl _⟩
theorem od_ge : OpD X (compareOp .GtE) pGe := opd_int (opr_c op_ge) fun i j d h => by cases h; exact ⟨trivial, fun _ => .bl _⟩
theorem od_mod : OpD X (binaryOp .Mod) pMod := opd_int op_mod fun i j d h => by
  unfold dMod at h
  split at h
  · cases h
    exact ⟨by assumption, fun _ => .int _⟩
  · cases h
theorem od_div : OpD X (binaryOp .FloorDiv) pDiv := opd_int op_fdiv fun i j d h => by
  unfold dDiv at h
  split at h
  · rename_i c
    cases h
    exact ⟨c, fun _ => .int _⟩
  · cases h
theorem od_pow : OpD X (binaryOp .Pow) pPow := opd_int op_pow fun i j d h => by
  unfold dPow at h
  split at h
  · rename_i c
    cases h
    exact ⟨c, fun _ => .int _⟩
  · cases h
def pNeg : List Sl → Option Sl
  | [.dat (.int a)] => some (.dat (.int (-a)))
  | _ => none
theorem ud_neg : UnD X (unaryOp .USub) pNeg := fun pins s σ H x v Q I rx q => by
  obtain ⟨F, ss, t, e, ol, fs, k⟩ := q
  obtain ⟨a, fa, rfl, oa⟩ := owL_1 ol
  unfold pNeg at fs
  split at fs
  · rename_i i e2
    cases e2
    cases fs
    exact un_neg pins s σ H x v Q I rx ⟨i, ow_int oa, k _ F H [] (Step.refl e) (.dat (.int _)) New.nil⟩
  · cases fs
end

/-! ### lists: their items -/
def itsD : Sl → Option (List PyData)
  | .dat (.list ds) => some ds
  | .node .L xs => datAll xs
  | _ => none
def itsTD : Sl → Option (List PyData)
  | .dat (.tuple ds) => some ds
  | .node .T xs => datAll xs
  | _ => none
/-- a list of any kind, the script too -/
def itsS : Sl → Option (List PyData)
  | .dat (.list ds) => some ds
  | .node .L xs => datAll xs
  | .node .S xs => datAll xs
  | _ => none
section
variable {K : PySem.W.Frag} {F H : Hp}
theorem itsD_ow {v : V} {s : Sl} {fp : List Addr} {ds : List PyData} (e : Same F H) (h : Ow K F H v s fp) (q : itsD s = some ds) : ∃ a xs, v = .ref a ∧ H a = some (.lst xs) ∧ DqAll F xs ds := by
  cases h with
  | dat hd =>
    cases hd with
    | lst sq all =>
      cases q
      exact ⟨_, _, rfl, e _ _ sq, all⟩
    | _ => cases q
  | node ha sh t =>
    rename_i k o vs xs fp
    cases k with
    | L =>
      have sh' : _ = HO.lst _ := sh
      subst sh'
      exact ⟨_, _, rfl, ha, datAll_dp t q⟩
    | _ => cases q
theorem itsTD_ow {v : V} {s : Sl} {fp : List Addr} {ds : List PyData} (e : Same F H) (h : Ow K F H v s fp) (q : itsTD s = some ds) : ∃ a xs, v = .ref a ∧ H a = some (.tup xs) ∧ DqAll F xs ds := by
  cases h with
  | dat hd =>
    cases hd with
    | tup sq all =>
      cases q
      exact ⟨_, _, rfl, e _ _ sq, all⟩
    | _ => cases q
  | node ha sh t =>
    rename_i k o vs xs fp
    cases k with
    | T =>
      have sh' : _ = HO.tup _ := sh
      subst sh'
      exact ⟨_, _, rfl, ha, datAll_dp t q⟩
    | _ => cases q
theorem itsS_ow {v : V} {s : Sl} {fp : List Addr} {ds : List PyData} (e : Same F H) (h : Ow K F H v s fp) (q : itsS s = some ds) : ∃ a xs, v = .ref a ∧ SqL K H a xs ∧ DqAll F xs ds := by
  cases h with
  | dat hd =>
    cases hd with
    | lst sq all =>
      cases q
      exact ⟨_, _, rfl, SqL.of (e _ _ sq), all⟩
    | _ => cases q
  | node ha sh t =>
    rename_i k o vs xs fp
    cases k with
    | L =>
      have sh' : _ = HO.lst _ := sh
      subst sh'
      exact ⟨_, _, rfl, SqL.of ha, datAll_dp t q⟩
    | S =>
      obtain ⟨ob, rfl⟩ := sh
      exact ⟨_, _, rfl, .inl (.inr ⟨ob, ha⟩), datAll_dp t q⟩
    | _ => cases q
theorem dqAll_append : ∀ {xs ys : List V} {ds es : List PyData}, DqAll F xs ds → DqAll F ys es → DqAll F (xs ++ ys) (ds ++ es)
  | _, _, _, _, .nil, h => h
  | _, _, _, _, .cons a b, h => .cons a (dqAll_append b h)
theorem dqAll_take : ∀ (n : Nat) {xs : List V} {ds : List PyData}, DqAll F xs ds → DqAll F (xs.take n) (ds.take n)
  | 0, _, _, _ => by
    rw [List.take_zero, List.take_zero]
    exact .nil
  | n + 1, _, _, .nil => .nil
  | n + 1, _, _, .cons a b => .cons a (dqAll_take n b)
theorem dqAll_drop : ∀ (n : Nat) {xs : List V} {ds : List PyData}, DqAll F xs ds → DqAll F (xs.drop n) (ds.drop n)
  | 0, _, _, h => h
  | n + 1, _, _, .nil => .nil
  | n + 1, _, _, .cons a b => dqAll_drop n b
theorem dqAll_rev : ∀ {xs : List V} {ds : List PyData}, DqAll F xs ds → DqAll F xs.reverse ds.reverse
  | _, _, .nil => .nil
  | _, _, .cons a b => by
    rw [List.reverse_cons, List.reverse_cons]
    exact dqAll_append (dqAll_rev b) (.cons a .nil)
theorem dqAll_flat {xs : List V} {ds : List PyData} (h : DqAll F xs ds) : ∀ n : Nat, DqAll F (List.replicate n xs).flatten (List.replicate n ds).flatten
  | 0 => .nil
  | n + 1 => by
    rw [List.replicate_succ, List.replicate_succ, List.flatten_cons, List.flatten_cons]
    exact dqAll_append h (dqAll_flat h n)
theorem owAll_dat : ∀ {xs : List V} {ds : List PyData}, DqAll F xs ds → OwAll K F H xs (ds.map .dat) []
  | _, _, .nil => .nil
  | _, _, .cons a b => .cons (fp := []) (.dat a) (owAll_dat b)
def newL (ds : List PyData) : Sl := .node .L (ds.map .dat)
/-- a new list of frozen data -/
theorem new_list {xs : List V} {ds : List PyData} {p : Addr} (e : Same F H) (hp : H p = none) (h : DqAll F xs ds) : Step F H F (upd H p (.lst xs)) ∧ Ow K F (upd H p (.lst xs)) (.ref p) (newL ds) [p] ∧ New F H [p] :=
  new_node (k := .L) (Step.refl e) hp rfl (owAll_dat h) New.nil
end

/-! ### + and * -/
def pAdd : List Sl → Option Sl := fun ss => match ss with
  | [.dat (.int a), .dat (.int b)] => some (.dat (.int (a + b)))
  | [a, b] => (match itsD a, itsD b with
    | some ds, some es => if ds.length + es.length ≤ most then some (newL (ds ++ es)) else none
    | _, _ => none)
  | _ => none
def pMul : List Sl → Option Sl := fun ss => match ss with
  | [.dat (.int a), .dat (.int b)] => (dMulI a b).map .dat
  | [a, .dat (.int k)] => (match itsD a with
    | some ds => if -(2 ^ 63) ≤ k ∧ k < 2 ^ 63 ∧ ds.length * k.toNat ≤ most then some (newL (List.replicate k.toNat ds).flatten) else none
    | none => none)
  | _ => none
section
variable {X : Cx}
theorem od_add : OpD X (binaryOp .Add) pAdd := by
  refine OpR.via fun x y H Q q => ?_
  obtain ⟨F, ss, s, e, ol, fs, k⟩ := q
  obtain ⟨a, b, fa, fb, rfl, oa, ob⟩ := owL_2 ol
  unfold pAdd at fs
  split at fs
  · rename_i i j e2
    cases e2
    cases fs
    exact ⟨_, op_add, i, j, ow_int oa, ow_int ob, k _ F H [] (Step.refl e) (.dat (.int _)) New.nil⟩
  · rename_i a' b' _ e2
    cases e2
    cases q1 : itsD a with
    | none =>
      rw [q1] at fs
      cases fs
    | some ds =>
      cases q2 : itsD b with
      | none =>
        rw [q1, q2] at fs
        cases fs
      | some es =>
        rw [q1, q2] at fs
        have fs : (if ds.length + es.length ≤ most then some (newL (ds ++ es)) else none) = some s := fs
        by_cases hl : ds.length + es.length ≤ most
        · rw [if_pos hl] at fs
          cases fs
          obtain ⟨p1, xs, rfl, h1, d1⟩ := itsD_ow e oa q1
          obtain ⟨p2, ys, rfl, h2, d2⟩ := itsD_ow e ob q2
          refine ⟨_, op_cat, p1, p2, xs, ys, rfl, rfl, h1, h2, by rw [dpAll_len d1, dpAll_len d2]; exact most_ok hl, fun p hp => ?_⟩
          obtain ⟨s1, s2, s3⟩ := new_list (K := X.K) e hp (dqAll_append d1 d2)
          exact k _ _ _ _ s1 s2 s3
        · rw [if_neg hl] at fs
          cases fs
  · cases fs
theorem od_mul : OpD X (binaryOp .Mult) pMul := by
  refine OpR.via fun x y H Q q => ?_
  obtain ⟨F, ss, s, e, ol, fs, k⟩ := q
  obtain ⟨a, b, fa, fb, rfl, oa, ob⟩ := owL_2 ol
  unfold pMul at fs
  split at fs
  · rename_i i j e2
    cases e2
    unfold dMulI at fs
    split at fs
    · rename_i c
      cases fs
      exact ⟨_, op_mul, i, j, ow_int oa, ow_int ob, c, k _ F H [] (Step.refl e) (.dat (.int _)) New.nil⟩
    · cases fs
  · rename_i a' j _ e2
    cases e2
    cases q1 : itsD a with
    | none =>
      rw [q1] at fs
      cases fs
    | some ds =>
      rw [q1] at fs
      have fs : (if -(2 ^ 63) ≤ j ∧ j < 2 ^ 63 ∧ ds.length * j.toNat ≤ most then some (newL (List.replicate j.toNat ds).flatten) else none) = some s := fs
      by_cases hl : -(2 ^ 63) ≤ j ∧ j < 2 ^ 63 ∧ ds.length * j.toNat ≤ most
      · rw [if_pos hl] at fs
        cases fs
        obtain ⟨p1, xs, rfl, h1, d1⟩ := itsD_ow e oa q1
        refine ⟨_, op_rep, p1, j, xs, rfl, ow_int ob, h1, hl.1, hl.2.1, by rw [dpAll_len d1]; exact most_ok hl.2.2, fun p hp => ?_⟩
        obtain ⟨s1, s2, s3⟩ := new_list (K := X.K) e hp (dqAll_flat d1 j.toNat)
        exact k _ _ _ _ s1 s2 s3
      · rw [if_neg hl] at fs
        cases fs
  · cases fs

/-! ### ==, !=, in, is -/
def shp (d : PyData) : Bool := SeqAt.shaped d
def pEq : List Sl → Option Sl := fun ss => match ss with
  | [a, b] => (match toW a, toW b with
    | some d, some e => if shp d = true ∧ shp e = true then some (.dat (.bool (PyData.eqv d e))) else none
    | _, _ => none)
  | _ => none
def pNe : List Sl → Option Sl := fun ss => match ss with
  | [a, b] => (match toW a, toW b with
    | some d, some e => if shp d = true ∧ shp e = true then some (.dat (.bool (!PyData.eqv d e))) else none
    | _, _ => none)
  | _ => none
theorem eq_some {ss : List Sl} {g : PyData → PyData → Bool} {s : Sl} {a b : Sl} (h : (match toW a, toW b with
    | some d, some e => if shp d = true ∧ shp e = true then some (Sl.dat (.bool (g d e))) else none
    | _, _ => none) = some s) : ∃ d e, toW a = some d ∧ toW b = some e ∧ SeqAt.shaped d = true ∧ SeqAt.shaped e = true ∧ s = .dat (.bool (g d e)) := by
  cases q1 : toW a with
  | none =>
    rw [q1] at h
    cases h
  | some d =>
    cases q2 : toW b with
    | none =>
      rw [q1, q2] at h
      cases h
    | some e =>
      rw [q1, q2] at h
      have h : (if shp d = true ∧ shp e = true then some (Sl.dat (.bool (g d e))) else none) = some s := h
      by_cases c : shp d = true ∧ shp e = true
      · rw [if_pos c] at h
        cases h
        exact ⟨d, e, rfl, rfl, c.1, c.2, rfl⟩
      · rw [if_neg c] at h
        cases h
theorem od_eq (hu : X.A.units + 64 < cLine) : OpD X (compareOp .Eq) pEq := by
  refine OpR.via fun x y H Q q => ⟨_, op_eqD hu, ?_⟩
  obtain ⟨F, ss, s, e, ol, fs, k⟩ := q
  obtain ⟨a, b, fa, fb, rfl, oa, ob⟩ := owL_2 ol
  obtain ⟨d, d2, t1, t2, s1, s2, rfl⟩ := eq_some (ss := []) (g := fun d e => PyData.eqv d e) fs
  exact ⟨d, d2, ow_dp e oa t1, ow_dp e ob t2, s1, s2, k _ F H [] (Step.refl e) (.dat (.bl _)) New.nil⟩
theorem od_ne (hu : X.A.units + 64 < cLine) : OpD X (compareOp .NotEq) pNe := by
  refine OpR.via fun x y H Q q => ⟨_, op_neD hu, ?_⟩
  obtain ⟨F, ss, s, e, ol, fs, k⟩ := q
  obtain ⟨a, b, fa, fb, rfl, oa, ob⟩ := owL_2 ol
  obtain ⟨d, d2, t1, t2, s1, s2, rfl⟩ := eq_some (ss := []) (g := fun d e => !PyData.eqv d e) fs
  exact ⟨d, d2, ow_dp e oa t1, ow_dp e ob t2, s1, s2, k _ F H [] (Step.refl e) (.dat (.bl _)) New.nil⟩
/-- is None -/
def isNon : Sl → Bool
  | .dat .none => true
  | _ => false
def pIsN : List Sl → Option Sl := fun ss => match ss with
  | [a, .dat .none] => some (.dat (.bool (isNon a)))
  | _ => none
def pNotN : List Sl → Option Sl := fun ss => match ss with
  | [a, .dat .none] => some (.dat (.bool (!isNon a)))
  | _ => none
theorem isNon_ow {K : PySem.W.Frag} {F H : Hp} {x : V} {a : Sl} {fp : List Addr} (h : Ow K F H x a fp) : decide (x = .non) = isNon a := by
  cases h with
  | dat hd => cases hd <;> rfl
  | node => rfl
theorem ow_none {K : PySem.W.Frag} {F H : Hp} {x : V} {fp : List Addr} (h : Ow K F H x (.dat .none) fp) : x = .non := by
  cases h with
  | dat hd =>
    cases hd
    rfl
theorem od_isN : OpD X (compareOp .Is) pIsN := by
  refine OpR.via fun x y H Q q => ⟨_, op_isN, ?_⟩
  obtain ⟨F, ss, s, e, ol, fs, k⟩ := q
  obtain ⟨a, b, fa, fb, rfl, oa, ob⟩ := owL_2 ol
  unfold pIsN at fs
  split at fs
  · rename_i e2
    cases e2
    cases fs
    refine ⟨ow_none ob, k _ F H [] (Step.refl e) ?_ New.nil⟩
    rw [← isNon_ow oa]
    exact .dat (.bl _)
  · cases fs
theorem od_notN : OpD X (compareOp .IsNot) pNotN := by
  refine OpR.via fun x y H Q q => ⟨_, op_notN, ?_⟩
  obtain ⟨F, ss, s, e, ol, fs, k⟩ := q
  obtain ⟨a, b, fa, fb, rfl, oa, ob⟩ := owL_2 ol
  unfold pNotN at fs
  split at fs
  · rename_i e2
    cases e2
    cases fs
    refine ⟨ow_none ob, k _ F H [] (Step.refl e) ?_ New.nil⟩
    rw [← isNon_ow oa]
    exact .dat (.bl _)
  · cases fs
end
end Pf

/-! Pf14: items, slices, len and the like, isinstance, enumerate, ranges with steps. -/
namespace Pf
open PySem PySem.Spec L2

section
variable {F : Hp}
theorem dqAll_get {vs : List V} {ds : List PyData} (h : DqAll F vs ds) {i : Nat} {d : PyData} (e : ds[i]? = some d) : ∃ v, vs[i]? = some v ∧ Dq F v d := by
  induction ds generalizing vs i with
  | nil => cases e
  | cons x ds ih =>
    cases h with
    | cons a b =>
      cases i with
      | zero =>
        cases e
        exact ⟨_, rfl, a⟩
      | succ i => exact ih b e
theorem atI_dq {vs : List V} {ds : List PyData} (h : DqAll F vs ds) {i : Int} {d : PyData} (e : atI ds i = some d) : ∃ v, atI vs i = some v ∧ Dq F v d := by
  unfold atI at e ⊢
  rw [dpAll_len h]
  cases q : ixN ds.length i with
  | none =>
    rw [q] at e
    cases e
  | some j =>
    rw [q] at e
    exact dqAll_get h e
end
def sIt (s : Sl) : Option (Bool × List PyData) := match itsS s with
  | some ds => some (true, ds)
  | none => (itsTD s).map fun ds => (false, ds)
def pIx : List Sl → Option Sl := fun ss => match ss with
  | [a, .dat (.int i)] => (match sIt a with
    | some (_, ds) => (atI ds i).map .dat
    | none => none)
  | _ => none
section
variable {X : Cx}
theorem ixd : IxD X pIx := by
  refine IxR.via fun x y H Q q => ?_
  obtain ⟨F, ss, s, e, ol, fs, k⟩ := q
  obtain ⟨a, b, fa, fb, rfl, oa, ob⟩ := owL_2 ol
  unfold pIx at fs
  split at fs
  · rename_i i e2
    cases e2
    cases q1 : sIt a with
    | none =>
      rw [q1] at fs
      cases fs
    | some bd =>
      obtain ⟨bl, ds⟩ := bd
      rw [q1] at fs
      have fs : (atI ds i).map Sl.dat = some s := fs
      cases q2 : atI ds i with
      | none =>
        rw [q2] at fs
        cases fs
      | some d =>
        rw [q2] at fs
        cases fs
        unfold sIt at q1
        cases q3 : itsS a with
        | some ds' =>
          rw [q3] at q1
          cases q1
          obtain ⟨p, xs, rfl, sq, all⟩ := itsS_ow e oa q3
          obtain ⟨v, hv, dq⟩ := atI_dq all q2
          exact ⟨_, ix_list, p, xs, i, v, rfl, ow_int ob, sq, hv, k v F H [] (Step.refl e) (.dat dq) New.nil⟩
        | none =>
          rw [q3] at q1
          cases q4 : itsTD a with
          | none =>
            rw [q4] at q1
            cases q1
          | some ds' =>
            rw [q4] at q1
            cases q1
            obtain ⟨p, xs, rfl, hp, all⟩ := itsTD_ow e oa q4
            obtain ⟨v, hv, dq⟩ := atI_dq all q2
            exact ⟨_, ix_tup, p, xs, i, v, rfl, ow_int ob, SqT.of hp, hv, k v F H [] (Step.refl e) (.dat dq) New.nil⟩
  · cases fs

/-! ### slices -/
def cutD (ds : List PyData) (lo hi : Option Int) : List PyData := (ds.drop (HT.sIx ds.length 0 lo)).take (HT.sIx ds.length ds.length hi - HT.sIx ds.length 0 lo)
abbrev MrO := Gm → Rz (Option Int)
def eNoP : MrO := fun _ => .ok none
def eP (a : Mr) : MrO := fun Γ => (a Γ).bind fun r => match r.s with
  | .dat (.int i) => .ok (some i)
  | _ => .no
def PostO (K : PySem.W.Frag) (E : XK) (Q : Option Int → Hp → Prop) (F H : Hp) : Rz (Option Int) → Prop
  | .ok o => ∀ F' H', Step F H F' H' → Q o H'
  | .er c => ∀ F' H', Step F H F' H' → E (.ref (He.ga K c)) none H'
  | .no => False
def SimO (K : PySem.W.Frag) (E : XK) (t : TO) (m : MrO) : Prop := ∀ (S : Addr → Prop) (F H : Hp) (σ : L2.St) (Γ : Gm) (Q : Option Int → Hp → Prop), Same F H → EnvE K S F H σ Γ → PostO K E Q F H (m Γ) → t σ H Q
structure PxO (X : Cx) (E : XK) (e : Option Expr) (m : MrO) (t : TO) : Prop where
  po : PO X e t
  sim : SimO X.K E t m
theorem pxo_none {E : XK} : PxO X E none eNoP tNoPart := ⟨po_none, fun S F H σ Γ Q e en p => p F H (Step.refl e)⟩
theorem pxo_some {E : XK} {a : Expr} {ma : Mr} {ta : TE} (h : Px X E a ma ta) : PxO X E (some a) (eP ma) (tPart ta) := ⟨po_some h.pe, fun S F H σ Γ Q e en p => by
  have p0 : PostO X.K E Q F H ((ma Γ).bind fun r => match r.s with | .dat (.int i) => .ok (some i) | _ => .no) := p
  refine h.sim S F H σ Γ _ e en ?_
  cases q : ma Γ with
  | no =>
    rw [q] at p0
    exact p0
  | er c =>
    rw [q] at p0
    exact p0
  | ok r =>
    rw [q] at p0
    intro v F1 H1 fp st ro nw
    obtain ⟨fl, s⟩ := r
    cases s with
    | node => exact p0.elim
    | dat d =>
      cases d with
      | int i => exact ⟨i, rok_int ro, p0 F1 H1 st⟩
      | _ => exact p0.elim⟩
def eCut (a : Mr) (lo hi : MrO) : Mr := fun Γ => (a Γ).bind fun r => (lo Γ).bind fun l => (hi Γ).bind fun h => match itsS r.s with
  | some ds => .ok ⟨.own, newL (cutD ds l h)⟩
  | none => .no
theorem dqAll_cut {F : Hp} {xs : List V} {ds : List PyData} (h : DqAll F xs ds) (lo hi : Option Int) : DqAll F (cutV xs lo hi) (cutD ds lo hi) := by
  unfold cutV cutD
  rw [dpAll_len h]
  exact dqAll_take _ (dqAll_drop _ h)
theorem SimO.bind {K : PySem.W.Frag} {E : XK} {t : TO} {m : MrO} (h : SimO K E t m) {S : Addr → Prop} {F H : Hp} {σ : L2.St} {Γ : Gm} {Q : VK} {k : Option Int → Rz Rv} {R : Option Int → Hp → Prop} (e : Same F H) (en : EnvE K S F H σ Γ)
    (p : Post K S E Q F H ((m Γ).bind k)) (step : ∀ o F1 H1, Step F H F1 H1 → Post K S E Q F1 H1 (k o) → R o H1) : t σ H R := by
  refine h S F H σ Γ R e en ?_
  cases q : m Γ with
  | ok r =>
    rw [q] at p
    exact fun F1 H1 st => step r F1 H1 st (Post.up st p)
  | er c =>
    rw [q] at p
    exact p
  | no =>
    rw [q] at p
    exact p
theorem sim_cut {K : PySem.W.Frag} {E : XK} {ta : TE} {tl th : TO} {ma : Mr} {ml mh : MrO} (ha : Sim K E ta ma) (hl : SimO K E tl ml) (hh : SimO K E th mh) : Sim K E (tSl (rSlL K) ta tl th) (eCut ma ml mh) := by
  intro S F H σ Γ Q e en p
  refine ha.bind e en p fun r x F1 H1 fp q st ro nw => ?_
  have p := (show Post K S E Q F H ((ma Γ).bind _) from p)
  rw [q] at p
  have p1 := Post.up st p
  have en1 := en.step st.ff st.hh
  refine hl.bind st.fh en1 p1 fun l F2 H2 st2 p2 => ?_
  have en2 := en1.step st2.ff st2.hh
  refine hh.bind st2.fh en2 p2 fun u F3 H3 st3 p3 => ?_
  have p4 : Post K S E Q F3 H3 (match itsS r.s with | some ds => .ok ⟨.own, newL (cutD ds l u)⟩ | none => .no) := p3
  obtain ⟨fz, o⟩ := ((ro.step st2.ff st2.hh).step st3.ff st3.hh).ow
  cases q4 : itsS r.s with
  | none =>
    rw [q4] at p4
    exact p4.elim
  | some ds =>
    rw [q4] at p4
    obtain ⟨a, xs, rfl, sq, all⟩ := itsS_ow st3.fh o q4
    refine ⟨a, xs, rfl, sq, fun b hb => ?_⟩
    obtain ⟨s1, s2, s3⟩ := new_list (K := K) st3.fh hb (dqAll_cut all l u)
    exact p4 _ _ _ _ s1 s2 s3
theorem px_cut {E : XK} {a : Expr} {lo hi : Option Expr} {ma : Mr} {ml mh : MrO} {ta : TE} {tl th : TO} {p2 pos : Pos} (ha : Px X E a ma ta) (hl : PxO X E lo ml tl) (hh : PxO X E hi mh th) : Px X E (.Subscript a (.Slice lo hi none p2) pos) (eCut ma ml mh) (tSl (rSlL X.K) ta tl th) :=
  ⟨pe_slice sl_list ha.pe hl.po hh.po, sim_cut ha.sim hl.sim hh.sim⟩
def eRev (a : Mr) : Mr := fun Γ => (a Γ).bind fun r => match itsS r.s with
  | some ds => .ok ⟨.own, newL ds.reverse⟩
  | none => .no
theorem sim_rev {K : PySem.W.Frag} {E : XK} {ta : TE} {ma : Mr} (ha : Sim K E ta ma) : Sim K E (tRevL K ta) (eRev ma) := by
  intro S F H σ Γ Q e en p
  refine ha.bind e en p fun r x F1 H1 fp q st ro nw => ?_
  have p := (show Post K S E Q F H ((ma Γ).bind _) from p)
  rw [q] at p
  have p1 : Post K S E Q F1 H1 (match itsS r.s with | some ds => .ok ⟨.own, newL ds.reverse⟩ | none => .no) := Post.up st p
  obtain ⟨fz, o⟩ := ro.ow
  cases q4 : itsS r.s with
  | none =>
    rw [q4] at p1
    exact p1.elim
  | some ds =>
    rw [q4] at p1
    obtain ⟨a, xs, rfl, sq, all⟩ := itsS_ow st.fh o q4
    refine ⟨a, xs, rfl, sq, fun b hb => ?_⟩
    obtain ⟨s1, s2, s3⟩ := new_list (K := K) st.fh hb (dqAll_rev all)
    exact p1 _ _ _ _ s1 s2 s3
theorem px_rev {E : XK} {a : Expr} {ma : Mr} {ta : TE} {k : Nat} {p1 p2 p3 pos : Pos} (ha : Px X E a ma ta) : Px X E (.Subscript a (.Slice none none (some (.UnaryOp .USub (.Constant (.int 1) k p1) p2)) p3) pos) (eRev ma) (tRevL X.K ta) := ⟨pe_revL ha.pe, sim_rev ha.sim⟩

/-! ### len, list, abs, max, min, any, all, sorted -/
def pLen : List Sl → Option Sl := fun ss => match ss with
  | [a] => (match sIt a with
    | some (_, ds) => some (.dat (.int ds.length))
    | none => none)
  | _ => none
theorem cd_len : CallD X (.builtin "len") pLen := by
  refine CallR.via fun xs H Q q => ⟨_, call_len_seq, ?_⟩
  obtain ⟨F, ss, s, e, ol, fs, k⟩ := q
  unfold pLen at fs
  split at fs
  · rename_i a
    cases ol with
    | cons fa oa t =>
      cases t
      cases q1 : sIt a with
      | none =>
        rw [q1] at fs
        cases fs
      | some bd =>
        obtain ⟨bl, ds⟩ := bd
        rw [q1] at fs
        cases fs
        unfold sIt at q1
        cases q3 : itsS a with
        | some ds' =>
          rw [q3] at q1
          cases q1
          obtain ⟨p, xs, rfl, sq, all⟩ := itsS_ow e oa q3
          refine ⟨p, xs, rfl, .inl sq, ?_⟩
          rw [dpAll_len all]
          exact k _ F H [] (Step.refl e) (.dat (.int _)) New.nil
        | none =>
          rw [q3] at q1
          cases q4 : itsTD a with
          | none =>
            rw [q4] at q1
            cases q1
          | some ds' =>
            rw [q4] at q1
            cases q1
            obtain ⟨p, xs, rfl, hp, all⟩ := itsTD_ow e oa q4
            refine ⟨p, xs, rfl, .inr (SqT.of hp), ?_⟩
            rw [dpAll_len all]
            exact k _ F H [] (Step.refl e) (.dat (.int _)) New.nil
  · cases fs
def pList : List Sl → Option Sl := fun ss => match ss with
  | [a] => (match itsS a with
    | some ds => some (newL ds)
    | none => none)
  | _ => none
theorem cd_list : CallD X (.type "list") pList := by
  refine CallR.via fun xs H Q q => ⟨_, call_list_of, ?_⟩
  obtain ⟨F, ss, s, e, ol, fs, k⟩ := q
  unfold pList at fs
  split at fs
  · rename_i a
    cases ol with
    | cons fa oa t =>
      cases t
      cases q3 : itsS a with
      | none =>
        rw [q3] at fs
        cases fs
      | some ds =>
        rw [q3] at fs
        cases fs
        obtain ⟨p, xs, rfl, sq, all⟩ := itsS_ow e oa q3
        refine ⟨p, xs, rfl, .inl sq, fun b hb => ?_⟩
        obtain ⟨s1, s2, s3⟩ := new_list (K := X.K) e hb all
        exact k _ _ _ _ s1 s2 s3
  · cases fs
def pAbs : List Sl → Option Sl := fun ss => match ss with
  | [.dat (.int i)] => some (.dat (.int (if i < 0 then -i else i)))
  | _ => none
theorem cd_abs : CallD X (.builtin "abs") pAbs := by
  refine CallR.via fun xs H Q q => ⟨_, call_abs, ?_⟩
  obtain ⟨F, ss, s, e, ol, fs, k⟩ := q
  unfold pAbs at fs
  split at fs
  · rename_i i
    cases fs
    cases ol with
    | cons fa oa t =>
      cases t
      exact ⟨i, by rw [ow_int oa], k _ F H [] (Step.refl e) (.dat (.int _)) New.nil⟩
  · cases fs
def boolsOf : List PyData → Option (List Bool)
  | [] => some []
  | .bool b :: r => (boolsOf r).map (b :: ·)
  | _ => none
def intsOf : List PyData → Option (List Int)
  | [] => some []
  | .int b :: r => (intsOf r).map (b :: ·)
  | _ => none
theorem bools_vs {F : Hp} : ∀ {xs : List V} {ds : List PyData} {bs : List Bool}, DqAll F xs ds → boolsOf ds = some bs → xs = bs.map V.bl
  | _, _, _, .nil, q => by
    cases q
    rfl
  | _, _, _, .cons (d := .bool b) (ds := ds) h t, q => by
    cases q2 : boolsOf ds with
    | none =>
      rw [boolsOf, q2] at q
      cases q
    | some bs =>
      rw [boolsOf, q2] at q
      cases q
      cases h
      rw [bools_vs t q2]
      rfl
  | _, _, _, .cons (d := .none) h t, q => by cases q
  | _, _, _, .cons (d := .int _) h t, q => by cases q
  | _, _, _, .cons (d := .str _) h t, q => by cases q
  | _, _, _, .cons (d := .list _) h t, q => by cases q
  | _, _, _, .cons (d := .tuple _) h t, q => by cases q
  | _, _, _, .cons (d := .dict _) h t, q => by cases q
theorem ints_vs {F : Hp} : ∀ {xs : List V} {ds : List PyData} {bs : List Int}, DqAll F xs ds → intsOf ds = some bs → xs = bs.map V.int
  | _, _, _, .nil, q => by
    cases q
    rfl
  | _, _, _, .cons (d := .int b) (ds := ds) h t, q => by
    cases q2 : intsOf ds with
    | none =>
      rw [intsOf, q2] at q
      cases q
    | some bs =>
      rw [intsOf, q2] at q
      cases q
      cases h
      rw [ints_vs t q2]
      rfl
  | _, _, _, .cons (d := .none) h t, q => by cases q
  | _, _, _, .cons (d := .bool _) h t, q => by cases q
  | _, _, _, .cons (d := .str _) h t, q => by cases q
  | _, _, _, .cons (d := .list _) h t, q => by cases q
  | _, _, _, .cons (d := .tuple _) h t, q => by cases q
  | _, _, _, .cons (d := .dict _) h t, q => by cases q
theorem dq_ints {F : Hp} : ∀ (ns : List Int), DqAll F (ns.map V.int) (ns.map PyData.int)
  | [] => .nil
  | n :: ns => .cons (.int n) (dq_ints ns)
def pAny : List Sl → Option Sl := fun ss => match ss with
  | [a] => ((itsS a).bind boolsOf).map fun bs => .dat (.bool (bs.any id))
  | _ => none
def pAll : List Sl → Option Sl := fun ss => match ss with
  | [a] => ((itsS a).bind boolsOf).map fun bs => .dat (.bool (bs.all id))
  | _ => none
theorem its_bools {K : PySem.W.Frag} {F H : Hp} {v : V} {a s : Sl} {fp : List Addr} {g : List Bool → Sl} (e : Same F H) (o : Ow K F H v a fp) (fs : ((itsS a).bind boolsOf).map g = some s) : ∃ p bs, v = .ref p ∧ SqL K H p (bs.map V.bl) ∧ s = g bs := by
  cases q3 : itsS a with
  | none =>
    rw [q3] at fs
    cases fs
  | some ds =>
    cases q4 : boolsOf ds with
    | none =>
      rw [q3] at fs
      have fs : (boolsOf ds).map g = some s := fs
      rw [q4] at fs
      cases fs
    | some bs =>
      rw [q3] at fs
      have fs : (boolsOf ds).map g = some s := fs
      rw [q4] at fs
      cases fs
      obtain ⟨p, xs, rfl, sq, all⟩ := itsS_ow e o q3
      rw [bools_vs all q4] at sq
      exact ⟨p, bs, rfl, sq, rfl⟩
theorem its_ints {K : PySem.W.Frag} {F H : Hp} {v : V} {a s : Sl} {fp : List Addr} {g : List Int → Sl} (e : Same F H) (o : Ow K F H v a fp) (fs : ((itsS a).bind intsOf).map g = some s) : ∃ p bs, v = .ref p ∧ SqL K H p (bs.map V.int) ∧ s = g bs := by
  cases q3 : itsS a with
  | none =>
    rw [q3] at fs
    cases fs
  | some ds =>
    cases q4 : intsOf ds with
    | none =>
      rw [q3] at fs
      have fs : (intsOf ds).map g = some s := fs
      rw [q4] at fs
      cases fs
    | some bs =>
      rw [q3] at fs
      have fs : (intsOf ds).map g = some s := fs
      rw [q4] at fs
      cases fs
      obtain ⟨p, xs, rfl, sq, all⟩ := itsS_ow e o q3
      rw [ints_vs all q4] at sq
      exact ⟨p, bs, rfl, sq, rfl⟩
theorem cd_any (hc : X.calm = true) : CallD X (.builtin "any") pAny := by
  refine CallR.via fun xs H Q q => ⟨_, cr_any hc, ?_⟩
  obtain ⟨F, ss, s, e, ol, fs, k⟩ := q
  unfold pAny at fs
  split at fs
  · cases ol with
    | cons fa oa t =>
      cases t
      obtain ⟨p, bs, rfl, sq, rfl⟩ := its_bools e oa fs
      exact ⟨p, bs, rfl, sq, k _ F H [] (Step.refl e) (.dat (.bl _)) New.nil⟩
  · cases fs
theorem cd_all (hc : X.calm = true) : CallD X (.builtin "all") pAll := by
  refine CallR.via fun xs H Q q => ⟨_, cr_all hc, ?_⟩
  obtain ⟨F, ss, s, e, ol, fs, k⟩ := q
  unfold pAll at fs
  split at fs
  · cases ol with
    | cons fa oa t =>
      cases t
      obtain ⟨p, bs, rfl, sq, rfl⟩ := its_bools e oa fs
      exact ⟨p, bs, rfl, sq, k _ F H [] (Step.refl e) (.dat (.bl _)) New.nil⟩
  · cases fs
def pSum : List Sl → Option Sl := fun ss => match ss with
  | [a] => ((itsS a).bind intsOf).map fun ns => .dat (.int ns.sum)
  | _ => none
theorem cd_sum (hc : X.calm = true) : CallD X (.builtin "sum") pSum := by
  refine CallR.via fun xs H Q q => ⟨_, cr_sum hc, ?_⟩
  obtain ⟨F, ss, s, e, ol, fs, k⟩ := q
  unfold pSum at fs
  split at fs
  · cases ol with
    | cons fa oa t =>
      cases t
      obtain ⟨p, bs, rfl, sq, rfl⟩ := its_ints e oa fs
      exact ⟨p, bs, rfl, sq, k _ F H [] (Step.refl e) (.dat (.int _)) New.nil⟩
  · cases fs
/-- the ints in their order -/
def insI (n : Int) : List Int → List Int
  | [] => [n]
  | m :: r => if n ≤ m then n :: m :: r else m :: insI n r
def srt : List Int → List Int
  | [] => []
  | n :: r => insI n (srt r)
theorem insI_perm (n : Int) : ∀ l : List Int, (insI n l).Perm (n :: l)
  | [] => List.Perm.refl _
  | m :: r => by
    unfold insI
    split
    · exact List.Perm.refl _
    · exact ((insI_perm n r).cons m).trans (List.Perm.swap n m r)
theorem insI_ord (n : Int) : ∀ l : List Int, l.Pairwise (· ≤ ·) → (insI n l).Pairwise (· ≤ ·)
  | [], _ => List.pairwise_singleton _ _
  | m :: r, h => by
    unfold insI
    split
    · rename_i c
      refine List.pairwise_cons.mpr ⟨fun b hb => ?_, h⟩
      rcases List.mem_cons.mp hb with rfl | hb
      · exact c
      · exact Int.le_trans c ((List.pairwise_cons.mp h).1 b hb)
    · rename_i c
      refine List.pairwise_cons.mpr ⟨fun b hb => ?_, insI_ord n r (List.pairwise_cons.mp h).2⟩
      rcases List.mem_cons.mp ((insI_perm n r).mem_iff.mp hb) with rfl | hb
      · omega
      · exact (List.pairwise_cons.mp h).1 b hb
theorem srt_perm : ∀ l : List Int, (srt l).Perm l
  | [] => List.Perm.refl _
  | n :: r => (insI_perm n (srt r)).trans ((srt_perm r).cons n)
theorem srt_ord : ∀ l : List Int, (srt l).Pairwise (· ≤ ·)
  | [] => List.Pairwise.nil
  | n :: r => insI_ord n _ (srt_ord r)
theorem srt_uniq {a b : List Int} (p : a.Perm b) (ha : a.Pairwise (· ≤ ·)) (hb : b.Pairwise (· ≤ ·)) : a = b :=
  List.Perm.eq_of_pairwise (fun x y _ _ h1 h2 => Int.le_antisymm h1 h2) ha hb p
def pSrt : List Sl → Option Sl := fun ss => match ss with
  | [a] => ((itsS a).bind intsOf).map fun ns => newL ((srt ns).map .int)
  | _ => none
theorem cd_sorted : CallD X (.builtin "sorted") pSrt := by
  refine CallR.via fun xs H Q q => ⟨_, cr_sortedI, ?_⟩
  obtain ⟨F, ss, s, e, ol, fs, k⟩ := q
  unfold pSrt at fs
  split at fs
  · cases ol with
    | cons fa oa t =>
      cases t
      obtain ⟨p, bs, rfl, sq, rfl⟩ := its_ints e oa fs
      refine ⟨p, bs, rfl, sq, fun ns' b hp ho hb => ?_⟩
      rw [srt_uniq (hp.trans (srt_perm bs).symm) ho (srt_ord bs)]
      obtain ⟨s1, s2, s3⟩ := new_list (K := X.K) e hb (dq_ints (srt bs))
      exact k _ _ _ _ s1 s2 s3
  · cases fs
/-! max, min: of two, of a list of ints, of a list of tuples of ints -/
def mx (l : List Int) (n : Int) : Int := l.foldl (fun a b => if b > a then b else a) n
def mn (l : List Int) (n : Int) : Int := l.foldl (fun a b => if b < a then b else a) n
theorem mx_ok : ∀ (l : List Int) (n : Int), (mx l n = n ∨ mx l n ∈ l) ∧ n ≤ mx l n ∧ ∀ y ∈ l, y ≤ mx l n
  | [], n => ⟨.inl rfl, Int.le_refl _, fun _ m => nomatch m⟩
  | a :: l, n => by
    have e : mx (a :: l) n = mx l (if a > n then a else n) := rfl
    rw [e]
    by_cases c : a > n
    · rw [if_pos c]
      obtain ⟨h1, h2, h3⟩ := mx_ok l a
      refine ⟨.inr ?_, by omega, fun y hy => ?_⟩
      · rcases h1 with h1 | h1
        · rw [h1]
          exact List.mem_cons_self
        · exact List.mem_cons_of_mem _ h1
      · rcases List.mem_cons.mp hy with rfl | hy
        · exact h2
        · exact h3 y hy
    · rw [if_neg c]
      obtain ⟨h1, h2, h3⟩ := mx_ok l n
      refine ⟨h1.imp (fun z => z) (List.mem_cons_of_mem _), h2, fun y hy => ?_⟩
      rcases List.mem_cons.mp hy with rfl | hy
      · omega
      · exact h3 y hy
theorem mn_ok : ∀ (l : List Int) (n : Int), (mn l n = n ∨ mn l n ∈ l) ∧ mn l n ≤ n ∧ ∀ y ∈ l, mn l n ≤ y
  | [], n => ⟨.inl rfl, Int.le_refl _, fun _ m => nomatch m⟩
  | a :: l, n => by
    have e : mn (a :: l) n = mn l (if a < n then a else n) := rfl
    rw [e]
    by_cases c : a < n
    · rw [if_pos c]
      obtain ⟨h1, h2, h3⟩ := mn_ok l a
      refine ⟨.inr ?_, by omega, fun y hy => ?_⟩
      · rcases h1 with h1 | h1
        · rw [h1]
          exact List.mem_cons_self
        · exact List.mem_cons_of_mem _ h1
      · rcases List.mem_cons.mp hy with rfl | hy
        · exact h2
        · exact h3 y hy
    · rw [if_neg c]
      obtain ⟨h1, h2, h3⟩ := mn_ok l n
      refine ⟨h1.imp (fun z => z) (List.mem_cons_of_mem _), h2, fun y hy => ?_⟩
      rcases List.mem_cons.mp hy with rfl | hy
      · omega
      · exact h3 y hy
/-- a list of pairs of ints -/
def prsOf : List PyData → Option (List (Int × Int))
  | [] => some []
  | .tuple [.int a, .int b] :: r => (prsOf r).map ((a, b) :: ·)
  | _ => none
def ltP (a b : Int × Int) : Bool := decide (a.1 < b.1) || (decide (a.1 = b.1) && decide (a.2 < b.2))
def mxP (l : List (Int × Int)) (n : Int × Int) : Int × Int := l.foldl (fun a b => if ltP a b then b else a) n
def prD (p : Int × Int) : PyData := .tuple [.int p.1, .int p.2]
def maxOf (ds : List PyData) : Option Sl := match intsOf ds with
  | some (n :: ns) => some (.dat (.int (mx ns n)))
  | some [] => none
  | none => (match prsOf ds with
    | some (p :: ps) => some (.dat (prD (mxP ps p)))
    | _ => none)
def pMax : List Sl → Option Sl := fun ss => match ss with
  | [.dat (.int i), .dat (.int j)] => some (.dat (.int (if j > i then j else i)))
  | [a] => (itsS a).bind maxOf
  | _ => none
def pMin : List Sl → Option Sl := fun ss => match ss with
  | [.dat (.int i), .dat (.int j)] => some (.dat (.int (if j < i then j else i)))
  | [a] => (match (itsS a).bind intsOf with
    | some (n :: ns) => some (.dat (.int (mn ns n)))
    | _ => none)
  | _ => none
theorem prs_ds : ∀ {ds : List PyData} {ps : List (Int × Int)}, prsOf ds = some ps → ds = ps.map prD
  | [], ps, q => by
    cases q
    rfl
  | d :: ds, ps, q => by
    unfold prsOf at q
    split at q
    · rename_i e
      cases e
    · rename_i a b r e
      cases e
      cases q2 : prsOf ds with
      | none =>
        rw [q2] at q
        cases q
      | some qs =>
        rw [q2] at q
        cases q
        rw [prs_ds q2]
        rfl
    · cases q
theorem cd_min (hc : X.calm = true) : CallD X (.builtin "min") pMin := by
  refine CallR.via fun xs H Q q => ?_
  obtain ⟨F, ss, s, e, ol, fs, k⟩ := q
  unfold pMin at fs
  split at fs
  · rename_i i j
    cases fs
    cases ol with
    | cons fa oa t =>
      cases t with
      | cons fb ob t =>
        cases t
        exact ⟨_, call_min2 hc, i, j, by rw [ow_int oa, ow_int ob], k _ F H [] (Step.refl e) (.dat (.int _)) New.nil⟩
  · rename_i a
    cases ol with
    | cons fa oa t =>
      cases t
      refine ⟨_, cr_min hc, ?_⟩
      cases q3 : itsS a with
      | none =>
        rw [q3] at fs
        cases fs
      | some ds =>
        rw [q3] at fs
        cases q4 : intsOf ds with
        | none =>
          have fs : (match intsOf ds with | some (n :: ns) => some (Sl.dat (.int (mn ns n))) | _ => none) = some s := fs
          rw [q4] at fs
          cases fs
        | some ns =>
          have fs : (match intsOf ds with | some (n :: ns) => some (Sl.dat (.int (mn ns n))) | _ => none) = some s := fs
          rw [q4] at fs
          cases ns with
          | nil => cases fs
          | cons n ns =>
            cases fs
            obtain ⟨p, xs, rfl, sq, all⟩ := itsS_ow e oa q3
            rw [ints_vs all q4] at sq
            refine ⟨p, n :: ns, rfl, sq, Nat.succ_pos _, fun m hm hle => ?_⟩
            obtain ⟨h1, h2, h3⟩ := mn_ok ns n
            have em : m = mn ns n := by
              have a1 : m ≤ mn ns n := by
                rcases h1 with h1 | h1
                · rw [h1]
                  exact hle n List.mem_cons_self
                · exact hle _ (List.mem_cons_of_mem _ h1)
              have a2 : mn ns n ≤ m := by
                rcases List.mem_cons.mp hm with rfl | hm
                · exact h2
                · exact h3 m hm
              omega
            rw [em]
            exact k _ F H [] (Step.refl e) (.dat (.int _)) New.nil
  · cases fs

/-! ### isinstance -/
inductive Tyn where
  | inl (t : String) | inr (c : Str)
  deriving DecidableEq
def tyS : Sl → Tyn
  | .dat .none => .inl "NoneType"
  | .dat (.bool _) => .inl "bool"
  | .dat (.int _) => .inl "int"
  | .dat (.str _) => .inl "str"
  | .dat (.list _) => .inl "list"
  | .dat (.tuple _) => .inl "tuple"
  | .dat (.dict _) => .inl "dict"
  | .node .L _ => .inl "list"
  | .node .S _ => .inl "list"
  | .node .T _ => .inl "tuple"
  | .node (.D _) _ => .inl "dict"
  | .node (.O c _) _ => .inr c
  | .node (.Z _) _ => .inl "dict"
structure InsOk (K : PySem.W.Frag) (c : Str) : Prop where
  cl : Cls K (He.ga K c)
  ha : PySem.W.findIn K (.ref (He.ga K c)) "__class__" = some (some (.builtin "object.__class__"))
  hn : PySem.W.specialIn K (.builtin "object.__class__") "__get__" = some (some (.builtin "getset_descriptor.__get__"))
  htk : PySem.W.takesIn K (.builtin "object.__class__") = some true
  hm : PySem.W.mroIn K (He.ga K c) (.type "object") = some true
def tyVal (K : PySem.W.Frag) : Tyn → Value
  | .inl t => .type t
  | .inr c => .ref (He.ga K c)
theorem ow_ty {K : PySem.W.Frag} {F H : Hp} {v : V} {s : Sl} {fp : List Addr} (e : Same F H) (h : Ow K F H v s fp) (hi : ∀ c, tyS s = .inr c → InsOk K c) : TyX K H v (tyVal K (tyS s)) := by
  cases h with
  | dat hd =>
    cases hd with
    | non => exact .base .non
    | bl b => exact .base (.bl b)
    | int i => exact .base (.int i)
    | str x => exact .base (.str x)
    | lst sq _ => exact .base (.lst (e _ _ sq))
    | tup sq _ => exact .base (.tup (e _ _ sq))
  | node ha sh t =>
    rename_i a k o vs xs fp
    cases k with
    | L =>
      have sh' : _ = HO.lst _ := sh
      subst sh'
      exact .base (.lst ha)
    | T =>
      have sh' : _ = HO.tup _ := sh
      subst sh'
      exact .base (.tup ha)
    | S =>
      obtain ⟨ob, rfl⟩ := sh
      exact .base (.frz ha)
    | D ks =>
      obtain ⟨_, rfl⟩ := sh
      exact .base (.dK ha)
    | O c ns =>
      obtain ⟨_, dx, rfl⟩ := sh
      have i := hi c rfl
      exact .base (.ins ha i.cl i.ha i.hn i.htk i.hm)
    | Z ks =>
      obtain ⟨_, ob, rfl⟩ := sh
      exact .fDict ha
/-- isinstance(a, T): tb tells the answer for each type of a -/
def eIsi (tb : List (Tyn × Bool)) (a : Mr) : Mr := fun Γ => (a Γ).bind fun r => match tb.lookup (tyS r.s) with
  | some b => .ok ⟨.own, .dat (.bool b)⟩
  | none => .no
theorem lookup_mem' {α β : Type} [BEq α] [LawfulBEq α] {k : α} {v : β} : ∀ {l : List (α × β)}, l.lookup k = some v → (k, v) ∈ l
  | [], h => by cases h
  | (a, b) :: l, h => by
    rw [List.lookup_cons] at h
    split at h
    · rename_i e
      cases h
      rw [eq_of_beq e]
      exact List.mem_cons_self
    · exact List.mem_cons_of_mem _ (lookup_mem' h)
theorem sim_isi {K : PySem.W.Frag} {E : XK} {ta : TE} {ma : Mr} {tb : List (Tyn × Bool)} {c : V} {u : Value} (cu : ClsV c u) (ht : ∀ p ∈ tb, PySem.W.kitOne K (tyVal K p.1) u = some p.2) (hi : ∀ p ∈ tb, ∀ x, p.1 = .inr x → InsOk K x) (ha : Sim K E ta ma) :
    Sim K E (tCB (rIsi K) (tCons ta (tCons (tC c) tNil))) (eIsi tb ma) := by
  intro S F H σ Γ Q e en p
  refine ha.bind e en p fun r x F1 H1 fp q st ro nw => ?_
  have p := (show Post K S E Q F H ((ma Γ).bind _) from p)
  rw [q] at p
  have p1 : Post K S E Q F1 H1 (match tb.lookup (tyS r.s) with | some b => .ok ⟨.own, .dat (.bool b)⟩ | none => .no) := Post.up st p
  cases q2 : tb.lookup (tyS r.s) with
  | none =>
    rw [q2] at p1
    exact p1.elim
  | some b =>
    rw [q2] at p1
    have m := lookup_mem' q2
    obtain ⟨fz, o⟩ := ro.ow
    exact ⟨x, c, _, u, b, rfl, cu, ow_ty st.fh o (fun c hc => hi _ m c hc), ht _ m, p1 _ F1 H1 [] (Step.refl st.fh) (Ow.dat (.bl b)) New.nil⟩
theorem px_isiB {E : XK} {a : Expr} {ma : Mr} {ta : TE} {tb : List (Tyn × Bool)} {x : Str} {T : String} {p p2 pos : Pos} (hg : Gl X "isinstance") (hm : X.mg "isinstance" = none) (hg2 : Gl X x) (hm2 : X.mg x = none) (hv2 : bootBuiltins x = some (.type T))
    (ht : ∀ q ∈ tb, PySem.W.kitOne X.K (tyVal X.K q.1) (.type T) = some q.2) (hi : ∀ q ∈ tb, ∀ x, q.1 = .inr x → InsOk X.K x) (ha : Px X E a ma ta) (hn : x ≠ "__name__" := by decide) (hdb : (x == ("__debug__" : Str)) = false := by decide)
    (he : starEach [a, .Name x p2] X.env = (false, eval a X.env) :: starEach [.Name x p2] X.env := by rfl) (hpl : (backTo pos (starEach [.Name x p2] X.env)).any (·.1) = false := by rfl) (he2 : starEach [.Name x p2] X.env = (false, eval (.Name x p2) X.env) :: starEach [] X.env := by rfl) :
    Px X E (.Call (.Name "isinstance" p) [a, .Name x p2] [] pos) (eIsi tb ma) (tCB (rIsi X.K) (tCons ta (tCons (tC (.ty T)) tNil))) :=
  ⟨pe_callB call_isi hg hm (by decide +kernel) (pa_cons ha.pe (pa_cons (pe_bltn hg2 hm2 hv2 rfl hn hdb) pa_nil he2) he) (by decide) (by decide) he hpl, sim_isi (.ty T) ht hi ha.sim⟩
theorem px_isiO {E : XK} {a : Expr} {ma : Mr} {ta : TE} {tb : List (Tyn × Bool)} {x : Str} {p p2 pos : Pos} (hg : Gl X "isinstance") (hm : X.mg "isinstance" = none) (hg2 : Gl X x) (hm2 : X.mg x = some (.ref (He.ga X.K x)))
    (ht : ∀ q ∈ tb, PySem.W.kitOne X.K (tyVal X.K q.1) (.ref (He.ga X.K x)) = some q.2) (hi : ∀ q ∈ tb, ∀ x, q.1 = .inr x → InsOk X.K x) (ha : Px X E a ma ta) (hdb : (x == ("__debug__" : Str)) = false := by decide)
    (he : starEach [a, .Name x p2] X.env = (false, eval a X.env) :: starEach [.Name x p2] X.env := by rfl) (hpl : (backTo pos (starEach [.Name x p2] X.env)).any (·.1) = false := by rfl) (he2 : starEach [.Name x p2] X.env = (false, eval (.Name x p2) X.env) :: starEach [] X.env := by rfl) :
    Px X E (.Call (.Name "isinstance" p) [a, .Name x p2] [] pos) (eIsi tb ma) (tCB (rIsi X.K) (tCons ta (tCons (tC (.ref (He.ga X.K x))) tNil))) :=
  ⟨pe_callB call_isi hg hm (by decide +kernel) (pa_cons ha.pe (pa_cons (pe_glob (v := .ref (He.ga X.K x)) hg2 hm2 rfl hdb) pa_nil he2) he) (by decide) (by decide) he hpl, sim_isi (.own _) ht hi ha.sim⟩
end
end Pf

/-! Pf15: enumerate, ranges with steps, membership, the greatest pair. -/
namespace Pf
open PySem PySem.Spec L2

section
variable {K : PySem.W.Frag} {S : Addr → Prop} {E : XK} {F H : Hp} {X : Cx}
/-! ### enumerate -/
def enumD : Nat → List PyData → List PyData
  | _, [] => []
  | n, d :: ds => .tuple [.int (n : Int), d] :: enumD (n + 1) ds
theorem enumD_len : ∀ (n : Nat) (ds : List PyData), (enumD n ds).length = ds.length
  | _, [] => rfl
  | n, d :: ds => by
    show (enumD (n + 1) ds).length + 1 = _
    rw [enumD_len (n + 1) ds]
    rfl
theorem enumD_get : ∀ (n : Nat) (ds : List PyData) (i : Nat) (d : PyData), ds[i]? = some d → (enumD n ds)[i]? = some (.tuple [.int ((n + i : Nat) : Int), d])
  | _, [], _, _, e => by cases e
  | n, x :: ds, 0, d, e => by
    cases e
    rfl
  | n, x :: ds, i + 1, d, e => by
    have z := enumD_get (n + 1) ds i d e
    show (enumD (n + 1) ds)[i]? = _
    rw [z, show n + 1 + i = n + (i + 1) by omega]
theorem itd_enum {a : Addr} {xs : List V} {ds : List PyData} {C : List (Addr × HO)} (sq : ∀ F' H', Same F F' → Same F' H' → (∀ c ∈ C, H' c.1 = some c.2) → SqL K H' a xs) (all : DqAll F xs ds) : ItD K (Ite K a) F C (enumD 0 ds) := by
  have l := dpAll_len all
  refine ⟨fun i F' H ff fh c hi => ?_, fun i F' H ff fh c hi => ?_, fun i F' H x H' ff fh c hi y => ?_⟩
  · rw [enumD_len] at hi
    exact ⟨xs, xs[i]'(by rw [l]; exact hi), sq F' H ff fh c, by simp⟩
  · rw [enumD_len] at hi
    exact ⟨xs, sq F' H ff fh c, by rw [l]; exact hi⟩
  · obtain ⟨T, v, rfl, hT, rfl, z⟩ := y
    obtain ⟨d, h1, h2⟩ := dpAll_get all (z xs (sq F' H ff fh c))
    have e := enumD_get 0 ds i d h1
    rw [Nat.zero_add] at e
    have g : Same F' (upd F' T (.tup [.int (i : Nat), v])) := fun b u w => by
      rw [upd_ne (ne_of_none w (fh.free hT))]
      exact w
    refine ⟨_, upd F' T (.tup [.int (i : Nat), v]), e, ⟨g, fun b u w => ?_, fun b u w => ?_, fun b w1 w2 => ?_⟩, .tup upd_same (.cons (.int _) (.cons (dp_mono (ff.trans g) h2) .nil))⟩
    · by_cases hb : b = T
      · rw [hb, upd_same] at w
        rw [hb, upd_same]
        exact w
      · rw [upd_ne hb] at w ⊢
        exact fh _ _ w
    · rw [upd_ne (ne_of_none w hT)]
      exact w
    · have hb : b ≠ T := fun q => w1 (by rw [q]; exact hT)
      rw [upd_ne hb]
      exact w2
def oneL (rs : List Rv) : Rz (Bool × List PyData) := match rs with
  | [r] => (itsL r).bind fun bd => .ok (bd.1, enumD 0 bd.2)
  | _ => .no
def iEn (as : MrA) : MrI := fun Γ => (as Γ).bind oneL
theorem simI_enum {t : TA} {m : MrA} (h : SimA K E t m) : SimI K E (iEnum K t) (iEn m) := by
  intro S F H σ Γ R e en p
  refine h.bindI e en p fun rs vs F1 H1 fp q st ro nw p1 => ?_
  unfold oneL at p1
  split at p1
  · rename_i r
    cases ro with
    | cons h1 h2 =>
      cases h2
      obtain ⟨fl, s⟩ := r
      cases s with
      | dat d =>
        obtain ⟨fq, o⟩ := h1.ow
        cases o with
        | dat hd =>
          cases hd with
          | lst sq all => exact ⟨_, _, rfl, SqL.of (st.fh _ _ sq), p1 _ F1 H1 [] st (fun _ m => nomatch m) (fun _ _ m => nomatch m) (itd_enum (fun F' H' ff fh _ => SqL.of (fh _ _ (ff _ _ sq))) all)⟩
          | _ => exact p1.elim
      | node k xs =>
        cases k with
        | L =>
          have p2 : PostI K S E R F H ((itsN (datAll xs) fl).bind fun bd => .ok (bd.1, enumD 0 bd.2)) := p1
          cases q1 : datAll xs with
          | none =>
            rw [q1] at p2
            exact p2.elim
          | some ds =>
            rw [q1] at p2
            cases fl with
            | own => exact p2.elim
            | par =>
              obtain ⟨_, fq, o, hs⟩ := h1
              have o' : Ow K F1 H1 _ (.node .L xs) fq := o
              cases o' with
              | node ha sh t =>
                have sh' : _ = HO.lst _ := sh
                subst sh'
                refine ⟨_, _, rfl, SqL.of ha, p2 _ F1 H1 [(_, _)] st (fun c m => ?_) (fun _ c m => ?_) (itd_enum (fun F' H' _ _ c => SqL.of (c _ (List.mem_singleton.mpr rfl))) (datAll_dp t q1))⟩
                · cases List.mem_singleton.mp m
                  exact ha
                · cases List.mem_singleton.mp m
                  exact hs _ List.mem_cons_self
            | bor =>
              obtain ⟨_, fq, o⟩ := h1
              have o' : Ow K F1 H1 _ (.node .L xs) fq := o
              cases o' with
              | node ha sh t =>
                have sh' : _ = HO.lst _ := sh
                subst sh'
                refine ⟨_, _, rfl, SqL.of ha, p2 _ F1 H1 [(_, _)] st (fun c m => ?_) (fun z => by cases z) (itd_enum (fun F' H' _ _ c => SqL.of (c _ (List.mem_singleton.mpr rfl))) (datAll_dp t q1))⟩
                cases List.mem_singleton.mp m
                exact ha
        | _ => exact p1.elim
  · exact p1.elim
theorem pxi_enum {e : Expr} {me : MrA} {te : TA} {p pos tpos : Pos} {elts : List Expr} {kk : Nat} (hg : Gl X "enumerate") (hm : X.mg "enumerate" = none) (h : PxA X E [e] me te) (hs : starEach [e] X.env = [(false, eval e X.env)] := by rfl) :
    PxI X E (.Tuple elts kk tpos) (.Call (.Name "enumerate" p) [e] [] pos) (iEn me) (iEnum X.K te) := ⟨pi_enum hg hm h.pa hs, simI_enum h.sim⟩
/-! ### range(a, b, c) -/
def rngC (lo c : Int) (n : Nat) : List PyData := (List.range n).map fun (i : Nat) => .int (lo + (i : Int) * c)
theorem itd_rangeC {lo c : Int} {n : Nat} : ItD K (Itc lo c n) F [] (rngC lo c n) := by
  have l : (rngC lo c n).length = n := by simp [rngC]
  refine ⟨fun i F' H ff fh _ hi => by rw [l] at hi; exact hi, fun i F' H ff fh _ hi => by rw [l] at hi; exact hi, fun i F' H x H' ff fh _ hi y => ?_⟩
  obtain ⟨e, y⟩ := y
  subst e y
  rw [l] at hi
  exact ⟨.int (lo + (i : Nat) * c), F', by simp [rngC, hi], Step.refl fh, .int _⟩
def threeI (rs : List Rv) : Rz (Bool × List PyData) := match rs with
  | [⟨_, .dat (.int i)⟩, ⟨_, .dat (.int j)⟩, ⟨_, .dat (.int c)⟩] => if c ≠ 0 ∧ c.natAbs < 1073741824 ∧ Builtin.Range.small i j c = true ∧ 0 ≤ Builtin.Range.rangeSize i j c then .ok (true, rngC i c (Builtin.Range.rangeSize i j c).toNat) else .no
  | _ => .no
def iR3 (as : MrA) : MrI := fun Γ => (as Γ).bind threeI
theorem simI_r3 {t : TA} {m : MrA} (h : SimA K E t m) : SimI K E (iRng3 t) (iR3 m) := by
  intro S F H σ Γ R e en p
  refine h.bindI e en p fun rs vs F1 H1 fp q st ro nw p1 => ?_
  unfold threeI at p1
  split at p1
  · rename_i fl i fl2 j fl3 c
    cases ro with
    | cons h1 h2 =>
      cases h2 with
      | cons h3 h4 =>
        cases h4 with
        | cons h5 h6 =>
          cases h6
          by_cases hj : c ≠ 0 ∧ c.natAbs < 1073741824 ∧ Builtin.Range.small i j c = true ∧ 0 ≤ Builtin.Range.rangeSize i j c
          · rw [if_pos hj] at p1
            exact ⟨i, j, c, _, by rw [rok_int h1, rok_int h3, rok_int h5], ⟨hj.1, hj.2.1, hj.2.2.1, (Int.toNat_of_nonneg hj.2.2.2).symm⟩, p1 _ F1 H1 [] st (fun _ m => nomatch m) (fun _ _ m => nomatch m) itd_rangeC⟩
          · rw [if_neg hj] at p1
            exact p1.elim
  · exact p1.elim
theorem pxi_r3 {tg a b c : Expr} {me : MrA} {te : TA} {p pos : Pos} (hg : Gl X "range") (hm : X.mg "range" = none) (h : PxA X E [a, b, c] me te) (hs : starEach [a, b, c] X.env = (false, eval a X.env) :: starEach [b, c] X.env := by rfl) (hpl : (backTo pos (starEach [b, c] X.env)).any (·.1) = false := by rfl) :
    PxI X E tg (.Call (.Name "range" p) [a, b, c] [] pos) (iR3 me) (iRng3 te) := ⟨pi_range3 hg hm h.pa hs hpl, simI_r3 h.sim⟩
/-! ### x in range(a, b) -/
def inR1 : Rv → List Rv → Rz Rv
  | ⟨_, .dat (.int n)⟩, [⟨_, .dat (.int i)⟩, ⟨_, .dat (.int j)⟩] => .ok ⟨.own, .dat (.bool (decide (i ≤ n ∧ n < j)))⟩
  | _, _ => .no
def eInR (a : Mr) (as : MrA) : Mr := fun Γ => (a Γ).bind fun x => (as Γ).bind fun rs => inR1 x rs
abbrev rInR : R2 := fun x y H Q => ∃ i a lo hi, x = V.int i ∧ y = V.ref a ∧ H a = some (.rng lo hi) ∧ Q (.bl (decide (lo ≤ i ∧ i < hi))) H
abbrev rRng2 : List V → Hp → VK → Prop := fun vs H Q => ∃ i j, vs = [V.int i, V.int j] ∧ ∀ p, H p = none → Q (.ref p) (upd H p (.rng i j))
theorem sim_inR {ta : TE} {tb : TA} {ma : Mr} {mb : MrA} (ha : Sim K E ta ma) (hb : SimA K E tb mb) : Sim K E (tOp rInR ta (tCB rRng2 tb)) (eInR ma mb) := by
  intro S F H σ Γ Q e en p
  refine ha.bind e en p fun r x F1 H1 fp q st ro nw => ?_
  have p := (show Post K S E Q F H ((ma Γ).bind _) from p)
  rw [q] at p
  refine hb.bind st.fh (en.step st.ff st.hh) (Post.up st p) fun rs vs F2 H2 fq q2 st2 ro2 nw2 p2 => ?_
  have p3 : Post K S E Q F1 H1 (inR1 r rs) := p2
  unfold inR1 at p3
  split at p3
  · rename_i f1 n f2 i f3 j
    cases ro2 with
    | cons h1 h2 =>
      cases h2 with
      | cons h3 h4 =>
        cases h4
        refine ⟨i, j, by rw [rok_int h1, rok_int h3], fun a hp => ⟨n, a, i, j, rok_int ro, rfl, upd_same, ?_⟩⟩
        refine p3 _ F2 _ [] ⟨st2.ff, fun b u w => ?_, fun b u w => ?_, st2.nw⟩ (Ow.dat (.bl _)) New.nil
        · rw [upd_ne (ne_of_none (st2.fh _ _ w) hp)]
          exact st2.fh _ _ w
        · rw [upd_ne (ne_of_none (st2.hh _ _ w) hp)]
          exact st2.hh _ _ w
  · exact p3.elim
theorem px_inR {a b c : Expr} {ma : Mr} {mb : MrA} {ta : TE} {tb : TA} {p pos pos' : Pos} (hg : Gl X "range") (hm : X.mg "range" = none) (ha : Px X E a ma ta) (hb : PxA X E [b, c] mb tb)
    (hmk : behindInMarks .In (.Call (.Name "range" p) [b, c] [] pos') = false := by rfl)
    (he : starEach [b, c] X.env = (false, eval b X.env) :: starEach [c] X.env := by rfl) (hpl : (backTo pos' (starEach [c] X.env)).any (·.1) = false := by rfl) :
    Px X E (.Compare a [.In] [.Call (.Name "range" p) [b, c] [] pos'] pos) (eInR ma mb) (tOp rInR ta (tCB rRng2 tb)) :=
  ⟨pe_cmpR op_in_rng ha.pe (pe_callTy cr_range2 hg hm (by decide +kernel) hb.pa (by decide) (by decide) he hpl) hmk, sim_inR ha.sim hb.sim⟩
/-! ### x in a list or a tuple -/
def rInT (K : PySem.W.Frag) (neg : Bool) : R2 := fun x y H Q => ∃ d ds, Dp K H x d ∧ Dp K H y (.tuple ds) ∧ SeqAt.shaped d = true ∧ SeqAt.shaped (.tuple ds) = true ∧ Q (.bl (if neg then !ds.any fun z => PyData.eqv z d else ds.any fun z => PyData.eqv z d)) H
theorem op_inT (hu : X.A.units + 65 < cLine) : OpR X (compareOp .In) (rInT X.K false) := by
  intro pins s σ H x y v u Q I rx ry h
  obtain ⟨d, ds, hd, he, sd, se, q⟩ := h
  obtain ⟨as, r1⟩ := Dp.reads I d x v hd rx
  obtain ⟨bs, r2⟩ := Dp.reads I (.tuple ds) y u he ry
  exact SeqAt.in_tuple_reads r2 r1 (SeqAt.canLay_of_shaped se) (SeqAt.canLay_of_shaped sd) (PyProof.Rows.room_in_shaped sd hu) ⟨.bl _, H, I, rfl, q⟩
theorem op_notInT (hu : X.A.units + 65 < cLine) : OpR X (compareOp .NotIn) (rInT X.K true) := by
  intro pins s σ H x y v u Q I rx ry h
  obtain ⟨d, ds, hd, he, sd, se, q⟩ := h
  obtain ⟨as, r1⟩ := Dp.reads I d x v hd rx
  obtain ⟨bs, r2⟩ := Dp.reads I (.tuple ds) y u he ry
  exact SeqAt.notIn_tuple_reads r2 r1 (SeqAt.canLay_of_shaped se) (SeqAt.canLay_of_shaped sd) (PyProof.Rows.room_in_shaped sd hu) ⟨.bl _, H, I, rfl, q⟩
def memD (s : Sl) (d : PyData) : Option Bool := match itsS s with
  | some ds => if shp d = true ∧ shp (.list ds) = true then some (ds.any fun z => PyData.eqv z d) else none
  | none => match itsTD s with
    | some ds => if shp d = true ∧ shp (.tuple ds) = true then some (ds.any fun z => PyData.eqv z d) else none
    | none => none
def pIn : List Sl → Option Sl := fun ss => match ss with
  | [a, b] => (toW a).bind fun d => (memD b d).map fun k => .dat (.bool k)
  | _ => none
def pNotIn : List Sl → Option Sl := fun ss => match ss with
  | [a, b] => (toW a).bind fun d => (memD b d).map fun k => .dat (.bool (!k))
  | _ => none
theorem mem_some {F H : Hp} {x y : V} {a b s : Sl} {fa fb : List Addr} {g : Bool → Sl} (e : Same F H) (oa : Ow K F H x a fa) (ob : Ow K F H y b fb) (h : ((toW a).bind fun d => (memD b d).map g) = some s) :
    ∃ d ds, Dp K H x d ∧ ((Dp K H y (.list ds) ∧ SeqAt.shaped (.list ds) = true) ∨ (Dp K H y (.tuple ds) ∧ SeqAt.shaped (.tuple ds) = true)) ∧ SeqAt.shaped d = true ∧ s = g (ds.any fun z => PyData.eqv z d) := by
  cases q1 : toW a with
  | none =>
    rw [q1] at h
    cases h
  | some d =>
    rw [q1] at h
    have h : (memD b d).map g = some s := h
    unfold memD at h
    cases q2 : itsS b with
    | none =>
      rw [q2] at h
      cases q3 : itsTD b with
      | none =>
        rw [q3] at h
        cases h
      | some ds =>
        rw [q3] at h
        have h : (if shp d = true ∧ shp (.tuple ds) = true then some (ds.any fun z => PyData.eqv z d) else none).map g = some s := h
        by_cases c : shp d = true ∧ shp (.tuple ds) = true
        · rw [if_pos c] at h
          cases h
          obtain ⟨p, xs, rfl, sq, all⟩ := itsTD_ow e ob q3
          exact ⟨d, ds, ow_dp e oa q1, .inr ⟨.tup (SqT.of sq) (dqAll_dp e all), c.2⟩, c.1, rfl⟩
        · rw [if_neg c] at h
          cases h
    | some ds =>
      rw [q2] at h
      have h : (if shp d = true ∧ shp (.list ds) = true then some (ds.any fun z => PyData.eqv z d) else none).map g = some s := h
      by_cases c : shp d = true ∧ shp (.list ds) = true
      · rw [if_pos c] at h
        cases h
        obtain ⟨p, xs, rfl, sq, all⟩ := itsS_ow e ob q2
        exact ⟨d, ds, ow_dp e oa q1, .inl ⟨.lst sq (dqAll_dp e all), c.2⟩, c.1, rfl⟩
      · rw [if_neg c] at h
        cases h
theorem od_in (hu : X.A.units + 65 < cLine) : OpD X (compareOp .In) pIn := by
  refine OpR.via fun x y H Q q => ?_
  obtain ⟨F, ss, s, e, ol, fs, k⟩ := q
  obtain ⟨a, b, fa, fb, rfl, oa, ob⟩ := owL_2 ol
  obtain ⟨d, ds, d1, ⟨d2, s2⟩ | ⟨d2, s2⟩, s1, rfl⟩ := mem_some e oa ob fs
  · exact ⟨_, op_inD hu, d, ds, d1, d2, s1, s2, k _ F H [] (Step.refl e) (.dat (.bl _)) New.nil⟩
  · exact ⟨_, op_inT hu, d, ds, d1, d2, s1, s2, k _ F H [] (Step.refl e) (.dat (.bl _)) New.nil⟩
theorem od_notIn (hu : X.A.units + 65 < cLine) : OpD X (compareOp .NotIn) pNotIn := by
  refine OpR.via fun x y H Q q => ?_
  obtain ⟨F, ss, s, e, ol, fs, k⟩ := q
  obtain ⟨a, b, fa, fb, rfl, oa, ob⟩ := owL_2 ol
  obtain ⟨d, ds, d1, ⟨d2, s2⟩ | ⟨d2, s2⟩, s1, rfl⟩ := mem_some e oa ob fs
  · exact ⟨_, op_notInD hu, d, ds, d1, d2, s1, s2, k _ F H [] (Step.refl e) (.dat (.bl _)) New.nil⟩
  · exact ⟨_, op_notInT hu, d, ds, d1, d2, s1, s2, k _ F H [] (Step.refl e) (.dat (.bl _)) New.nil⟩
end
end Pf

/-! Pf16: sets of a list's ints, the greatest of a list. -/
namespace Pf
open PySem PySem.Spec L2 PyProof.Rows

abbrev nuS (w : World) : Obj := { cls := .type "set", dict := none, data := .set #[] 0 (.fresh 0 0 (!w.params.followText "set-order")) }
section
variable {P : Program} {w : World} {A : Around} {E : Value → Shared → Prop} {s : Shared}
set_option maxHeartbeats 3200000 in
theorem set_ints {l : Addr} {its : Array Value} (ns : List Int) {Q : Value → Shared → Prop} (hh : A.handled = none) (isL : s.heap.IsList l its) (ia : IntsAre its.toList ns) (bd : ns.length + 1 < scanBound)
    (fin : ∀ (h' : Heap) (tk c : Nat), SetR w h' s.heap.objs.size (fun j => decide (j ∈ ns)) c → c ≤ ns.length → (∀ b o, s.heap.get? b = some o → h'.get? b = some o) → Q (.ref s.heap.objs.size) { s with heap := h', toks := tk }) :
    wpAny (model P w) A (call (.type "set") [.ref l]) Q E s := by
  have sz : its.size = ns.length := (Array.length_toList (xs := its)).symm.trans ia.length
  obtain ⟨c, tl, x1⟩ := F.called_set.mro
  have x2 := F.called_set.made
  have x3 := F.called_set.sub
  refine wpAny_call <| codeAny_of_tree ?_
  show wpAny _ _ (callAny (Value.type "set") _) _ _ _
  refine wpAny_pure ⟨Code.quiet_builtin _ (by decide +kernel), (codeAny_builtin F.entry_type_call ?_)⟩
  rw [Around.under_plain (weight_type_call_type ("set") [.ref l] []) rfl]
  have x4 := F.called_set.notType
  have x5 := F.called_set.canCreate
  have x6 := F.typeCall_set_1 (Value.ref l)
  repeat any_goals first | assumption | wp_step
  refine codeAny_mono (code_set_led1 (.ref l) (E := E) (Q₁ := fun ob s₁ => ob = .ref s.heap.objs.size ∧ s₁ = { s with heap := s.heap.push (nuS w) }) ⟨rfl, rfl⟩) fun r s₁ hr => ?_
  cases r with
  | error e => exact hr
  | ok fl =>
    cases fl with
    | ret ob =>
      obtain ⟨rfl, rfl⟩ := hr
      have g0 : (s.heap.push (nuS w)).get? s.heap.objs.size = some (nuS w) := Heap.get?_push_size _ rfl
      have ty : Shared.TypeIs { s with heap := s.heap.push (nuS w) } (.ref s.heap.objs.size) "set" := ⟨_, g0, rfl⟩
      have x7 := F.called_set.init.lookup
      have x8 := F.called_set.init.bind (Value.ref s.heap.objs.size)
      repeat any_goals first | assumption | wp_step
      refine codeAny_mono (codeAny_call_builtin (R := wants (fun r s₂ => r = .none ∧ ∃ h' tk c, s₂ = { s with heap := h', toks := tk } ∧ SetR w h' s.heap.objs.size (fun j => decide (j ∈ ns)) c ∧ c ≤ ns.length ∧ (∀ b o, s.heap.get? b = some o → h'.get? b = some o)) E) F.called_set.init.plain F.entry_set_init (check_set_init_1 ty ?_)) fun r2 s2 hr2 => ?_
      · obtain ⟨ol, hol, q1, nl, q2⟩ := isL
        obtain ⟨oc, od, oda, osl⟩ := ol
        simp only at q1 q2
        subst q1 q2
        have g1 : (s.heap.push (nuS w)).get? l = some { cls := .type "list", dict := od, data := .seq its nl, slots := osl } := Heap.get?_push_of_some _ hol
        have y1 := F.sub_list_set
        have y2 := F.sub_list_frozenset
        have y3 : (Value.type "list" == Value.type ("dict")) = false := by decide
        have isL1 : (s.heap.push (nuS w)).IsList l its := ⟨_, g1, rfl, nl, rfl⟩
        unfold Builtin.«set.__init__» noKeywords
        unfold Builtin.Frozenset.updateFrom
        generalize hPI : pyIter = PI
        wp_walk
        subst hPI
        refine wpAny_pyIter_list isL1 (wpAny_bind (wpAny_runValue ?_))
        have lt : l < s.heap.objs.size := Heap.lt_size hol
        have ha : A.in1.in1.in1.handled = none := by simp only [Around.in1_handled, hh]
        have z1 : l ≠ (s.heap.push (nuS w)).objs.size := by
          rw [Heap.size_push]
          exact Nat.ne_of_lt (Nat.lt_succ_of_lt lt)
        have z2 : s.heap.objs.size ∉ [(s.heap.push (nuS w)).objs.size, l] := by
          rw [Heap.size_push]
          intro m
          rcases List.mem_cons.mp m with m | m
          · exact absurd m (Nat.ne_of_lt (Nat.lt_succ_self _))
          · exact absurd (List.mem_singleton.mp m) (Nat.ne_of_gt lt)
        have vals : ∀ (i : Nat) (v : Value), its[i]? = some v → ∃ k t, ns[i]? = some k ∧ v = .int k t := fun i v hv => by
          have hi : i < ns.length := by
            rw [← sz]
            exact (Array.getElem?_eq_some_iff.mp hv).1
          obtain ⟨t, e⟩ := IntsAre.int_at ia i v (by rw [Array.getElem?_toList, hv])
          refine ⟨ns[i], t, List.getElem?_eq_getElem hi, ?_⟩
          rw [e, List.getD_eq_getElem?_getD, List.getElem?_eq_getElem hi]
          rfl
        refine set_update_ints ((Walks.list ha _ l z1 its).toS) s.heap.objs.size z2 ns sz bd vals (its.size - 0) 0 _ (by omega) (Nat.zero_le _) ⟨⟨_, Heap.get?_push_size _ rfl, rfl, rfl⟩, (isL1.push _)⟩ ?h0 ?h1
        case h0 => exact ⟨0, Nat.le_refl 0, setR_new_at (Heap.get?_push_of_some _ g0)⟩
        case h1 =>
          intro s' c' mv le new
          obtain ⟨h', g2, d', tk', os'⟩ := s'
          obtain rfl : g2 = s.gens := mv.gens
          obtain rfl : d' = s.drawn := mv.drawn
          obtain rfl : os' = s.os := mv.os
          show wpAny _ _ _ _ _ _
          refine wpAny_pure ?_
          show wpAny _ _ (ret Value.none) _ _ _
          rw [sz] at le
          refine wpAny_pure ⟨rfl, h', tk', c', rfl, new, le, fun b o e => ?_⟩
          have b0 : b < s.heap.objs.size := Heap.lt_size e
          refine mv.heap b o (fun m => ?_) (Heap.get?_push_of_some _ (Heap.get?_push_of_some _ e))
          rcases List.mem_cons.mp m with m | m
          · exact absurd m (Nat.ne_of_lt b0)
          · have e2 := List.mem_singleton.mp m
            rw [Heap.size_push] at e2
            exact absurd e2 (Nat.ne_of_lt (Nat.lt_succ_of_lt b0))
      · cases r2 with
        | error e => exact hr2
        | ok fl2 =>
          cases fl2 with
          | ret r =>
            obtain ⟨rfl, h', tk, c', rfl, new, le, kp⟩ := hr2
            repeat any_goals first | assumption | wp_step
            exact fin _ _ _ new le kp
          | _ => exact hr2.elim
    | _ => exact hr.elim
end
end Pf

/-! Pf17: set rules, the greatest of a list. -/
namespace Pf
open PySem PySem.Spec L2 PyProof.Rows

def ddp : List Int → List Int
  | [] => []
  | n :: r => if n ∈ ddp r then ddp r else n :: ddp r
theorem ddp_mem : ∀ {l : List Int} {k : Int}, k ∈ ddp l ↔ k ∈ l
  | [], _ => Iff.rfl
  | n :: r, k => by
    unfold ddp
    by_cases c : n ∈ ddp r
    · rw [if_pos c, ddp_mem]
      refine ⟨List.mem_cons_of_mem _, fun m => ?_⟩
      rcases List.mem_cons.mp m with rfl | m
      · exact ddp_mem.mp c
      · exact m
    · rw [if_neg c, List.mem_cons, List.mem_cons, ddp_mem]
theorem ddp_nd : ∀ {l : List Int}, (ddp l).Nodup
  | [] => List.nodup_nil
  | n :: r => by
    unfold ddp
    by_cases c : n ∈ ddp r
    · rw [if_pos c]
      exact ddp_nd
    · rw [if_neg c]
      exact List.nodup_cons.mpr ⟨c, ddp_nd⟩
theorem perm_of {a b : List Int} (ha : a.Nodup) (hb : b.Nodup) (h : ∀ k, k ∈ a ↔ k ∈ b) : a.Perm b := (List.perm_ext_iff_of_nodup ha hb).mpr h
theorem ddp_perm {l ks : List Int} (nd : ks.Nodup) (h : ∀ k, k ∈ ks ↔ k ∈ l) : ks.Perm (ddp l) := perm_of nd ddp_nd fun k => (h k).trans ddp_mem.symm

section
variable {X : Cx} {K : PySem.W.Frag} {S : Addr → Prop} {E : XK} {F H : Hp}
def rSetI (K : PySem.W.Frag) (w : World) : List V → Hp → VK → Prop := fun vs H Q => ∃ (a : Addr) (ns : List Int), vs = [V.ref a] ∧ SqL K H a (ns.map V.int) ∧ ns.length < 64 ∧ ∀ p c, H p = none → c ≤ ns.length → Q (.ref p) (upd H p (SetO w p (fun j => decide (j ∈ ns)) c))
theorem cr_setI (hc : X.calm = true) : CallR X (.type "set") (rSetI X.K X.w) := by
  intro pins s σ H vs us Q I r h
  obtain ⟨a, ns, rfl, hs, h64, q⟩ := h
  obtain ⟨its, rv, hl, _⟩ := I.list hs
  rw [Vals.ref1 r]
  refine set_ints ns (I.ok.hd hc) hl.isList (by simpa using rv.ints) (by unfold scanBound; omega) fun h' tk c R le k => ?_
  exact ⟨.ref _, _, I.laid k (Nat.le_refl _) (setO_new R), rfl, q _ c (I.hok.fresh (Nat.le_refl _)) le⟩
def rLenSet (w : World) : List V → Hp → VK → Prop := fun vs H Q => ∃ (a : Addr) (S : Int → Bool) (n : Nat), vs = [V.ref a] ∧ H a = some (SetO w a S n) ∧ ∀ ks : List Int, ks.Nodup → (∀ k, S k = true ↔ k ∈ ks) → ks.length = n → Q (.int (n : Int)) H
theorem cr_lenSet : CallR X (.builtin "len") (rLenSet X.w) := by
  intro pins s σ H vs us Q I r h
  obtain ⟨a, S, n, rfl, ha, q⟩ := h
  obtain ⟨o, es, ep, t, ho, hex, hd, _, nd, mem, lt, hf, hn, _⟩ := setO_get I ha
  rw [Vals.ref1 r]
  refine call_len_set ho hex hd hf (by unfold scanBound at lt; omega) ⟨.int n, H, I.tok _, ⟨_, by rw [hn]⟩, q _ nd mem ?_⟩
  rw [List.length_map, Array.length_toList, hn]
/-! sorted(set(a)), len(set(a)) -/
def set1 (g : List Int → Sl) (s : Sl) : Option Sl := match (itsS s).bind intsOf with
  | some ns => if ns.length < 64 then some (g ns) else none
  | none => none
def gSrt (ns : List Int) : Sl := newL ((srt (ddp ns)).map .int)
def gLen (ns : List Int) : Sl := .dat (.int ((ddp ns).length : Nat))
def eSet (g : List Int → Sl) (a : Mr) : Mr := eOp1 (fun ss => match ss with
  | [s] => set1 g s
  | _ => none) a
theorem set1_some {w : World} {g : List Int → Sl} {v : V} {a s : Sl} {fp : List Addr} (e : Same F H) (o : Ow K F H v a fp) (q : set1 g a = some s) : ∃ p ns, v = .ref p ∧ SqL K H p (ns.map V.int) ∧ ns.length < 64 ∧ s = g ns := by
  unfold set1 at q
  cases q3 : itsS a with
  | none =>
    rw [q3] at q
    cases q
  | some ds =>
    rw [q3] at q
    cases q4 : intsOf ds with
    | none =>
      have q : (match intsOf ds with | some ns => if ns.length < 64 then some (g ns) else none | none => none) = some s := q
      rw [q4] at q
      cases q
    | some ns =>
      have q : (match intsOf ds with | some ns => if ns.length < 64 then some (g ns) else none | none => none) = some s := q
      rw [q4] at q
      by_cases c : ns.length < 64
      · have q : (if ns.length < 64 then some (g ns) else none) = some s := q
        rw [if_pos c] at q
        cases q
        obtain ⟨p, xs, rfl, sq, all⟩ := itsS_ow e o q3
        rw [ints_vs all q4] at sq
        exact ⟨p, ns, rfl, sq, c, rfl⟩
      · have q : (if ns.length < 64 then some (g ns) else none) = some s := q
        rw [if_neg c] at q
        cases q
/-- the outer call sees the set, the mirror only what it says of it -/
theorem sim_set {w : World} {g : List Int → Sl} {r : List V → Hp → VK → Prop} {ta : TE} {ma : Mr} (ha : Sim K E ta ma)
    (hr : ∀ (F H : Hp) (a : Addr) (ns : List Int) (p : Addr) (c : Nat) (Q : VK), Same F H → H p = none → ns.length < 64 → c ≤ ns.length → (∀ v F' H' fp, Step F H F' H' → Ow K F' H' v (g ns) fp → New F' H fp → Q v H') → r [V.ref p] (upd H p (SetO w p (fun j => decide (j ∈ ns)) c)) Q) :
    Sim K E (tCB r (tCons (tCB (rSetI K w) (tCons ta tNil)) tNil)) (eSet g ma) := by
  intro S F H σ Γ Q e en p
  refine ha.bind e en p fun rr x F1 H1 fp q st ro nw => ?_
  have p1 : Post K S E Q F1 H1 (fin (set1 g rr.s)) := by
    have p2 : Post K S E Q F H ((ma Γ).bind fun x => fin (set1 g x.s)) := p
    rw [q] at p2
    exact Post.up st p2
  obtain ⟨f1, o1⟩ := ro.ow
  cases q2 : set1 g rr.s with
  | none =>
    rw [q2] at p1
    exact p1.elim
  | some s =>
    rw [q2] at p1
    obtain ⟨l, ns, rfl, sq, h64, rfl⟩ := set1_some (w := w) st.fh o1 q2
    refine ⟨l, ns, rfl, sq, h64, fun b c hb hc => ?_⟩
    exact hr F1 H1 l ns b c Q st.fh hb h64 hc fun v F' H' fp s1 s2 s3 => p1 v F' H' fp s1 s2 s3
theorem upd_step {p : Addr} {o : HO} (e : Same F H) (hp : H p = none) : Step F H F (upd H p o) := Step.grow e (fun a o' q => by
  unfold upd
  by_cases c : a = p
  · subst c
    rw [hp] at q
    cases q
  · rw [if_neg c]
    exact q)
theorem px_srtSet {a : Expr} {ma : Mr} {ta : TE} {p p2 q pos : Pos} (hc : X.calm = true) (hg : Gl X "sorted") (hm : X.mg "sorted" = none) (hg2 : Gl X "set") (hm2 : X.mg "set" = none) (ha : Px X E a ma ta)
    (na : starEach [a] X.env = (false, eval a X.env) :: starEach [] X.env := by rfl) : Px X E (.Call (.Name "sorted" p) [.Call (.Name "set" p2) [a] [] q] [] pos) (eSet gSrt ma) (tCB (rSortedSet X.w) (tCons (tCB (rSetI X.K X.w) (tCons ta tNil)) tNil)) := by
  refine ⟨pe_callB (cr_sortedSet hc) hg hm rfl (pa_cons (pe_callTy (cr_setI hc) hg2 hm2 rfl (pa_cons ha.pe pa_nil na) (he := na)) pa_nil), sim_set ha.sim fun F H a ns p c Q e hp h64 hc k => ?_⟩
  refine ⟨p, _, c, rfl, upd_same, by omega, fun ks b hs hm hl hb => ?_⟩
  have hs' : ks.Pairwise (· ≤ ·) := hs.imp fun h => Int.le_of_lt h
  have nd : ks.Nodup := hs.imp fun h => Int.ne_of_lt h
  rw [srt_uniq ((ddp_perm (l := ns) nd fun k => (hm k).trans (by simp)).trans (srt_perm _).symm) hs' (srt_ord _)]
  have st := upd_step (o := SetO X.w p (fun j => decide (j ∈ ns)) c) e hp
  obtain ⟨s1, s2, s3⟩ := new_list (K := X.K) st.fh hb (dq_ints (srt (ddp ns)))
  exact k _ _ _ _ (st.trans s1) s2 ⟨s3.nd, s3.nf, fun a m => st.hh.free (s3.nh a m)⟩
theorem px_lenSet {a : Expr} {ma : Mr} {ta : TE} {p p2 q pos : Pos} (hc : X.calm = true) (hg : Gl X "len") (hm : X.mg "len" = none) (hg2 : Gl X "set") (hm2 : X.mg "set" = none) (ha : Px X E a ma ta)
    (na : starEach [a] X.env = (false, eval a X.env) :: starEach [] X.env := by rfl) : Px X E (.Call (.Name "len" p) [.Call (.Name "set" p2) [a] [] q] [] pos) (eSet gLen ma) (tCB (rLenSet X.w) (tCons (tCB (rSetI X.K X.w) (tCons ta tNil)) tNil)) := by
  refine ⟨pe_callB cr_lenSet hg hm rfl (pa_cons (pe_callTy (cr_setI hc) hg2 hm2 rfl (pa_cons ha.pe pa_nil na) (he := na)) pa_nil), sim_set ha.sim fun F H a ns p c Q e hp h64 hc k => ?_⟩
  refine ⟨p, _, c, rfl, upd_same, fun ks nd hm hl => ?_⟩
  rw [← hl, (ddp_perm (l := ns) nd fun k => (hm k).symm.trans (by simp)).length_eq]
  exact k _ _ _ _ (upd_step e hp) (.dat (.int _)) New.nil

/-! ### max -/
def rMaxP (K : PySem.W.Frag) : List V → Hp → VK → Prop := fun vs H Q => ∃ (a : Addr) (xs : List V) (p : Int × Int) (ps : List (Int × Int)), vs = [V.ref a] ∧ SqL K H a xs ∧ DpAll K H xs ((p :: ps).map prD) ∧
  ∀ (i : Nat) v, xs[i]? = some v → ((p :: ps).map prD)[i]? = some (prD (mxP ps p)) → Q v H
theorem lt_pr (a b : Int × Int) : PySem.W.dataLt (prD a) (prD b) = ltP a b := by
  have e : ∀ p : Int × Int, PySem.W.keyToks (prD p) = [.inl 1, .inl p.1, .inl 1, .inl p.2, .inl 0] := fun p => by
    simp only [prD, PySem.W.keyToks, PySem.W.keyToksAll, List.cons_append, List.nil_append]
  unfold PySem.W.dataLt ltP
  rw [e, e, PyProof.Rows.lex_self]
  by_cases c : a.1 = b.1
  · rw [c, PyProof.Rows.lex_self, PyProof.Rows.lex_self]
    by_cases d : a.2 = b.2
    · rw [d, PyProof.Rows.lex_self, PyProof.Rows.lex_self]
      simp
      rfl
    · rw [PyProof.Rows.lex_diff (fun z => d (Sum.inl.inj z))]
      show decide (a.2 < b.2) = _
      simp
  · rw [PyProof.Rows.lex_diff (fun z => c (Sum.inl.inj z))]
    show decide (a.1 < b.1) = _
    simp [c]
theorem maxD_pr : ∀ (l : List (Int × Int)) (p : Int × Int), PySem.W.maxD (prD p) (l.map prD) = prD (mxP l p)
  | [], p => rfl
  | q :: l, p => by
    show (l.map prD).foldl _ (if PySem.W.dataLt (prD p) (prD q) = true then prD q else prD p) = prD (l.foldl _ (if ltP p q = true then q else p))
    rw [lt_pr]
    by_cases c : ltP p q = true
    · rw [if_pos c, if_pos c]
      exact maxD_pr l q
    · rw [if_neg c, if_neg c]
      exact maxD_pr l p
theorem alike_pr (l : List (Int × Int)) : PySem.W.AlikeAll (l.map prD) := by
  refine ⟨fun x hx y hy => ?_, fun x hx => ?_⟩
  · obtain ⟨a, _, rfl⟩ := List.mem_map.mp hx
    obtain ⟨b, _, rfl⟩ := List.mem_map.mp hy
    rfl
  · obtain ⟨a, _, rfl⟩ := List.mem_map.mp hx
    intro z
    cases z
theorem depth_pr : ∀ (l : List (Int × Int)), PyData.depthAll (l.map prD) ≤ 2
  | [] => by decide
  | p :: l => by
    show max (prD p).depth (PyData.depthAll (l.map prD)) ≤ 2
    have h := depth_pr l
    have h2 : (prD p).depth ≤ 2 := (by unfold prD; simp [PyData.depth, PyData.depthAll])
    omega
theorem cr_maxP (hc : X.calm = true) (hu : X.A.units + 64 < cLine) : CallR X (.builtin "max") (rMaxP X.K) := by
  intro pins s σ H vs us Q I r h
  obtain ⟨a, xs, p, ps, rfl, hs, hd, q⟩ := h
  obtain ⟨its, rv, hl, _⟩ := I.list hs
  obtain ⟨as, ra⟩ := Dp.readsAll I _ _ _ hd rv
  rw [Vals.ref1 r]
  have dl := depth_pr (p :: ps)
  refine PySem.W.max_list_data (I.ok.hd hc) hl.isList (by simpa using ra) (alike_pr (p :: ps)) (by
    have dl' : PyData.depthAll (prD p :: ps.map prD) ≤ 2 := dl
    omega) fun i v h' tk bs hi rd hk => ?_
  have hi' : its[i]? = some v := by simpa using hi
  obtain ⟨cs, r2, lt, _, _⟩ := PySem.W.readsAll_at ra i v hi'
  have hx : i < xs.length := by
    have := rv.length
    have := (List.getElem?_eq_some_iff.mp hi').1
    omega
  obtain ⟨u, hu', rr⟩ := rv.get (List.getElem?_eq_getElem hx)
  rw [hi'] at hu'
  cases hu'
  refine ⟨xs[i], H, I.kept hk, rr, q i _ (List.getElem?_eq_getElem hx) ?_⟩
  rw [maxD_pr] at rd
  have e := (PySem.Reads.unique rd _ _ (PySem.W.reads_keeps hk r2)).1
  rw [List.getElem?_eq_getElem lt]
  rw [e, List.getD_eq_getElem?_getD, List.getElem?_eq_getElem lt]
  rfl
theorem dqAll_at {F : Hp} : ∀ {xs : List V} {ds : List PyData} {i : Nat} {v : V} {d : PyData}, DqAll F xs ds → xs[i]? = some v → ds[i]? = some d → Dq F v d
  | _, _, _, _, _, .nil, e, _ => by simp at e
  | _, _, 0, _, _, .cons h _, e, e2 => by
    cases e
    cases e2
    exact h
  | _, _, i + 1, _, _, .cons _ t, e, e2 => dqAll_at (i := i) t e e2
theorem cd_max (hc : X.calm = true) (hu : X.A.units + 64 < cLine) : CallD X (.builtin "max") pMax := by
  refine CallR.via fun xs H Q q => ?_
  obtain ⟨F, ss, s, e, ol, fs, k⟩ := q
  unfold pMax at fs
  split at fs
  · rename_i i j
    cases fs
    cases ol with
    | cons fa oa t =>
      cases t with
      | cons fb ob t =>
        cases t
        exact ⟨_, call_max2 hc, i, j, by rw [ow_int oa, ow_int ob], k _ F H [] (Step.refl e) (.dat (.int _)) New.nil⟩
  · rename_i a
    cases ol with
    | cons fa oa t =>
      cases t
      cases q3 : itsS a with
      | none =>
        rw [q3] at fs
        cases fs
      | some ds =>
        rw [q3] at fs
        have fs : maxOf ds = some s := fs
        unfold maxOf at fs
        obtain ⟨l, vs, rfl, sq, all⟩ := itsS_ow e oa q3
        cases q4 : intsOf ds with
        | some ns =>
          rw [q4] at fs
          cases ns with
          | nil => cases fs
          | cons n ns =>
            cases fs
            rw [ints_vs all q4] at sq
            refine ⟨_, cr_max hc, l, n :: ns, rfl, sq, Nat.succ_pos _, fun m hm hle => ?_⟩
            obtain ⟨h1, h2, h3⟩ := mx_ok ns n
            have em : m = mx ns n := by
              have a1 : mx ns n ≤ m := by
                rcases h1 with h1 | h1
                · rw [h1]
                  exact hle n List.mem_cons_self
                · exact hle _ (List.mem_cons_of_mem _ h1)
              have a2 : m ≤ mx ns n := by
                rcases List.mem_cons.mp hm with rfl | hm
                · exact h2
                · exact h3 m hm
              omega
            rw [em]
            exact k _ F H [] (Step.refl e) (.dat (.int _)) New.nil
        | none =>
          rw [q4] at fs
          have fs : (match prsOf ds with | some (p :: ps) => some (Sl.dat (prD (mxP ps p))) | _ => none) = some s := fs
          cases q5 : prsOf ds with
          | none =>
            rw [q5] at fs
            cases fs
          | some ps =>
            rw [q5] at fs
            cases ps with
            | nil => cases fs
            | cons p ps =>
              cases fs
              have ed := prs_ds q5
              subst ed
              refine ⟨_, cr_maxP hc hu, l, vs, p, ps, rfl, sq, dqAll_dp e all, fun i v hv hd => ?_⟩
              exact k _ F H [] (Step.refl e) (.dat (dqAll_at all hv hd)) New.nil
  · cases fs
end
end Pf

/-! Pf18: names that take a comprehension, list(range), defs by their data. -/
namespace Pf
open PySem PySem.Spec L2 PyProof.Rows

theorem u64 {k : Nat} {A : Around} (h : Room k A) : A.units + 64 < cLine := by
  have := h.un
  omega
theorem u65 {k : Nat} {A : Around} (h : Room k A) : A.units + 65 < cLine := by
  have := h.un
  omega
theorem toFun {K : PySem.W.Frag} {x qual : Str} {st : Stmt} {f : Addr} {fd : FuncData} {kws : List (Str × V)} (F : FunD K x qual (defArgs st) (defBody st) (defScope st) [] kws f fd) : Fun K x qual st f fd := by
  obtain ⟨oc, od, dV, kV, doc, pm, an, cdv, ct, osl, e, lk, hcd, hd, _⟩ := F.ex
  rcases hd with ⟨_, rfl⟩ | ⟨z, _⟩
  · exact ⟨⟨oc, od, kV, doc, pm, an, cdv, ct, osl, e, lk, hcd⟩, F.kp⟩
  · exact absurd rfl z
section
variable {X : Cx} {K : PySem.W.Frag} {S : Addr → Prop} {E : XK} {F H : Hp}
theorem pxs_setLc {np i : Nat} {x : Str} {elt tg iter : Expr} {m : MrT} {t : TT} {ifs : List Expr} {scope : Scope} {own : List (Str × Nat)} {pos pos' spos : Pos} {wi : TI} {g : TG} {te : TE} {is : List Nat} {un : PyData → Option (List PyData)} {mi : MrI} {me : Mr} (hc : X.calm = true) (hN : X.N.Nodup)
    (hx : X.N[i]? = some x) (hl : X.env.scope.names.lookup x = some .local) (hi : PxI X E tg iter mi wi) (ok : BlkOk X.N X.env.scope scope own)
    (hg : ∀ (s : Shared) (H : Hp) (C : Addr) (cl : List (Str × Addr)) (fp : List Addr), PxG (X.blk s H scope (compEnvC scope cl C X.env) fp) tg is un g)
    (ht : ∀ (s : Shared) (H : Hp) (C : Addr) (cl : List (Str × Addr)) (fp : List Addr), PxTs (X.blk s H scope (compEnvC scope cl C X.env) fp) E0 ifs m t)
    (he : ∀ (s : Shared) (H : Hp) (C : Addr) (cl : List (Str × Addr)) (fp : List Addr), Px (X.blk s H scope (compEnvC scope cl C X.env) fp) E0 elt me te)
    (hsw : swapsWith (.ListComp elt [⟨tg, iter, ifs, 0⟩] scope pos) (some (.Name x pos')) spos.line X.env = pure true)
    (hnp : np ≤ i := by decide) (hw : ∀ i ∈ is, i ∈ own.map (·.2) := by decide) (hs : ∀ x, foldedSetIterable iter X.env x = pure x := by intro _; rfl) :
    PxS X E np (.Assign [.Name x pos'] (.ListComp elt [⟨tg, iter, ifs, 0⟩] scope pos) spos) (sAsg i (eFrz (eComp mi un is m me (own.map (·.2))))) (tAsg (tLc wi g t te (own.map (·.2))) (gName i)) :=
  ⟨ps_setLc hc hN hx hl hsw hi.pi ok (fun s H C cl fp => (hg s H C cl fp).pg) (fun s H C cl fp => (ht s H C cl fp).ts) (fun s H C cl fp => (he s H C cl fp).pe) hs,
    simS_asg hnp (sim_frz (sim_comp hi.sim (hg X.s_0 X.H_0 0 [] []).ok (ht X.s_0 X.H_0 0 [] []).sim (he X.s_0 X.H_0 0 [] []).sim hw))⟩
/-! list(range(..)) -/
def lr1 (i j : Int) : Rz Rv := if i62 i = true ∧ i62 j = true ∧ (j - i).toNat ≤ 1000000 then .ok ⟨.own, newL (rngD i (j - i).toNat)⟩ else .no
def lrOf (rs : List Rv) : Rz Rv := match rs with
  | [⟨_, .dat (.int j)⟩] => lr1 0 j
  | [⟨_, .dat (.int i)⟩, ⟨_, .dat (.int j)⟩] => lr1 i j
  | _ => .no
def eLstR (as : MrA) : Mr := fun Γ => (as Γ).bind lrOf
theorem i62_ok {i : Int} (h : i62 i = true) : -(2 ^ 62) ≤ i ∧ i < 2 ^ 62 := of_decide_eq_true h
theorem rg_dq {F : Hp} (i j : Int) : DqAll F (rgV i j) (rngD i (j - i).toNat) := by
  unfold rgV rngD
  generalize (j - i).toNat = n
  generalize List.range n = l
  induction l with
  | nil => exact .nil
  | cons a l ih => exact .cons (.int _) ih
theorem lr_end {Q : VK} {i j : Int} (e : Same F H) (p : Post K S E Q F H (lr1 i j)) : RgOk i j ∧ ∀ q, H q = none → Q (.ref q) (upd H q (.lst (rgV i j))) := by
  unfold lr1 at p
  by_cases c : i62 i = true ∧ i62 j = true ∧ (j - i).toNat ≤ 1000000
  · rw [if_pos c] at p
    obtain ⟨c1, c2, c3⟩ := c
    have a1 := i62_ok c1
    have a2 := i62_ok c2
    refine ⟨⟨a1.1, a1.2, a2.1, a2.2, by omega⟩, fun q hq => ?_⟩
    obtain ⟨s1, s2, s3⟩ := new_list (K := K) e hq (rg_dq i j)
    exact p _ _ _ _ s1 s2 s3
  · rw [if_neg c] at p
    exact p.elim
theorem px_lstR1 {a : Expr} {ma : Mr} {ta : TE} {p p2 q pos : Pos} (hc : X.calm = true) (hg : Gl X "list") (hm : X.mg "list" = none) (hg2 : Gl X "range") (hm2 : X.mg "range" = none) (ha : Px X E a ma ta)
    (na : starEach [a] X.env = (false, eval a X.env) :: starEach [] X.env := by rfl) : Px X E (.Call (.Name "list" p) [.Call (.Name "range" p2) [a] [] q] [] pos) (eLstR (eCons ma eNil)) (tLstRg (tRg1 ta)) := by
  refine ⟨pe_listRg hc hg hm (prg_1 hg2 hm2 ha.pe na), fun S F H σ Γ Q e en p => ?_⟩
  have p0 : Post X.K S E Q F H ((ma Γ).bind fun r => lrOf [r]) := by
    have p1 : Post X.K S E Q F H (((ma Γ).bind fun x => (Rz.ok []).bind fun xs => Rz.ok (x :: xs)).bind lrOf) := p
    cases q : ma Γ with
    | ok r =>
      rw [q] at p1
      exact p1
    | er c =>
      rw [q] at p1
      exact p1
    | no =>
      rw [q] at p1
      exact p1
  refine ha.sim.bind e en p0 fun r x F1 H1 fp q st ro nw => ?_
  rw [q] at p0
  have p2 : Post X.K S E Q F1 H1 (lrOf [r]) := Post.up st p0
  obtain ⟨fl, s⟩ := r
  unfold lrOf at p2
  split at p2
  · rename_i j e2
    cases e2
    exact ⟨j, rok_int ro, lr_end st.fh p2⟩
  · rename_i e2
    cases e2
  · exact p2.elim
end
end Pf

/-! Pf19: tables for isinstance, what the head tells. -/
namespace Pf
open PySem PySem.Spec L2 PyProof.Rows

def tbB (T : String) (tb : List (Tyn × Bool)) : Bool := tb.all fun q => match q.1 with
  | .inl a => decide (kitB a T = some q.2)
  | .inr _ => false
theorem tbB_kit {K : PySem.W.Frag} {T : String} {tb : List (Tyn × Bool)} (h : tbB T tb = true) : ∀ q ∈ tb, PySem.W.kitOne K (tyVal K q.1) (.type T) = some q.2 := fun q m => by
  have z := List.all_eq_true.mp h q m
  obtain ⟨t, b⟩ := q
  cases t with
  | inl a => exact kit_ty (of_decide_eq_true z)
  | inr c => cases z
theorem tbB_ins {K : PySem.W.Frag} {T : String} {tb : List (Tyn × Bool)} (h : tbB T tb = true) : ∀ q ∈ tb, ∀ x, q.1 = .inr x → InsOk K x := fun q m x e => by
  have z := List.all_eq_true.mp h q m
  obtain ⟨t, b⟩ := q
  cases t with
  | inl a => cases e
  | inr c => cases z
def insB (K : PySem.W.Frag) (c : Str) : Bool := decide (PySem.W.findIn K (.ref (He.ga K c)) "__class__" = some (some (.builtin "object.__class__"))) && (decide (PySem.W.specialIn K (.builtin "object.__class__") "__get__" = some (some (.builtin "getset_descriptor.__get__"))) &&
  (decide (PySem.W.takesIn K (.builtin "object.__class__") = some true) && decide (PySem.W.mroIn K (He.ga K c) (.type "object") = some true)))
theorem insB_ok {K : PySem.W.Frag} {c : Str} (h : insB K c = true) (hc : Cls K (He.ga K c)) : InsOk K c := by
  obtain ⟨h1, h⟩ := He.ba h
  obtain ⟨h2, h⟩ := He.ba h
  obtain ⟨h3, h4⟩ := He.ba h
  exact ⟨hc, of_decide_eq_true h1, of_decide_eq_true h2, of_decide_eq_true h3, of_decide_eq_true h4⟩
/-- the classes' table: types ts, told of the class c -/
def tbC (K : PySem.W.Frag) (c : Str) (tb : List (Tyn × Bool)) : Bool := tb.all fun q => decide (PySem.W.kitOne K (tyVal K q.1) (.ref (He.ga K c)) = some q.2)
theorem tbC_kit {K : PySem.W.Frag} {c : Str} {tb : List (Tyn × Bool)} (h : tbC K c tb = true) : ∀ q ∈ tb, PySem.W.kitOne K (tyVal K q.1) (.ref (He.ga K c)) = some q.2 := fun q m => of_decide_eq_true (List.all_eq_true.mp h q m)
theorem tb_ins {K : PySem.W.Frag} {tb : List (Tyn × Bool)} {cs : List Str} (hc : ∀ c ∈ cs, InsOk K c) (h : (tb.all fun q => match q.1 with | .inl _ => true | .inr c => decide (c ∈ cs)) = true) : ∀ q ∈ tb, ∀ x, q.1 = .inr x → InsOk K x := fun q m x e => by
  have z := List.all_eq_true.mp h q m
  obtain ⟨t, b⟩ := q
  cases t with
  | inl a => cases e
  | inr c =>
    cases e
    exact hc _ (of_decide_eq_true z)
def tInt : List (Tyn × Bool) := [(.inl "NoneType", false), (.inl "bool", true), (.inl "int", true), (.inl "str", false), (.inl "list", false), (.inl "tuple", false), (.inl "dict", false)]
def tBool : List (Tyn × Bool) := [(.inl "NoneType", false), (.inl "bool", true), (.inl "int", false), (.inl "str", false), (.inl "list", false), (.inl "tuple", false), (.inl "dict", false)]
def tList : List (Tyn × Bool) := [(.inl "NoneType", false), (.inl "bool", false), (.inl "int", false), (.inl "str", false), (.inl "list", true), (.inl "tuple", false), (.inl "dict", false)]
def tTuple : List (Tyn × Bool) := [(.inl "NoneType", false), (.inl "bool", false), (.inl "int", false), (.inl "str", false), (.inl "list", false), (.inl "tuple", true), (.inl "dict", false)]
def tStr : List (Tyn × Bool) := [(.inl "NoneType", false), (.inl "bool", false), (.inl "int", false), (.inl "str", true), (.inl "list", false), (.inl "tuple", false), (.inl "dict", false)]
def tDict : List (Tyn × Bool) := [(.inl "NoneType", false), (.inl "bool", false), (.inl "int", false), (.inl "str", false), (.inl "list", false), (.inl "tuple", false), (.inl "dict", true)]
theorem b_int : tbB "int" tInt = true := by decide +kernel
theorem b_bool : tbB "bool" tBool = true := by decide +kernel
theorem b_list : tbB "list" tList = true := by decide +kernel
theorem b_tuple : tbB "tuple" tTuple = true := by decide +kernel
theorem b_str : tbB "str" tStr = true := by decide +kernel
theorem b_dict : tbB "dict" tDict = true := by decide +kernel
/-! the script -/
def scr (ns : List Int) : Sl := .node .S (ns.map fun n => .dat (.int n))
theorem scr_ow {K : PySem.W.Frag} {H : Hp} : ∀ (ns : List Int), OwAll K (fun _ => none) H (ns.map V.int) (ns.map fun n => .dat (.int n)) []
  | [] => .nil
  | n :: ns => .cons (fp := []) (.dat (.int n)) (scr_ow ns)
def noLst (K : PySem.W.Frag) : Bool := K.all fun p => decide (p.2.cls ≠ .type "list")
theorem law_sp {K : PySem.W.Frag} {m : Fm} (nl : noLst K = true) {H : Hp} {a : Addr} {ns : List Int} (hO : Only H) (hS : SqL K H a (ns.map V.int)) (h : m [scr ns] = .ok ⟨.own, .dat (.bool true)⟩) : spM K m [.ref a] H (fun v _ => v = .bl true) (fun _ _ _ => False) := by
  rcases hS with hS | ⟨o, its, n, lk, hc, _⟩
  · have hf : ∃ ob, H a = some (.frz ob (.lst (ns.map V.int))) := by
      rcases hS with hS | hS
      · rcases hO a with z | ⟨o, xs, z⟩
        · rw [hS] at z
          cases z
        · rw [hS] at z
          cases z
      · exact hS
    obtain ⟨ob, hf⟩ := hf
    refine ⟨fun _ => none, [scr ns], (fun _ _ z => by cases z), .cons [a] (.node hf ⟨ob, rfl⟩ (scr_ow ns)) .nil, ?_⟩
    rw [h]
    intro v F' H' fp st ro nw
    have ro : Ow K F' H' v (.dat (.bool true)) fp := ro
    cases ro with
    | dat hd =>
      cases hd
      rfl
  · have z := List.all_eq_true.mp nl _ (He.lookup_mem lk)
    exact absurd hc (of_decide_eq_true z)
end Pf
namespace Pf
open PySem PySem.Spec L2 PyProof.Rows
/-- the law, by its promise over every base -/
theorem walk_w {l : PySem.W.OpenLaw} {n k : Nat} {q : Program} {loose : List Str} {XP : (Str → Option Value) → Heap → Prop} {YP : World → Heap → Prop} {d : DefRec} {x : Str} (hn : l.most = some n) (hn2 : n ≤ sizeLine) (hdf : d.params.defaults = []) (hr : Room k callerA)
    (F : ∀ (w : World) (mg : Str → Option Value) (fa : Addr) (h : Heap), YP w h → h.Ns mainGlobals mg → mg d.name = some (.ref fa) →
      ∃ (K : PySem.W.Frag) (fd : FuncData) (sp : Sp), K.In h ∧ (∀ (s : Shared) (u : Value), BindsTo s fd ⟨[u], []⟩ [(x, u)]) ∧ (∀ (H : Hp) (a : Addr) (ns : List Int), ns.length ≤ n → Only H → SqL K H a (ns.map V.int) → sp [.ref a] H (fun v _ => v = .bl true) fun _ _ _ => False) ∧
        ∀ base : Heap, K.In base → base.Ns mainGlobals mg → FnOk l.prog w K mg base (L2.CX l.prog w) k fa fd [x] sp) : PySem.W.WalkO q loose XP YP l.row.toRowW d [] (fun f vs => PySem.call f vs) := by
  refine Att.attach_call hn hdf ?_
  intro w s0 s1 mg mb fa o pm cd doc a vs ns G Y _ _ _ hmg hobj hints hlen hg
  obtain ⟨K, fd, sp, KX, hb, hsp, hF⟩ := F w mg fa _ Y G.T.g hmg
  refine law_call KX G.T.g G.T.b G.T.builtins G.T.nolimit hg hobj hints (Nat.le_trans hlen hn2) hr hF hb (fun H hO hS => hsp H a ns hlen hO hS) fun H e s' h => ?_
  obtain ⟨_, _, _, _, _, _, _, _, _, _, _, _, z⟩ := h
  exact z
end Pf

/-! Pf20: mirrors, step by step. -/
namespace Pf
open PySem
abbrev ob1 (b : Bool) : Rz Rv := .ok ⟨.own, .dat (.bool b)⟩
abbrev oi (n : Int) : Rz Rv := .ok ⟨.own, .dat (.int n)⟩
abbrev od (d : PyData) : Rz Rv := .ok ⟨.own, .dat d⟩
abbrev di (n : Int) : Sl := .dat (.int n)
section
variable {a b : MrS} {Γ Γ' : Gm} {c : MrT} {m : Mr} {ma : MrA} {r : Rv} {s : Sl} {z : Oz} {x : Bool}
theorem seq_nx (h : a Γ = .nx Γ') : sSeq a b Γ = b Γ' := by
  show (match a Γ with | .nx Γ' => b Γ' | z => z) = _
  rw [h]
theorem seq_rt (h : a Γ = .rt r Γ') : sSeq a b Γ = .rt r Γ' := by
  show (match a Γ with | .nx Γ' => b Γ' | z => z) = _
  rw [h]
theorem if_b (h : c Γ = .ok x) : sIf c a b Γ = bif x then a Γ else b Γ := by
  show (match c Γ with | .ok true => a Γ | .ok false => b Γ | .er c => .er c Γ | .no => .no) = _
  rw [h]
  cases x <;> rfl
theorem if_t (h : c Γ = .ok true) : sIf c a b Γ = a Γ := if_b h
theorem if_f (h : c Γ = .ok false) : sIf c a b Γ = b Γ := if_b h
theorem ret_ok (h : m Γ = .ok ⟨.own, s⟩) : sRet m Γ = .rt ⟨.own, s⟩ Γ := by
  show ret1 (m Γ) Γ = _
  rw [h]
  rfl
theorem asg_ok {i : Nat} (h : m Γ = .ok ⟨.own, s⟩) : sAsg i m Γ = .nx (Γ.set i (some ⟨.own, s⟩)) := by
  show asg1 i (m Γ) Γ = _
  rw [h]
  rfl
theorem exp_ok (h : m Γ = .ok r) : sExp m Γ = .nx Γ := by
  show drop1 (m Γ) Γ = _
  rw [h]
  rfl
theorem fn_ok {f : Fm} {rs : List Rv} (h : ma Γ = .ok rs) (h2 : f (rs.map Rv.s) = .ok r) : eFn f ma Γ = .ok (out r) := by
  show (ma Γ).bind (fun rs => (f (rs.map Rv.s)).bind fun r => .ok (out r)) = _
  rw [h]
  show (f (rs.map Rv.s)).bind (fun r => .ok (out r)) = _
  rw [h2]
  rfl
theorem fn_d {f : Fm} {rs : List Rv} {d : PyData} (h : ma Γ = .ok rs) (h2 : f (rs.map Rv.s) = od d) : eFn f ma Γ = od d := fn_ok h h2
theorem test_ok (h : m Γ = ob1 x) : eT m Γ = .ok x := by
  show (m Γ).bind tru = _
  rw [h]
  rfl
theorem not_ok (h : c Γ = .ok x) : eNot c Γ = .ok (!x) := by
  show (c Γ).bind (fun x => .ok (!x)) = _
  rw [h]
  rfl
theorem or_ok {c' : MrT} {y : Bool} (h : c Γ = .ok x) (h' : x = false → c' Γ = .ok y) : eOr c c' Γ = .ok (x || y) := by
  show (c Γ).bind (fun x => match x with | true => .ok true | false => c' Γ) = _
  rw [h]
  cases x with
  | true => rfl
  | false => exact h' rfl
theorem and_ok {c' : MrT} {y : Bool} (h : c Γ = .ok x) (h' : x = true → c' Γ = .ok y) : eAnd c c' Γ = .ok (x && y) := by
  show (c Γ).bind (fun x => match x with | true => c' Γ | false => .ok false) = _
  rw [h]
  cases x with
  | false => rfl
  | true => exact h' rfl
theorem andV_ok {m' : Mr} {y : Bool} (h : m Γ = ob1 x) (h' : x = true → m' Γ = ob1 y) : eAndV m m' Γ = ob1 (x && y) := by
  show (m Γ).bind (fun z => (tru z).bind fun c => match c with | true => m' Γ | false => .ok ⟨.own, .dat (.bool false)⟩) = _
  rw [h]
  cases x with
  | false => rfl
  | true => exact h' rfl
theorem call_ok {f : List Sl → Option Sl} {rs : List Rv} (h : ma Γ = .ok rs) (h2 : f (rs.map Rv.s) = some s) : eCall f ma Γ = .ok ⟨.own, s⟩ := by
  show (ma Γ).bind (fun rs => fin (f (rs.map Rv.s))) = _
  rw [h]
  show fin (f (rs.map Rv.s)) = _
  rw [h2]
  rfl
theorem op2_ok {f : List Sl → Option Sl} {m' : Mr} {r r' : Rv} (h : m Γ = .ok r) (h' : m' Γ = .ok r') (h2 : f [r.s, r'.s] = some s) : eOp2 f m m' Γ = .ok ⟨.own, s⟩ := by
  show (m Γ).bind (fun x => (m' Γ).bind fun y => fin (f [x.s, y.s])) = _
  rw [h]
  show (m' Γ).bind (fun y => fin (f [r.s, y.s])) = _
  rw [h']
  show fin (f [r.s, r'.s]) = _
  rw [h2]
  rfl
theorem cons_ok {r : Rv} {rs : List Rv} (h : m Γ = .ok r) (h' : ma Γ = .ok rs) : eCons m ma Γ = .ok (r :: rs) := by
  show (m Γ).bind (fun x => (ma Γ).bind fun xs => .ok (x :: xs)) = _
  rw [h]
  show (ma Γ).bind (fun xs => .ok (r :: xs)) = _
  rw [h']
  rfl
theorem frz_ok {d : PyData} (h : m Γ = .ok ⟨.own, s⟩) (h2 : toD s = some d) : eFrz m Γ = od d := by
  show (m Γ).bind frzR = _
  rw [h]
  show (match toD s with | some d => (Rz.ok (⟨.own, .dat d⟩ : Rv) : Rz Rv) | none => Rz.no) = _
  rw [h2]
theorem toDs_dat {α : Type} (g : α → PyData) : ∀ xs : List α, toDs (xs.map fun x => Sl.dat (g x)) = some (xs.map g)
  | [] => rfl
  | x :: xs => by
    show (match toD (Sl.dat (g x)), toDs (xs.map fun x => Sl.dat (g x)) with | some d, some ds => some (d :: ds) | _, _ => none) = _
    rw [toDs_dat g xs]
    rfl
theorem toD_dat {α : Type} (g : α → PyData) (xs : List α) : toD (.node .L (xs.map fun x => Sl.dat (g x))) = some (.list (xs.map g)) := by
  show (toDs _).map PyData.list = _
  rw [toDs_dat]
  rfl
theorem datAll_dat {α : Type} (g : α → PyData) : ∀ xs : List α, datAll (xs.map fun x => Sl.dat (g x)) = some (xs.map g)
  | [] => rfl
  | x :: xs => by
    show (datAll (xs.map fun x => Sl.dat (g x))).map (g x :: ·) = _
    rw [datAll_dat g xs]
    rfl
/-- a comprehension over typed things -/
theorem cgo_ok {α : Type} {un : PyData → Option (List PyData)} {is : List Nat} {mt : MrT} {me : Mr} (enc : α → PyData) (es : α → List PyData) (p : α → Bool) (f : α → Sl) (hu : ∀ x, un (enc x) = some (es x)) :
    ∀ (xs : List α), (∀ x ∈ xs, mt (asgG is (es x) Γ) = .ok (p x)) → (∀ x ∈ xs, p x = true → me (asgG is (es x) Γ) = .ok ⟨.own, f x⟩) → cgo un is mt me Γ (xs.map enc) = .ok ((xs.filter p).map f)
  | [], _, _ => rfl
  | x :: xs, ht, he => by
    rw [List.map_cons, cgo]
    have ih := cgo_ok enc es p f hu xs (fun y m => ht y (List.mem_cons_of_mem _ m)) (fun y m => he y (List.mem_cons_of_mem _ m))
    have h1 := ht x List.mem_cons_self
    rw [hu x]
    dsimp only
    rw [h1, ih]
    cases q : p x with
    | true =>
      rw [List.filter_cons_of_pos q]
      dsimp only
      rw [he x List.mem_cons_self q]
      rfl
    | false =>
      rw [List.filter_cons_of_neg (by rw [q]; exact Bool.false_ne_true)]
theorem comp_ok {α : Type} {mi : MrI} {un : PyData → Option (List PyData)} {is vs : List Nat} {mt : MrT} {me : Mr} {fl : Bool} {xs : List α} (enc : α → PyData) (es : α → List PyData) (p : α → Bool) (f : α → Sl) (hi : mi Γ = .ok (fl, xs.map enc)) (hu : ∀ x, un (enc x) = some (es x))
    (ht : ∀ x ∈ xs, mt (asgG is (es x) (wipeG Γ vs)) = .ok (p x)) (he : ∀ x ∈ xs, p x = true → me (asgG is (es x) (wipeG Γ vs)) = .ok ⟨.own, f x⟩) (hl : xs.length ≤ most) : eComp mi un is mt me vs Γ = .ok ⟨.own, .node .L ((xs.filter p).map f)⟩ := by
  unfold eComp
  rw [hi]
  unfold Rz.bind
  dsimp only
  rw [cgo_ok enc es p f hu xs ht he]
  dsimp only
  rw [if_pos]
  rw [List.length_map]
  exact Nat.le_trans (List.length_filter_le _ _) hl
/-- the same, frozen -/
theorem compF_ok {α : Type} {mi : MrI} {un : PyData → Option (List PyData)} {is vs : List Nat} {mt : MrT} {me : Mr} {fl : Bool} {xs : List α} (enc : α → PyData) (es : α → List PyData) (p : α → Bool) (f : α → PyData) (hi : mi Γ = .ok (fl, xs.map enc)) (hu : ∀ x, un (enc x) = some (es x))
    (ht : ∀ x ∈ xs, mt (asgG is (es x) (wipeG Γ vs)) = .ok (p x)) (he : ∀ x ∈ xs, p x = true → me (asgG is (es x) (wipeG Γ vs)) = od (f x)) (hl : xs.length ≤ most) : eFrz (eComp mi un is mt me vs) Γ = od (.list ((xs.filter p).map f)) :=
  frz_ok (comp_ok enc es p (fun x => .dat (f x)) hi hu ht he hl) (toD_dat f _)
theorem for_ok {mi : MrI} {un : PyData → Option (List PyData)} {is : List Nat} {ds : List PyData} (h : mi Γ = .ok (true, ds)) : sFor mi un is a Γ = floop un is a ds Γ := by
  unfold sFor
  rw [h]
theorem floop_nx {un : PyData → Option (List PyData)} {is : List Nat} {d : PyData} {ds es : List PyData} (hu : un d = some es) (h : a (asgG is es Γ) = .nx Γ') : floop un is a (d :: ds) Γ = floop un is a ds Γ' := by
  rw [floop, hu]
  dsimp only
  rw [h]
theorem wl_nx {n : Nat} (hc : c Γ = .ok true) (h : a Γ = .nx Γ') : wloop c a (n + 1) Γ = wloop c a n Γ' := by
  rw [wloop, hc]
  dsimp only
  rw [h]
theorem wl_rt {n : Nat} (hc : c Γ = .ok true) (h : a Γ = .rt r Γ') : wloop c a (n + 1) Γ = .rt r Γ' := by
  rw [wloop, hc]
  dsimp only
  rw [h]
theorem wl_end {n : Nat} (hc : c Γ = .ok false) : wloop c a (n + 1) Γ = .nx Γ := by
  rw [wloop, hc]
theorem run_rt {np nN : Nat} {ss : List Sl} (hl : ss.length = np) (h : a (initG nN ss) = .rt r Γ') : runF np nN a ss = .ok r := by
  unfold runF
  rw [if_pos hl, h]
  rfl
theorem run_nx {np nN : Nat} {ss : List Sl} (hl : ss.length = np) (h : a (initG nN ss) = .nx Γ') : runF np nN a ss = od .none := by
  unfold runF
  rw [if_pos hl, h]
  rfl
end
/-! typed parts -/
def hasI (p : Int × Int) (m : Int) : Bool := decide (p.1 ≤ m) && decide (m < p.2)
abbrev dp (p : Int × Int) : Sl := .dat (prD p)
abbrev plD (ps : List (Int × Int)) : PyData := .list (ps.map prD)
abbrev dps (ps : List (Int × Int)) : Sl := .dat (plD ps)
end Pf

/-! Pf21: mirrors evaluated by simp. -/
namespace Pf
open PySem
section
variable {α β : Type} {Γ Γ' : Gm} {m m' : Mr} {ma : MrA} {c c' : MrT} {a b : MrS} {r : Rv} {s : Sl} {d : PyData}
abbrev db (b : Bool) : Sl := .dat (.bool b)
theorem cg_bind {x x' : Rz α} {f : α → Rz β} (h : x = x') : x.bind f = x'.bind f := by rw [h]
@[simp] theorem ev_bok {x : α} {f : α → Rz β} : Rz.bind (.ok x) f = f x := rfl
@[simp] theorem ev_ber {e : Str} {f : α → Rz β} : Rz.bind (.er e) f = .er e := rfl
@[simp] theorem ev_bno {f : α → Rz β} : Rz.bind .no f = .no := rfl
@[simp] theorem ev_bite {p : Prop} [Decidable p] {x y : Rz α} {f : α → Rz β} : Rz.bind (if p then x else y) f = if p then x.bind f else y.bind f := by split <;> rfl
def rdo (o : Option (Option Rv)) : Rz Rv := match o with
  | some (some ⟨_, .dat d⟩) => .ok ⟨.own, .dat d⟩
  | some (some ⟨.par, s⟩) => .ok ⟨.par, s⟩
  | some (some ⟨_, s⟩) => .ok ⟨.bor, s⟩
  | _ => .no
def gt : Gm → Nat → Option (Option Rv)
  | [], _ => none
  | x :: _, 0 => some x
  | _ :: Γ, n + 1 => gt Γ n
theorem gt_eq : ∀ (Γ : Gm) (i : Nat), Γ[i]? = gt Γ i
  | [], _ => rfl
  | x :: Γ, 0 => rfl
  | x :: Γ, n + 1 => gt_eq Γ n
@[simp] theorem gt_z {x : Option Rv} : gt (x :: Γ) 0 = some x := rfl
@[simp] theorem gt_s {x : Option Rv} {n : Nat} : gt (x :: Γ) (n + 1) = gt Γ n := rfl
@[simp] theorem ev_var {i : Nat} : eVar i Γ = rdo (gt Γ i) := by
  rw [← gt_eq]
  rfl
@[simp] theorem ev_rd {fl : Fl} : rdo (some (some ⟨fl, .dat d⟩)) = .ok ⟨.own, .dat d⟩ := rfl
@[simp] theorem ev_rp {k : Nk} {xs : List Sl} : rdo (some (some ⟨.par, .node k xs⟩)) = .ok ⟨.par, .node k xs⟩ := rfl
@[simp] theorem ev_ro {k : Nk} {xs : List Sl} : rdo (some (some ⟨.own, .node k xs⟩)) = .ok ⟨.bor, .node k xs⟩ := rfl
@[simp] theorem ev_rs {ns : List Int} : rdo (some (some ⟨.par, scr ns⟩)) = .ok ⟨.par, scr ns⟩ := rfl
@[simp] theorem ev_c : eC d Γ = .ok ⟨.own, .dat d⟩ := rfl
@[simp] theorem ev_fin : fin (some s) = .ok ⟨.own, s⟩ := rfl
@[simp] theorem ev_op2 {f : List Sl → Option Sl} : eOp2 f m m' Γ = (m Γ).bind fun x => (m' Γ).bind fun y => fin (f [x.s, y.s]) := rfl
@[simp] theorem ev_op1 {f : List Sl → Option Sl} : eOp1 f m Γ = (m Γ).bind fun x => fin (f [x.s]) := rfl
@[simp] theorem ev_call {f : List Sl → Option Sl} : eCall f ma Γ = (ma Γ).bind fun xs => fin (f (xs.map Rv.s)) := rfl
@[simp] theorem ev_nil : eNil Γ = .ok [] := rfl
@[simp] theorem ev_cons : eCons m ma Γ = (m Γ).bind fun x => (ma Γ).bind fun xs => .ok (x :: xs) := rfl
@[simp] theorem ev_tru {fl : Fl} {b : Bool} : tru ⟨fl, .dat (.bool b)⟩ = .ok b := rfl
@[simp] theorem ev_T : eT m Γ = (m Γ).bind tru := rfl
@[simp] theorem ev_and : eAnd c c' Γ = (c Γ).bind fun x => if x = true then c' Γ else .ok false := by
  show (c Γ).bind _ = _
  congr 1; funext x; cases x <;> rfl
@[simp] theorem ev_or : eOr c c' Γ = (c Γ).bind fun x => if x = true then .ok true else c' Γ := by
  show (c Γ).bind _ = _
  congr 1; funext x; cases x <;> rfl
@[simp] theorem ev_not : eNot c Γ = (c Γ).bind fun x => .ok (!x) := rfl
@[simp] theorem ev_eif : eIf c m m' Γ = (c Γ).bind fun x => if x = true then m Γ else m' Γ := by
  show (c Γ).bind _ = _
  congr 1; funext x; cases x <;> rfl
@[simp] theorem ev_andV : eAndV m m' Γ = (m Γ).bind fun x => (tru x).bind fun c => if c = true then m' Γ else ob1 false := by
  show (m Γ).bind _ = _
  congr 1; funext x; congr 1; funext y; cases y <;> rfl
@[simp] theorem ev_orV : eOrV m m' Γ = (m Γ).bind fun x => (tru x).bind fun c => if c = true then ob1 true else m' Γ := by
  show (m Γ).bind _ = _
  congr 1; funext x; congr 1; funext y; cases y <;> rfl
@[simp] theorem ev_notV : eNotV m Γ = (m Γ).bind fun x => (tru x).bind fun c => ob1 (!c) := rfl
@[simp] theorem ev_yes : eYes Γ = .ok true := rfl
@[simp] theorem ev_frz : eFrz m Γ = (m Γ).bind frzR := rfl
@[simp] theorem ev_fd {fl : Fl} : frzR ⟨fl, .dat d⟩ = od d := by cases fl <;> rfl
theorem ev_fo (h : toD s = some d) : frzR ⟨.own, s⟩ = od d := by
  show (match toD s with | some d => (Rz.ok (⟨.own, .dat d⟩ : Rv) : Rz Rv) | none => .no) = _
  rw [h]
@[simp] theorem ev_frL {xs : List Sl} : frzR ⟨.own, .node .L xs⟩ = (match toDs xs with | some ds => od (.list ds) | none => .no) := by
  show (match (toDs xs).map PyData.list with | some d => (Rz.ok (⟨.own, .dat d⟩ : Rv) : Rz Rv) | none => .no) = _
  cases toDs xs <;> rfl
@[simp] theorem ev_frT {xs : List Sl} : frzR ⟨.own, .node .T xs⟩ = (match toDs xs with | some ds => od (.tuple ds) | none => .no) := by
  show (match (toDs xs).map PyData.tuple with | some d => (Rz.ok (⟨.own, .dat d⟩ : Rv) : Rz Rv) | none => .no) = _
  cases toDs xs <;> rfl
@[simp] theorem ev_tds0 : toDs [] = some [] := rfl
@[simp] theorem ev_tds1 {xs : List Sl} : toDs (.dat d :: xs) = (toDs xs).map (d :: ·) := by
  show (match toD (.dat d), toDs xs with | some d, some ds => some (d :: ds) | _, _ => none) = _
  cases toDs xs <;> rfl
@[simp] theorem ev_tdsm {g : α → PyData} {xs : List α} : toDs (xs.map fun x => Sl.dat (g x)) = some (xs.map g) := toDs_dat g xs
@[simp] theorem ev_tdsm' {ds : List PyData} : toDs (ds.map Sl.dat) = some ds := by
  have := toDs_dat id ds
  simpa using this
@[simp] theorem ev_frN {ds : List PyData} : frzR ⟨.own, newL ds⟩ = od (.list ds) := by
  unfold newL
  simp
@[simp] theorem ev_seqL : eSeq .L ma Γ = (ma Γ).bind fun rs => match mvs rs with
  | some ss => if ss.length ≤ most then .ok ⟨.own, .node .L ss⟩ else .no
  | none => .no := rfl
@[simp] theorem ev_seqT : eSeq .T ma Γ = (ma Γ).bind fun rs => match mvs rs with
  | some ss => if ss.length ≤ most then .ok ⟨.own, .node .T ss⟩ else .no
  | none => .no := rfl
@[simp] theorem ev_most : most = 1000000 := rfl
@[simp] theorem ev_mv0 : mvs [] = some [] := rfl
@[simp] theorem ev_mv1 {rs : List Rv} : mvs (⟨.own, s⟩ :: rs) = (mvs rs).map (s :: ·) := by
  simp only [mvs]
@[simp] theorem ev_fn {f : Fm} : eFn f ma Γ = (ma Γ).bind fun rs => (f (rs.map Rv.s)).bind fun r => .ok (out r) := rfl
@[simp] theorem ev_outd {fl : Fl} : out ⟨fl, .dat d⟩ = ⟨.own, .dat d⟩ := by cases fl <;> rfl
@[simp] theorem ev_outo : out ⟨.own, s⟩ = ⟨.own, s⟩ := by cases s <;> rfl
/-! statements -/
def nxt (z : Oz) (b : MrS) : Oz := match z with
  | .nx Γ' => b Γ'
  | z => z
theorem cg_nxt {z z' : Oz} (h : z = z') : nxt z b = nxt z' b := by rw [h]
@[simp] theorem ev_sseq : sSeq a b Γ = nxt (a Γ) b := rfl
@[simp] theorem ev_nx : nxt (.nx Γ) b = b Γ := rfl
@[simp] theorem ev_rt : nxt (.rt r Γ) b = .rt r Γ := rfl
@[simp] theorem ev_er {e : Str} : nxt (.er e Γ) b = .er e Γ := rfl
@[simp] theorem ev_nite {p : Prop} [Decidable p] {x y : Oz} : nxt (if p then x else y) b = if p then nxt x b else nxt y b := by split <;> rfl
@[simp] theorem ev_skip : sSkip Γ = .nx Γ := rfl
@[simp] theorem ev_asg {i : Nat} : sAsg i m Γ = asg1 i (m Γ) Γ := rfl
@[simp] theorem ev_asgo {i : Nat} : asg1 i (.ok ⟨.own, s⟩) Γ = .nx (Γ.set i (some ⟨.own, s⟩)) := rfl
@[simp] theorem ev_asgp {i : Nat} : asg1 i (.ok ⟨.par, s⟩) Γ = .nx (Γ.set i (some ⟨.par, s⟩)) := rfl
@[simp] theorem ev_asge {i : Nat} {e : Str} : asg1 i (.er e) Γ = .er e Γ := rfl
@[simp] theorem ev_ret : sRet m Γ = ret1 (m Γ) Γ := rfl
@[simp] theorem ev_reto : ret1 (.ok ⟨.own, s⟩) Γ = .rt ⟨.own, s⟩ Γ := rfl
@[simp] theorem ev_rete {e : Str} : ret1 (.er e) Γ = .er e Γ := rfl
@[simp] theorem ev_retite {p : Prop} [Decidable p] {x y : Rz Rv} : ret1 (if p then x else y) Γ = if p then ret1 x Γ else ret1 y Γ := by split <;> rfl
@[simp] theorem ev_asgite {i : Nat} {p : Prop} [Decidable p] {x y : Rz Rv} : asg1 i (if p then x else y) Γ = if p then asg1 i x Γ else asg1 i y Γ := by split <;> rfl
@[simp] theorem ev_exp : sExp m Γ = drop1 (m Γ) Γ := rfl
@[simp] theorem ev_dropo : drop1 (.ok r) Γ = .nx Γ := rfl
@[simp] theorem ev_drope {e : Str} : drop1 (.er e) Γ = .er e Γ := rfl
def cnd (x : Rz Bool) (a b : MrS) (Γ : Gm) : Oz := match x with
  | .ok true => a Γ
  | .ok false => b Γ
  | .er c => .er c Γ
  | .no => .no
theorem cg_cnd {z z' : Rz Bool} (h : z = z') : cnd z a b Γ = cnd z' a b Γ := by rw [h]
@[simp] theorem ev_if : sIf c a b Γ = cnd (c Γ) a b Γ := rfl
@[simp] theorem ev_cnd {x : Bool} : cnd (.ok x) a b Γ = if x = true then a Γ else b Γ := by cases x <;> rfl
@[simp] theorem ev_cnde {e : Str} : cnd (.er e) a b Γ = .er e Γ := rfl
@[simp] theorem ev_cite {p : Prop} [Decidable p] {x y : Rz Bool} : cnd (if p then x else y) a b Γ = if p then cnd x a b Γ else cnd y a b Γ := by split <;> rfl
@[simp] theorem ev_raise {e : Str} : sRaise e Γ = .er e Γ := rfl
@[simp] theorem ev_par {is : List Nat} : sPar is ma Γ = par1 is (ma Γ) Γ := rfl
@[simp] theorem ev_par1 {is : List Nat} {rs : List Rv} : par1 is (.ok rs) Γ = if nbor rs = true ∧ rs.length = is.length then .nx (asgR is rs Γ) else .no := rfl
@[simp] theorem ev_nb0 : nbor [] = true := rfl
@[simp] theorem ev_nb1 {rs : List Rv} : nbor (⟨.own, s⟩ :: rs) = nbor rs := rfl
@[simp] theorem ev_nb2 {rs : List Rv} : nbor (⟨.par, s⟩ :: rs) = nbor rs := rfl
@[simp] theorem ev_ar0 : asgR [] [] Γ = Γ := rfl
@[simp] theorem ev_ar1 {i : Nat} {is : List Nat} {rs : List Rv} : asgR (i :: is) (r :: rs) Γ = asgR is rs (Γ.set i (some r)) := rfl
@[simp] theorem ev_unp {is : List Nat} : sUnp is m Γ = unp1 is (m Γ) Γ := rfl
@[simp] theorem ev_unpd {is : List Nat} {fl : Fl} {ds : List PyData} : unp1 is (.ok ⟨fl, .dat (.tuple ds)⟩) Γ = if ds.length = is.length then .nx (asgR is (ds.map fun d => ⟨.own, .dat d⟩) Γ) else .no := by
  show (match (if ds.length = is.length then some (ds.map fun d => (⟨.own, .dat d⟩ : Rv)) else none) with | some rs => Oz.nx (asgR is rs Γ) | none => .no) = _
  split <;> simp_all
@[simp] theorem ev_asg0 : asgG [] [] Γ = Γ := rfl
@[simp] theorem ev_asg1 {i : Nat} {is : List Nat} {ds : List PyData} : asgG (i :: is) (d :: ds) Γ = asgG is ds (Γ.set i (some ⟨.own, .dat d⟩)) := rfl
@[simp] theorem ev_wp0 : wipeG Γ [] = Γ := rfl
@[simp] theorem ev_wp1 {i : Nat} {is : List Nat} : wipeG Γ (i :: is) = (wipeG Γ is).set i none := rfl
/-! runs -/
theorem ev_run {np nN : Nat} {ss : List Sl} : runF np nN a ss = if ss.length = np then fin2 (a (initG nN ss)) else .no := rfl
@[simp] theorem ev_f2r : fin2 (.rt r Γ) = .ok r := rfl
@[simp] theorem ev_f2n : fin2 (.nx Γ) = od .none := rfl
@[simp] theorem ev_f2e {e : Str} : fin2 (.er e Γ) = .er e := rfl
@[simp] theorem ev_f2ite {p : Prop} [Decidable p] {x y : Oz} : fin2 (if p then x else y) = if p then fin2 x else fin2 y := by split <;> rfl
/-! ints -/
variable {x y : Int}
@[simp] theorem ev_add : pAdd [di x, di y] = some (di (x + y)) := rfl
@[simp] theorem ev_sub : pSub [di x, di y] = some (di (x - y)) := rfl
@[simp] theorem ev_neg : pNeg [di x] = some (di (-x)) := rfl
@[simp] theorem ev_lt : pLt [di x, di y] = some (db (decide (x < y))) := rfl
@[simp] theorem ev_le : pLe [di x, di y] = some (db (decide (x ≤ y))) := rfl
@[simp] theorem ev_gt : pGt [di x, di y] = some (db (decide (y < x))) := rfl
@[simp] theorem ev_ge : pGe [di x, di y] = some (db (decide (y ≤ x))) := rfl
@[simp] theorem ev_eqi : pEq [di x, di y] = some (db (decide (x = y))) := rfl
@[simp] theorem ev_nei : pNe [di x, di y] = some (db (!decide (x = y))) := rfl
def isNd : PyData → Bool
  | .none => true
  | _ => false
@[simp] theorem ev_isNn : isNd .none = true := rfl
@[simp] theorem ev_isNi : isNd (.int x) = false := rfl
@[simp] theorem ev_isN : pIsN [.dat d, .dat .none] = some (db (isNd d)) := by cases d <;> rfl
@[simp] theorem ev_notN : pNotN [.dat d, .dat .none] = some (db (!isNd d)) := by cases d <;> rfl
end
end Pf

/-! Pf22: more of the evaluation by simp: joins, indexes, comprehensions. -/
namespace Pf
open PySem
section
variable {α β : Type} {Γ Γ' : Gm} {m m' m2 m3 : Mr} {ma : MrA} {c c' : MrT} {a b : MrS} {r : Rv} {s : Sl} {d : PyData} {p : Prop} [Decidable p]
theorem run_eq {np nN : Nat} {ss : List Sl} {z : Rz Rv} (h : fin2 (a (initG nN ss)) = z) (hl : ss.length = np := by rfl) : runF np nN a ss = z := by
  rw [ev_run, if_pos hl, h]
@[simp] theorem ev_initG {nN : Nat} {ss : List Sl} : initG nN ss = ss.map (fun s => some (parR s)) ++ List.replicate (nN - ss.length) none := rfl
@[simp] theorem ev_parR : parR (.dat d) = ⟨.own, .dat d⟩ := rfl
@[simp] theorem ev_parN {k : Nk} {xs : List Sl} : parR (.node k xs) = ⟨.par, .node k xs⟩ := rfl
@[simp] theorem ev_parS {ns : List Int} : parR (scr ns) = ⟨.par, scr ns⟩ := rfl
@[simp] theorem jn_and {y : Bool} : (if p then Rz.ok y else Rz.ok false) = Rz.ok (decide p && y) := by by_cases h : p <;> simp [h]
@[simp] theorem jn_or {y : Bool} : (if p then Rz.ok true else Rz.ok y) = Rz.ok (decide p || y) := by by_cases h : p <;> simp [h]
@[simp] theorem jn_andV {y : Bool} : (if p then Rz.ok (⟨.own, .dat (.bool y)⟩ : Rv) else Rz.ok ⟨.own, .dat (.bool false)⟩) = ob1 (decide p && y) := by by_cases h : p <;> simp [h]
@[simp] theorem jn_orV {y : Bool} : (if p then Rz.ok (⟨.own, .dat (.bool true)⟩ : Rv) else Rz.ok ⟨.own, .dat (.bool y)⟩) = ob1 (decide p || y) := by by_cases h : p <;> simp [h]
theorem jn_int {x y : Int} : (if p then Rz.ok (⟨.own, .dat (.int x)⟩ : Rv) else Rz.ok ⟨.own, .dat (.int y)⟩) = oi (if p then x else y) := by by_cases h : p <;> simp [h]
@[simp] theorem ev_chain {f g : List Sl → Option Sl} : eChain f g m m' m2 Γ = (m Γ).bind fun x => (m' Γ).bind fun y => (fin (f [x.s, y.s])).bind fun z => (tru z).bind fun k => if k = true then (m2 Γ).bind fun w => fin (g [y.s, w.s]) else ob1 false := by
  show (m Γ).bind _ = _
  congr 1; funext x; congr 1; funext y; congr 1; funext z; congr 1; funext k; cases k <;> rfl
@[simp] theorem ev_chain3 {f g h : List Sl → Option Sl} : eChain3 f g h m m' m2 m3 Γ = (m Γ).bind fun x => (m' Γ).bind fun y => (fin (f [x.s, y.s])).bind fun z => (tru z).bind fun k => if k = true then (m2 Γ).bind fun w => (fin (g [y.s, w.s])).bind fun z2 => (tru z2).bind fun k2 => if k2 = true then (m3 Γ).bind fun u => fin (h [w.s, u.s]) else ob1 false else ob1 false := by
  show (m Γ).bind _ = _
  congr 1; funext x; congr 1; funext y; congr 1; funext z; congr 1; funext k
  cases k
  · rfl
  · show (m2 Γ).bind _ = (m2 Γ).bind _
    congr 1; funext w; congr 1; funext z2; congr 1; funext k2; cases k2 <;> rfl
@[simp] theorem ev_inR : eInR m ma Γ = (m Γ).bind fun x => (ma Γ).bind fun rs => inR1 x rs := rfl
@[simp] theorem ev_inR1 {x y z : Int} {f1 f2 f3 : Fl} : inR1 ⟨f1, di x⟩ [⟨f2, di y⟩, ⟨f3, di z⟩] = ob1 (decide (y ≤ x) && decide (x < z)) := by
  show ob1 (decide (y ≤ x ∧ x < z)) = _
  rw [Bool.decide_and]
/-! indexes: a tuple's item by a written number -/
@[simp] theorem ev_ixT {ds : List PyData} {k : Int} : pIx [.dat (.tuple ds), di k] = (L2.atI ds k).map Sl.dat := rfl
@[simp] theorem ev_ixL {ds : List PyData} {k : Int} : pIx [.dat (.list ds), di k] = (L2.atI ds k).map Sl.dat := rfl
@[simp] theorem ev_ixp0 {q : Int × Int} : pIx [dp q, di 0] = some (di q.1) := rfl
@[simp] theorem ev_ixp1 {q : Int × Int} : pIx [dp q, di 1] = some (di q.2) := rfl
/-! comprehensions -/
def csel (x : Rz Bool) (y : Rz Rv) : Rz (Option Sl) := match x with
  | .ok true => (match y with
    | .ok ⟨.own, s⟩ => .ok (some s)
    | _ => .no)
  | .ok false => .ok none
  | _ => .no
def cstep (un : PyData → Option (List PyData)) (is : List Nat) (mt : MrT) (me : Mr) (Γ : Gm) (d : PyData) : Rz (Option Sl) := match un d with
  | none => .no
  | some es => csel (mt (asgG is es Γ)) (me (asgG is es Γ))
def coll : List (Rz (Option Sl)) → Rz (List Sl)
  | [] => .ok []
  | .ok (some s) :: r => (coll r).bind fun ss => .ok (s :: ss)
  | .ok none :: r => coll r
  | _ :: _ => .no
theorem cgo_coll {un : PyData → Option (List PyData)} {is : List Nat} {mt : MrT} {me : Mr} : ∀ ds : List PyData, cgo un is mt me Γ ds = coll (ds.map (cstep un is mt me Γ))
  | [] => rfl
  | d :: ds => by
    rw [List.map_cons, cgo, cstep, cgo_coll ds]
    cases un d with
    | none => rfl
    | some es =>
      dsimp only
      cases mt (asgG is es Γ) with
      | er e => rfl
      | no => rfl
      | ok x => cases x with
        | false => rfl
        | true =>
          cases me (asgG is es Γ) with
          | er e => rfl
          | no => rfl
          | ok r =>
            obtain ⟨fl, s⟩ := r
            cases fl <;> rfl
def cfin (z : Rz (List Sl)) : Rz Rv := match z with
  | .ok ss => if ss.length ≤ most then .ok ⟨.own, .node .L ss⟩ else .no
  | _ => .no
@[simp] theorem ev_comp {mi : MrI} {un : PyData → Option (List PyData)} {is vs : List Nat} {mt : MrT} {me : Mr} : eComp mi un is mt me vs Γ = (mi Γ).bind fun bd => cfin (coll (bd.2.map (cstep un is mt me (wipeG Γ vs)))) := by
  show (mi Γ).bind _ = _
  congr 1; funext bd
  rw [cgo_coll]
  rfl
@[simp] theorem ev_cfin {f : α → Sl} {xs : List α} (h : xs.length ≤ 1000000) : cfin (.ok (xs.map f)) = .ok ⟨.own, .node .L (xs.map f)⟩ := by
  show (if (xs.map f).length ≤ most then _ else _) = _
  rw [if_pos (by rw [List.length_map]; exact h)]
@[simp] theorem ev_cfinF {f : α → Sl} {q : α → Bool} {xs : List α} (h : xs.length ≤ 1000000) : cfin (.ok ((xs.filter q).map f)) = .ok ⟨.own, .node .L ((xs.filter q).map f)⟩ :=
  ev_cfin (Nat.le_trans (List.length_filter_le _ _) h)
@[simp] theorem ev_coll {f : α → Sl} {xs : List α} : coll (xs.map fun x => Rz.ok (some (f x))) = .ok (xs.map f) := by
  induction xs with
  | nil => rfl
  | cons x xs ih =>
    rw [List.map_cons, coll, ih]
    rfl
@[simp] theorem ev_collF {f : α → Sl} {q : α → Bool} {xs : List α} : coll (xs.map fun x => Rz.ok (if q x = true then some (f x) else none)) = .ok ((xs.filter q).map f) := by
  induction xs with
  | nil => rfl
  | cons x xs ih =>
    rw [List.map_cons]
    cases h : q x with
    | true =>
      rw [if_pos rfl, coll, ih, List.filter_cons_of_pos h]
      rfl
    | false =>
      rw [if_neg (by simp), coll, ih, List.filter_cons_of_neg (by simp [h])]
@[simp] theorem ev_csel {x : Bool} : csel (.ok x) (.ok ⟨.own, s⟩) = .ok (if x = true then some s else none) := by cases x <;> rfl
@[simp] theorem ev_cself {y : Rz Rv} : csel (.ok false) y = .ok none := rfl
@[simp] theorem ev_cstepN {is : List Nat} {mt : MrT} {me : Mr} : cstep unN is mt me Γ d = csel (mt (asgG is [d] Γ)) (me (asgG is [d] Γ)) := rfl
@[simp] theorem ev_cstepT {n : Nat} {is : List Nat} {mt : MrT} {me : Mr} {ds : List PyData} : cstep (unT n) is mt me Γ (.tuple ds) = if ds.length = n then csel (mt (asgG is ds Γ)) (me (asgG is ds Γ)) else .no := by
  unfold cstep unT
  dsimp only
  split
  next h => split at h <;> simp_all
  next h => split at h <;> simp_all
@[simp] theorem ev_cstepP {is : List Nat} {mt : MrT} {me : Mr} {q : Int × Int} : cstep (unT 2) is mt me Γ (prD q) = csel (mt (asgG is [.int q.1, .int q.2] Γ)) (me (asgG is [.int q.1, .int q.2] Γ)) := rfl
/-! what is walked -/
def rgI (n : Int) : List Int := (List.range n.toNat).map fun (i : Nat) => (i : Int)
theorem rg_map (n : Int) : rngD 0 n.toNat = (rgI n).map .int := by
  unfold rngD rgI
  rw [List.map_map]
  refine List.map_congr_left fun i _ => ?_
  show PyData.int (0 + (i : Int)) = .int (i : Int)
  rw [Int.zero_add]
@[simp] theorem rg_len (n : Int) : (rgI n).length = n.toNat := by
  unfold rgI
  rw [List.length_map, List.length_range]
@[simp] theorem ev_iL : iL m Γ = (m Γ).bind itsL := rfl
@[simp] theorem ev_itsL {fl : Fl} {ds : List PyData} : itsL ⟨fl, .dat (.list ds)⟩ = .ok (true, ds) := rfl
@[simp] theorem ev_iT : iT m Γ = (m Γ).bind itsT := rfl
@[simp] theorem ev_itsT {fl : Fl} {ds : List PyData} : itsT ⟨fl, .dat (.tuple ds)⟩ = .ok (true, ds) := rfl
@[simp] theorem ev_iR1 : iR1 ma Γ = (ma Γ).bind oneI := rfl
@[simp] theorem ev_oneI {fl : Fl} {n : Int} (h : -4611686018427387904 ≤ n ∧ n < 4611686018427387904) : oneI [⟨fl, di n⟩] = .ok (true, (rgI n).map .int) := by
  show (if i62 n = true then Rz.ok (true, rngD 0 n.toNat) else .no) = _
  have e2 : i62 n = true := decide_eq_true h
  rw [if_pos e2, rg_map]
theorem enum_map {enc : α → PyData} : ∀ (xs : List α) (k : Nat), enumD k (xs.map enc) = (xs.zipIdx k).map fun q => PyData.tuple [.int (q.2 : Int), enc q.1]
  | [], _ => rfl
  | x :: xs, k => by
    show PyData.tuple [.int (k : Int), enc x] :: enumD (k + 1) (xs.map enc) = _
    rw [enum_map xs (k + 1)]
    rfl
@[simp] theorem ev_iEn : iEn ma Γ = (ma Γ).bind oneL := rfl
@[simp] theorem ev_oneL {fl : Fl} {ds : List PyData} : oneL [⟨fl, .dat (.list ds)⟩] = .ok (true, enumD 0 ds) := rfl
@[simp] theorem ev_enumD {enc : α → PyData} {xs : List α} : enumD 0 (xs.map enc) = xs.zipIdx.map fun q => PyData.tuple [.int (q.2 : Int), enc q.1] := enum_map xs 0
/-! lists -/
@[simp] theorem ev_len {ds : List PyData} : pLen [.dat (.list ds)] = some (di ds.length) := rfl
@[simp] theorem ev_lenT {ds : List PyData} : pLen [.dat (.tuple ds)] = some (di ds.length) := rfl
@[simp] theorem ev_bools {q : α → Bool} {xs : List α} : boolsOf (xs.map fun x => PyData.bool (q x)) = some (xs.map q) := by
  induction xs with
  | nil => rfl
  | cons x xs ih =>
    show (boolsOf (xs.map fun x => PyData.bool (q x))).map (q x :: ·) = _
    rw [ih]
    rfl
@[simp] theorem ev_ints {q : α → Int} {xs : List α} : intsOf (xs.map fun x => PyData.int (q x)) = some (xs.map q) := by
  induction xs with
  | nil => rfl
  | cons x xs ih =>
    show (intsOf (xs.map fun x => PyData.int (q x))).map (q x :: ·) = _
    rw [ih]
    rfl
@[simp] theorem ev_any {ds : List PyData} : pAny [.dat (.list ds)] = (boolsOf ds).map fun bs => db (bs.any id) := rfl
@[simp] theorem ev_all {ds : List PyData} : pAll [.dat (.list ds)] = (boolsOf ds).map fun bs => db (bs.all id) := rfl
@[simp] theorem ev_cut {lo hi : MrO} : eCut m lo hi Γ = (m Γ).bind fun r => (lo Γ).bind fun l => (hi Γ).bind fun h => match itsS r.s with
  | some ds => .ok ⟨.own, newL (cutD ds l h)⟩
  | none => .no := rfl
@[simp] theorem ev_noP : eNoP Γ = .ok none := rfl
def prt (r : Rv) : Rz (Option Int) := match r.s with
  | .dat (.int i) => .ok (some i)
  | _ => .no
@[simp] theorem ev_P : eP m Γ = (m Γ).bind prt := rfl
@[simp] theorem ev_prt {fl : Fl} {i : Int} : prt ⟨fl, di i⟩ = .ok (some i) := rfl
/-- a slice of typed things -/
def cutX (xs : List α) (lo hi : Option Int) : List α := (xs.drop (HT.sIx xs.length 0 lo)).take (HT.sIx xs.length xs.length hi - HT.sIx xs.length 0 lo)
@[simp] theorem ev_cutD {enc : α → PyData} {xs : List α} {lo hi : Option Int} : cutD (xs.map enc) lo hi = (cutX xs lo hi).map enc := by
  unfold cutD cutX
  rw [List.length_map, ← List.map_drop, ← List.map_take]
theorem cutX_to {xs : List α} {k : Int} (h : 0 ≤ k) : cutX xs none (some k) = xs.take k.toNat := by
  unfold cutX
  show (xs.drop 0).take ((if k < 0 then (k + (xs.length : Int)).toNat else min k.toNat xs.length) - 0) = _
  rw [if_neg (by omega), List.drop_zero, Nat.sub_zero, List.take_eq_take_iff]
  omega
theorem cutX_from {xs : List α} {k : Int} (h : 0 ≤ k) : cutX xs (some k) none = xs.drop k.toNat := by
  unfold cutX
  show (xs.drop (if k < 0 then (k + (xs.length : Int)).toNat else min k.toNat xs.length)).take (xs.length - (if k < 0 then (k + (xs.length : Int)).toNat else min k.toNat xs.length)) = _
  rw [if_neg (by omega)]
  by_cases hk : k.toNat ≤ xs.length
  · rw [Nat.min_eq_left hk, List.take_of_length_le (by rw [List.length_drop]; omega)]
  · rw [Nat.min_eq_right (by omega), List.drop_length, List.drop_eq_nil_of_le (by omega), List.take_nil]
@[simp] theorem ev_rev : eRev m Γ = (m Γ).bind fun r => match itsS r.s with
  | some ds => .ok ⟨.own, newL ds.reverse⟩
  | none => .no := rfl
@[simp] theorem ev_its {ds : List PyData} : itsS (.dat (.list ds)) = some ds := rfl
@[simp] theorem ev_addL {ds es : List PyData} (h : ds.length + es.length ≤ 1000000) : pAdd [.dat (.list ds), .dat (.list es)] = some (newL (ds ++ es)) := by
  show (if ds.length + es.length ≤ most then _ else _) = _
  exact if_pos h
theorem mul_int {a b : Int} (h : (-(2 ^ 64) < a ∧ a < 2 ^ 64) ∨ (-(2 ^ 64) < b ∧ b < 2 ^ 64)) : pMul [di a, di b] = some (di (a * b)) := by
  show (dMulI a b).map Sl.dat = _
  unfold dMulI
  rw [if_pos h]
  rfl
@[simp] theorem ev_mul {a b : Int} (h : (-18446744073709551616 < a ∧ a < 18446744073709551616) ∨ (-18446744073709551616 < b ∧ b < 18446744073709551616)) : pMul [di a, di b] = some (di (a * b)) := mul_int h
@[simp] theorem ev_mod {a b : Int} (h : 0 < b) : pMod [di a, di b] = some (di (a % b)) := by
  show (dMod a b).map Sl.dat = _
  unfold dMod
  rw [if_pos h]
  rfl
@[simp] theorem ev_div {a b : Int} (h : 0 < b ∧ b < 1073741824) : pDiv [di a, di b] = some (di (a / b)) := by
  show (dDiv a b).map Sl.dat = _
  unfold dDiv
  rw [if_pos h]
  rfl
@[simp] theorem ev_max2 {a b : Int} : pMax [di a, di b] = some (di (max a b)) := by
  show some (di (if b > a then b else a)) = _
  congr 2
  split <;> congr 1 <;> omega
@[simp] theorem ev_min2 {a b : Int} : pMin [di a, di b] = some (di (min a b)) := by
  show some (di (if b < a then b else a)) = _
  congr 2
  split <;> congr 1 <;> omega
end
end Pf

/-! Pf23: loops by an invariant, stores into lists. -/
namespace Pf
open PySem
section
variable {α β : Type} {Γ Γ' : Gm} {m m' m2 m3 : Mr} {ma : MrA} {c c' : MrT} {a b : MrS} {r : Rv} {s : Sl} {d : PyData} {p : Prop} [Decidable p]
def fdo (z : Rz (Bool × List PyData)) (un : PyData → Option (List PyData)) (is : List Nat) (body : MrS) (Γ : Gm) : Oz := match z with
  | .ok (true, ds) => floop un is body ds Γ
  | .ok (false, _) => .no
  | .er c => .er c Γ
  | .no => .no
@[simp] theorem ev_for {mi : MrI} {un : PyData → Option (List PyData)} {is : List Nat} : sFor mi un is a Γ = fdo (mi Γ) un is a Γ := rfl
theorem cg_fdo {z z' : Rz (Bool × List PyData)} {un : PyData → Option (List PyData)} {is : List Nat} (h : z = z') : fdo z un is a Γ = fdo z' un is a Γ := by rw [h]
@[simp] theorem ev_fdo {un : PyData → Option (List PyData)} {is : List Nat} {ds : List PyData} : fdo (.ok (true, ds)) un is a Γ = floop un is a ds Γ := rfl
/-- a loop that goes on to its end -/
theorem floop_I {un : PyData → Option (List PyData)} {is : List Nat} {body : MrS} (enc : α → PyData) (es : α → List PyData) (hu : ∀ x, un (enc x) = some (es x)) (I : List α → Gm → Prop) (hs : ∀ x xs Γ, I (x :: xs) Γ → ∃ Γ', body (asgG is (es x) Γ) = .nx Γ' ∧ I xs Γ') : ∀ (xs : List α) (Γ : Gm), I xs Γ → ∃ Γ', floop un is body (xs.map enc) Γ = .nx Γ' ∧ I [] Γ'
  | [], Γ, h => ⟨Γ, rfl, h⟩
  | x :: xs, Γ, h => by
    obtain ⟨Γ1, e1, h1⟩ := hs x xs Γ h
    obtain ⟨Γ2, e2, h2⟩ := floop_I enc es hu I hs xs Γ1 h1
    exact ⟨Γ2, (floop_nx (hu x) e1).trans e2, h2⟩
def appG (o : Option (Option Rv)) (z : Rz Rv) (i : Nat) (Γ : Gm) : Oz := match o with
  | some (some ⟨.own, .node .L xs⟩) => (match z with
    | .ok ⟨.own, s⟩ => if xs.length < most then .nx (Γ.set i (some ⟨.own, .node .L (xs ++ [s])⟩)) else .no
    | .er c => .er c Γ
    | _ => .no)
  | _ => .no
@[simp] theorem ev_app {i : Nat} : sApp i m Γ = appG (gt Γ i) (m Γ) i Γ := by
  rw [← gt_eq]
  rfl
@[simp] theorem ev_appG {xs : List Sl} {i : Nat} (h : xs.length < 1000000) : appG (some (some ⟨.own, .node .L xs⟩)) (.ok ⟨.own, s⟩) i Γ = .nx (Γ.set i (some ⟨.own, .node .L (xs ++ [s])⟩)) := by
  show (if xs.length < most then _ else _) = _
  exact if_pos h
def insG (o : Option (Option Rv)) (z : Rz (List Rv)) (i : Nat) (Γ : Gm) : Oz := match o with
  | some (some ⟨.own, .node .L xs⟩) => (match z with
    | .ok [⟨_, .dat (.int k)⟩, ⟨.own, s⟩] => if xs.length < most ∧ 0 ≤ k ∧ k < 2 ^ 63 then .nx (Γ.set i (some ⟨.own, .node .L (xs.take k.toNat ++ [s] ++ xs.drop k.toNat)⟩)) else .no
    | .er c => .er c Γ
    | _ => .no)
  | _ => .no
@[simp] theorem ev_ins {i : Nat} : sIns i ma Γ = insG (gt Γ i) (ma Γ) i Γ := by
  rw [← gt_eq]
  rfl
@[simp] theorem ev_insG {xs : List Sl} {i : Nat} {k : Int} {fl : Fl} (h : xs.length < 1000000) (h2 : 0 ≤ k ∧ k < 9223372036854775808) : insG (some (some ⟨.own, .node .L xs⟩)) (.ok [⟨fl, di k⟩, ⟨.own, s⟩]) i Γ = .nx (Γ.set i (some ⟨.own, .node .L (xs.take k.toNat ++ [s] ++ xs.drop k.toNat)⟩)) := by
  show (if xs.length < most ∧ 0 ≤ k ∧ k < 2 ^ 63 then _ else _) = _
  exact if_pos ⟨h, h2⟩
theorem ev_retV {i : Nat} : sRetV i Γ = match gt Γ i with
  | some (some r) => .rt r (Γ.set i none)
  | _ => .no := by
  rw [← gt_eq]
  rfl
end
end Pf

/-! Pf24: equality, membership, sums of typed lists; folds back to typed lists. -/
namespace Pf
open PySem
section
variable {α β : Type}
theorem lay_prs : ∀ ps : List (Int × Int), PyData.canLayAll0 (ps.map prD) = true
  | [] => rfl
  | p :: ps => by
    show (PyData.canLay0 (prD p) && PyData.canLayAll0 (ps.map prD)) = true
    rw [lay_prs ps]
    rfl
theorem shp_prs (ps : List (Int × Int)) : shp (plD ps) = true := by
  show (PyData.canLayAll0 (ps.map prD) && decide (PyData.depthAll (ps.map prD) + 1 ≤ 64)) = true
  have h := depth_pr ps
  rw [lay_prs, decide_eq_true (by omega)]
  rfl
theorem lay_ints : ∀ ns : List Int, PyData.canLayAll0 (ns.map .int) = true ∧ PyData.depthAll (ns.map .int) = 0
  | [] => ⟨rfl, rfl⟩
  | n :: ns => by
    obtain ⟨h1, h2⟩ := lay_ints ns
    constructor
    · show (PyData.canLay0 (.int n) && PyData.canLayAll0 (ns.map .int)) = true
      rw [h1]
      rfl
    · show max (PyData.depth (.int n)) (PyData.depthAll (ns.map .int)) = 0
      rw [h2]
      rfl
theorem shp_ints (ns : List Int) : shp (.list (ns.map .int)) = true := by
  show (PyData.canLayAll0 (ns.map .int) && decide (PyData.depthAll (ns.map .int) + 1 ≤ 64)) = true
  rw [(lay_ints ns).1, (lay_ints ns).2]
  rfl
theorem eqv_pr (p q : Int × Int) : PyData.eqv (prD p) (prD q) = decide (p = q) := by
  obtain ⟨a, b⟩ := p
  obtain ⟨c, d⟩ := q
  show ((a == c) && ((b == d) && true)) = _
  by_cases h1 : a = c <;> by_cases h2 : b = d <;> simp [h1, h2]
theorem eqv_prs : ∀ (ps qs : List (Int × Int)), PyData.eqvAll (ps.map prD) (qs.map prD) = decide (ps = qs)
  | [], [] => rfl
  | [], _ :: _ => rfl
  | _ :: _, [] => rfl
  | p :: ps, q :: qs => by
    show (PyData.eqv (prD p) (prD q) && PyData.eqvAll (ps.map prD) (qs.map prD)) = _
    rw [eqv_pr, eqv_prs ps qs]
    by_cases h1 : p = q <;> by_cases h2 : ps = qs <;> simp [h1, h2]
theorem eqv_ints : ∀ (ps qs : List Int), PyData.eqvAll (ps.map .int) (qs.map .int) = decide (ps = qs)
  | [], [] => rfl
  | [], _ :: _ => rfl
  | _ :: _, [] => rfl
  | p :: ps, q :: qs => by
    show ((p == q) && PyData.eqvAll (ps.map .int) (qs.map .int)) = _
    rw [eqv_ints ps qs]
    by_cases h1 : p = q <;> by_cases h2 : ps = qs <;> simp [h1, h2]
@[simp] theorem ev_eqP (ps qs : List (Int × Int)) : pEq [dps ps, dps qs] = some (db (decide (ps = qs))) := by
  show (if shp (plD ps) = true ∧ shp (plD qs) = true then some (Sl.dat (.bool (PyData.eqvAll (ps.map prD) (qs.map prD)))) else none) = _
  rw [if_pos ⟨shp_prs ps, shp_prs qs⟩, eqv_prs]
@[simp] theorem ev_neP (ps qs : List (Int × Int)) : pNe [dps ps, dps qs] = some (db (!decide (ps = qs))) := by
  show (if shp (plD ps) = true ∧ shp (plD qs) = true then some (Sl.dat (.bool (!PyData.eqvAll (ps.map prD) (qs.map prD)))) else none) = _
  rw [if_pos ⟨shp_prs ps, shp_prs qs⟩, eqv_prs]
@[simp] theorem ev_eqI (xs ys : List Int) : pEq [.dat (.list (xs.map .int)), .dat (.list (ys.map .int))] = some (db (decide (xs = ys))) := by
  show (if shp (.list (xs.map .int)) = true ∧ shp (.list (ys.map .int)) = true then some (Sl.dat (.bool (PyData.eqvAll (xs.map .int) (ys.map .int)))) else none) = _
  rw [if_pos ⟨shp_ints xs, shp_ints ys⟩, eqv_ints]
@[simp] theorem ev_neI (xs ys : List Int) : pNe [.dat (.list (xs.map .int)), .dat (.list (ys.map .int))] = some (db (!decide (xs = ys))) := by
  show (if shp (.list (xs.map .int)) = true ∧ shp (.list (ys.map .int)) = true then some (Sl.dat (.bool (!PyData.eqvAll (xs.map .int) (ys.map .int)))) else none) = _
  rw [if_pos ⟨shp_ints xs, shp_ints ys⟩, eqv_ints]
@[simp] theorem ev_neB (a b : Bool) : pNe [.dat (.list [.bool a]), .dat (.list [.bool b])] = some (db (!decide (a = b))) := by
  cases a <;> cases b <;> rfl
theorem any_eqv (x : Int) : ∀ xs : List Int, ((xs.map PyData.int).any fun z => PyData.eqv z (.int x)) = decide (x ∈ xs)
  | [] => rfl
  | y :: ys => by
    rw [List.map_cons, List.any_cons, any_eqv x ys]
    show ((y == x) || decide (x ∈ ys)) = _
    by_cases h : y = x
    · subst h; simp
    · have : x ≠ y := fun e => h e.symm
      by_cases h2 : x ∈ ys <;> simp [h, h2, this]
@[simp] theorem ev_inI (x : Int) (xs : List Int) : pIn [di x, .dat (.list (xs.map .int))] = some (db (decide (x ∈ xs))) := by
  show ((if shp (.int x) = true ∧ shp (.list (xs.map .int)) = true then some ((xs.map PyData.int).any fun z => PyData.eqv z (.int x)) else none).map fun k => Sl.dat (.bool k)) = _
  rw [if_pos ⟨rfl, shp_ints xs⟩, any_eqv]
  rfl
@[simp] theorem ev_notInI (x : Int) (xs : List Int) : pNotIn [di x, .dat (.list (xs.map .int))] = some (db (!decide (x ∈ xs))) := by
  show ((if shp (.int x) = true ∧ shp (.list (xs.map .int)) = true then some ((xs.map PyData.int).any fun z => PyData.eqv z (.int x)) else none).map fun k => Sl.dat (.bool (!k))) = _
  rw [if_pos ⟨rfl, shp_ints xs⟩, any_eqv]
  rfl
@[simp] theorem ev_sumI {f : α → Int} {xs : List α} : pSum [.dat (.list (xs.map fun x => .int (f x)))] = some (di (xs.map f).sum) := by
  show ((intsOf (xs.map fun x => .int (f x))).map fun ns => Sl.dat (.int ns.sum)) = _
  rw [ev_ints]
  rfl
@[simp] theorem ev_sumI' {xs : List Int} : pSum [.dat (.list (xs.map .int))] = some (di xs.sum) := by
  have := ev_sumI (f := id) (xs := xs)
  rw [List.map_id] at this
  exact this
@[simp] theorem ev_itsT' {ds : List PyData} : itsS (.dat (.tuple ds)) = none := rfl
@[simp] theorem ev_notInP {x : Int} {q : Int × Int} : pNotIn [di x, dp q] = some (db (!(q.1 == x || (q.2 == x || false)))) := rfl
@[simp] theorem ev_inP {x : Int} {q : Int × Int} : pIn [di x, dp q] = some (db (q.1 == x || (q.2 == x || false))) := rfl
@[simp] theorem ev_collm {enc : α → PyData} {xs : List α} {un : PyData → Option (List PyData)} {is : List Nat} {mt : MrT} {me : Mr} {Γ : Gm} : coll ((xs.map enc).map (cstep un is mt me Γ)) = coll (xs.map fun x => cstep un is mt me Γ (enc x)) := by
  rw [List.map_map]
  rfl
/-! goes on, so that -/
def okNx (P : Gm → Prop) : Oz → Prop
  | .nx Γ => P Γ
  | _ => False
@[simp] theorem okNx_nx {P : Gm → Prop} {Γ : Gm} : okNx P (.nx Γ) = P Γ := rfl
theorem okNx_ex {P : Gm → Prop} {z : Oz} (h : okNx P z) : ∃ Γ', z = .nx Γ' ∧ P Γ' := by
  cases z with
  | nx Γ => exact ⟨Γ, rfl, h⟩
  | _ => exact h.elim
/-! folds -/
theorem fo_pr {a b : Int} : PyData.tuple [.int a, .int b] = prD (a, b) := rfl
theorem fo_app {enc : α → PyData} {xs ys : List α} : xs.map enc ++ ys.map enc = (xs ++ ys).map enc := List.map_append.symm
theorem fo_snoc {enc : α → PyData} {xs : List α} {y : α} : xs.map enc ++ [enc y] = (xs ++ [y]).map enc := by rw [List.map_append]; rfl
theorem fo_snoc2 {enc : α → PyData} {xs : List α} {y z : α} : xs.map enc ++ [enc y, enc z] = (xs ++ [y, z]).map enc := by rw [List.map_append]; rfl
end
end Pf

/-! Pf25: places within a slot's tree: reading them, changing what stands there. -/
namespace Pf
open PySem L2

def subT : Sl → List Nat → Option Sl
  | s, [] => some s
  | .node _ xs, j :: p => match xs[j]? with
    | some x => subT x p
    | none => none
  | .dat _, _ :: _ => none
def putT : Sl → List Nat → Sl → Sl
  | _, [], t => t
  | .node k xs, j :: p, t => match xs[j]? with
    | some x => .node k (xs.set j (putT x p t))
    | none => .node k xs
  | .dat d, _ :: _, _ => .dat d
/-- at the place p of v's tree stands v' -/
inductive At (K : PySem.W.Frag) (H : Hp) : V → Sl → List Nat → V → Sl → Prop
  | nil {v : V} {s : Sl} : At K H v s [] v s
  | cons {a : Addr} {o : HO} {k : Nk} {vs : List V} {xs : List Sl} {j : Nat} {w : V} {x : Sl} {p : List Nat} {v' : V} {s' : Sl} : H a = some o → Shape K k vs o → vs[j]? = some w → xs[j]? = some x → At K H w x p v' s' → At K H (.ref a) (.node k xs) (j :: p) v' s'
section
variable {K : PySem.W.Frag} {F H F' H' F1 H1 : Hp}
theorem At.sub {v v' : V} {s s' : Sl} {p : List Nat} (h : At K H v s p v' s') : subT s p = some s' := by
  induction h with
  | nil => unfold subT; rfl
  | cons h1 h2 h3 h4 _ ih =>
    unfold subT
    rw [h4]
    exact ih
theorem At.unsnoc {j : Nat} : ∀ {p : List Nat} {v w : V} {s x : Sl}, At K H v s (p ++ [j]) w x → ∃ a o k vs xs, At K H v s p (.ref a) (.node k xs) ∧ H a = some o ∧ Shape K k vs o ∧ vs[j]? = some w ∧ xs[j]? = some x
  | [], _, _, _, _, .cons h1 h2 h3 h4 .nil => ⟨_, _, _, _, _, .nil, h1, h2, h3, h4⟩
  | i :: p, _, _, _, _, .cons h1 h2 h3 h4 h => by
    obtain ⟨a, o, k, vs, xs, h5, h6⟩ := At.unsnoc h
    exact ⟨a, o, k, vs, xs, .cons h1 h2 h3 h4 h5, h6⟩
theorem At.same (e : Same H H') {v v' : V} {s s' : Sl} {p : List Nat} (h : At K H v s p v' s') : At K H' v s p v' s' := by
  induction h with
  | nil => exact .nil
  | cons h1 h2 h3 h4 _ ih => exact .cons (e _ _ h1) h2 h3 h4 ih
/-- one of several owned things, and another in its stead -/
theorem owAll_at : ∀ {vs : List V} {xs : List Sl} {fp : List Addr} {j : Nat} {x : Sl}, OwAll K F H vs xs fp → fp.Nodup → xs[j]? = some x →
    ∃ w fw, vs[j]? = some w ∧ Ow K F H w x fw ∧ fw.Nodup ∧ (∀ a ∈ fw, a ∈ fp) ∧
      ∀ F' H' y fy, Same F F' → (∀ a ∈ fp, a ∉ fw → ∀ o, H a = some o → H' a = some o) → Ow K F' H' w y fy → fy.Nodup → (∀ a ∈ fy, a ∈ fw ∨ a ∉ fp) →
        ∃ fr, OwAll K F' H' vs (xs.set j y) fr ∧ fr.Nodup ∧ ∀ a ∈ fr, a ∈ fy ∨ (a ∈ fp ∧ a ∉ fw)
  | _, _, _, j, x, .nil, _, e => by cases e
  | _, _, _, 0, x, .cons (v := v) (fp := f1) (fps := f2) h t, nd, e => by
    cases e
    obtain ⟨n1, n2, n3⟩ := List.nodup_append.mp nd
    refine ⟨v, f1, rfl, h, n1, fun a m => List.mem_append_left _ m, fun F' H' y fy sf fr oy ny sub => ?_⟩
    refine ⟨fy ++ f2, .cons oy (owAll_mono sf t fun a m o q => fr a (List.mem_append_right _ m) (fun m1 => n3 a m1 a m rfl) o q), ?_, fun a m => ?_⟩
    · refine List.nodup_append.mpr ⟨ny, n2, fun a m1 b m2 z => ?_⟩
      subst z
      rcases sub a m1 with z | z
      · exact n3 a z a m2 rfl
      · exact z (List.mem_append_right _ m2)
    · rcases List.mem_append.mp m with m | m
      · exact .inl m
      · exact .inr ⟨List.mem_append_right _ m, fun m1 => n3 a m1 a m rfl⟩
  | _, _, _, j + 1, x, .cons (v := v) (fp := f1) (fps := f2) h t, nd, e => by
    obtain ⟨n1, n2, n3⟩ := List.nodup_append.mp nd
    obtain ⟨w, fw, e1, ow, nw, sw, k⟩ := owAll_at t n2 (j := j) e
    refine ⟨w, fw, e1, ow, nw, fun a m => List.mem_append_right _ (sw a m), fun F' H' y fy sf fr oy ny sub => ?_⟩
    obtain ⟨fz, oz, nz, sz⟩ := k F' H' y fy sf (fun a m m2 o q => fr a (List.mem_append_right _ m) m2 o q) oy ny (fun a m => by
      rcases sub a m with z | z
      · exact .inl z
      · exact .inr fun m2 => z (List.mem_append_right _ m2))
    refine ⟨f1 ++ fz, .cons (ow_mono sf h fun a m o q => fr a (List.mem_append_left _ m) (fun m1 => n3 a m a (sw a m1) rfl) o q) oz, ?_, fun a m => ?_⟩
    · refine List.nodup_append.mpr ⟨n1, nz, fun a m1 b m2 z => ?_⟩
      subst z
      rcases sz a m2 with z | z
      · rcases sub a z with y1 | y1
        · exact n3 a m1 a (sw a y1) rfl
        · exact y1 (List.mem_append_left _ m1)
      · exact n3 a m1 a z.1 rfl
    · rcases List.mem_append.mp m with m | m
      · exact .inr ⟨List.mem_append_left _ m, fun m1 => n3 a m a (sw a m1) rfl⟩
      · rcases sz a m with z | z
        · exact .inl z
        · exact .inr ⟨List.mem_append_right _ z.1, z.2⟩
/-- a place of an owned tree, and another tree put there -/
theorem ow_focus : ∀ (p : List Nat) {v : V} {s s' : Sl} {fp : List Addr}, Ow K F H v s fp → fp.Nodup → subT s p = some s' →
    ∃ v' fp', At K H v s p v' s' ∧ Ow K F H v' s' fp' ∧ fp'.Nodup ∧ (∀ a ∈ fp', a ∈ fp) ∧
      ∀ F' H' t fq, Same F F' → (∀ a ∈ fp, a ∉ fp' → ∀ o, H a = some o → H' a = some o) → Ow K F' H' v' t fq → fq.Nodup → (∀ a ∈ fq, a ∈ fp' ∨ a ∉ fp) →
        ∃ fr, Ow K F' H' v (putT s p t) fr ∧ fr.Nodup ∧ ∀ a ∈ fr, a ∈ fq ∨ (a ∈ fp ∧ a ∉ fp')
  | [], v, s, s', fp, h, nd, e => by
    unfold subT at e
    cases e
    refine ⟨v, fp, .nil, h, nd, fun a m => m, fun F' H' t fq _ _ ot nt _ => ⟨fq, ?_, nt, fun a m => .inl m⟩⟩
    unfold putT
    exact ot
  | j :: p, v, .dat d, s', fp, h, nd, e => by
    unfold subT at e
    cases e
  | j :: p, _, .node k xs, s', _, .node (a := a) (o := o) (vs := vs) (fp := fp) ha sh t, nd, e => by
    unfold subT at e
    cases hx : xs[j]? with
    | none =>
      rw [hx] at e
      cases e
    | some x =>
      rw [hx] at e
      obtain ⟨na, nf⟩ := List.nodup_cons.mp nd
      obtain ⟨w, fw, e1, ow, nw, sw, kw⟩ := owAll_at t nf hx
      obtain ⟨v', fp', at_, o', n', s2, k2⟩ := ow_focus p ow nw e
      refine ⟨v', fp', .cons ha sh e1 hx at_, o', n', fun b m => List.mem_cons_of_mem _ (sw b (s2 b m)), fun F' H' u fq sf fr ou nu sub => ?_⟩
      have nafp : a ∉ fp' := fun m => na (sw a (s2 a m))
      obtain ⟨f3, o3, n3, s3⟩ := k2 F' H' u fq sf (fun b m m2 q hq => fr b (List.mem_cons_of_mem _ (sw b m)) m2 q hq) ou nu (fun b m => by
        rcases sub b m with z | z
        · exact .inl z
        · exact .inr fun m2 => z (List.mem_cons_of_mem _ (sw b m2)))
      obtain ⟨f4, o4, n4, s4⟩ := kw F' H' (putT x p u) f3 sf (fun b m m2 q hq => fr b (List.mem_cons_of_mem _ m) (fun m3 => m2 (s2 b m3)) q hq) o3 n3 (fun b m => by
        rcases s3 b m with z | z
        · rcases sub b z with y | y
          · exact .inl (s2 b y)
          · exact .inr fun m2 => y (List.mem_cons_of_mem _ m2)
        · exact .inl z.1)
      have e2 : putT (.node k xs) (j :: p) u = .node k (xs.set j (putT x p u)) := by
        show (match xs[j]? with | some x => Sl.node k (xs.set j (putT x p u)) | none => .node k xs) = _
        rw [hx]
      rw [e2]
      have inq : ∀ b ∈ f4, b ∈ fq ∨ (b ∈ fp ∧ b ∉ fp') := fun b m => by
        rcases s4 b m with z | z
        · rcases s3 b z with y | y
          · exact .inl y
          · exact .inr ⟨sw b y.1, y.2⟩
        · exact .inr ⟨z.1, fun m2 => z.2 (s2 b m2)⟩
      refine ⟨a :: f4, .node (fr a List.mem_cons_self nafp o ha) sh o4, List.nodup_cons.mpr ⟨fun m => ?_, n4⟩, fun b m => ?_⟩
      · rcases inq a m with z | z
        · rcases sub a z with y | y
          · exact nafp y
          · exact y List.mem_cons_self
        · exact na z.1
      · rcases List.mem_cons.mp m with rfl | m
        · exact .inr ⟨List.mem_cons_self, nafp⟩
        · rcases inq b m with z | z
          · exact .inl z
          · exact .inr ⟨List.mem_cons_of_mem _ z.1, z.2⟩
end
end Pf

/-! Pf26: a place of a slot's own tree is changed. -/
namespace Pf
open PySem L2
section
variable {K : PySem.W.Frag} {B : Bs} {E : XK} {F H F' H' : Hp} {σ : L2.St} {Γ : Gm}
/-- what may be done to the things fp of a heap F1, H1 -/
structure Chg (fp : List Addr) (F1 H1 F' H' : Hp) : Prop where
  ff : Same F1 F'
  fh : Same F' H'
  hh : ∀ a o, a ∉ fp → H1 a = some o → H' a = some o
  nw : ∀ a, a ∉ fp → H1 a ≠ none → F1 a = none → F' a = none
theorem EnvS.focus (h : EnvS K B F H σ Γ) {i : Nat} {p : List Nat} {s s' : Sl} (e : Γ[i]? = some (some ⟨.own, s⟩)) (hs : subT s p = some s') :
    ∃ v v' fp', σ[i]? = some (some v) ∧ At K H v s p v' s' ∧ Ow K F H v' s' fp' ∧ fp'.Nodup ∧ (∀ a ∈ fp', F a = none) ∧ (∀ a ∈ fp', ¬ B.S a) ∧
      ∀ F1 H1 F' H' t fq R, Step F H F1 H1 → Chg fp' F1 H1 F' H' → Ow K F' H' v' t fq → (fq ++ R).Nodup → (∀ a ∈ fq ++ R, F' a = none ∧ (H a = none ∨ a ∈ fp')) →
        EnvR K B F' H' σ (Γ.set i (some ⟨.own, putT s p t⟩)) R ∧ FitB B F' R := by
  obtain ⟨f, h1, h2⟩ := h.ex
  obtain ⟨v, hv, ow, nd, ft⟩ := h1 i _ e
  have ow : Ow K F H v s (f i) := ow
  obtain ⟨v', fp', at_, ow', nd', sub, k⟩ := ow_focus p ow nd hs
  have inH : ∀ a ∈ fp', H a ≠ none := fun a m => ow_dom ow' a m
  have nS : ∀ a ∈ f i, ¬ B.S a := fun a m s => by
    obtain ⟨s1, s2⟩ := h.st.hS a s
    rcases (ft a m).2 with z | z
    · exact s1 z
    · exact s2 z
  refine ⟨v, v', fp', hv, at_, ow', nd', fun a m => (ft a (sub a m)).1, fun a m => nS a (sub a m), fun F1 H1 F' H' t fq R st ch ot ndq fitq => ?_⟩
  obtain ⟨n1, n2, n3⟩ := List.nodup_append.mp ndq
  have stB := h.st.step st
  have up : ∀ a o, H a = some o → H1 a = some o := fun a o q => st.hh a o q
  have notIn : ∀ a, a ∈ f i → a ∉ fp' → a ∉ fq ++ R := fun a m m2 m3 => by
    rcases (fitq a m3).2 with z | z
    · exact ow_dom ow a m z
    · exact m2 z
  obtain ⟨fr, ofr, nfr, sfr⟩ := k F' H' t fq (st.ff.trans ch.ff) (fun a m m2 o q => ch.hh a o m2 (up a o q)) ot n1 (fun a m => by
    by_cases m2 : a ∈ fp'
    · exact .inl m2
    · exact .inr fun m3 => notIn a m3 m2 (List.mem_append_left _ m))
  have fitB : ∀ a, a ∈ fq ++ R → (B.H a = none ∨ B.M a) := fun a m => by
    rcases (fitq a m).2 with z | z
    · by_cases hm : B.M a
      · exact .inr hm
      · cases q : B.H a with
        | none => exact .inl rfl
        | some o =>
          rw [h.st.hh a o hm q] at z
          cases z
    · exact (ft a (sub a z)).2
  have nM : ∀ a, ¬ B.M a → B.H a ≠ none → a ∉ fp' := fun a m q m2 => by
    rcases (ft a (sub a m2)).2 with z | z
    · exact q z
    · exact m z
  have other : ∀ (j : Nat) (q : Rv) (a : Addr), i ≠ j → Γ[j]? = some (some q) → a ∈ f j → a ∉ fp' := fun j q a hne z m m2 => h2 i j _ _ a hne e z (sub a m2) m
  have slotH : ∀ (j : Nat) (q : Rv) (a : Addr), Γ[j]? = some (some q) → a ∈ f j → H a ≠ none := fun j q a z m => by
    obtain ⟨w, _, so⟩ := h1 j q z
    exact so.dom a m
  refine ⟨⟨⟨stB.ff.trans ch.ff, ch.fh, fun b u m z => ch.hh b u (nM b m (by rw [z]; exact fun y => by cases y)) (stB.hh b u m z), fun b m z y => ch.nw b (nM b m z) (by
      cases q : B.H b with
      | none => exact absurd q z
      | some o =>
        rw [stB.hh b o m q]
        exact fun y => by cases y) (stB.nw b m z y), stB.hS⟩, by rw [List.length_set]; exact h.len, h.pin, fun j => if j = i then fr else f j, fun j q z => ?_, fun j l q q' b hne e1 e2 m => ?_, fun j q b z m => ?_⟩, fun a m => ⟨(fitq a (List.mem_append_right _ m)).1, fitB a (List.mem_append_right _ m)⟩⟩
  · rw [List.getElem?_set] at z
    by_cases hj : i = j
    · subst hj
      rw [if_pos rfl] at z
      split at z
      · cases z
        refine ⟨v, hv, ?_⟩
        show SlotOk K B F' H' v ⟨.own, putT s p t⟩ (if i = i then fr else f i)
        rw [if_pos rfl]
        refine ⟨ofr, nfr, fun b m => ?_⟩
        rcases sfr b m with y | y
        · exact ⟨(fitq b (List.mem_append_left _ y)).1, fitB b (List.mem_append_left _ y)⟩
        · have hb : H b ≠ none := ow_dom ow b y.1
          exact ⟨ch.nw b y.2 (same_ne st.hh hb) (st.nw b hb (ft b y.1).1), (ft b y.1).2⟩
      · cases z
    · rw [if_neg hj] at z
      obtain ⟨w, hw, so⟩ := h1 j q z
      refine ⟨w, hw, ?_⟩
      show SlotOk K B F' H' w q (if j = i then fr else f j)
      rw [if_neg (fun y => hj y.symm)]
      obtain ⟨fl, sj⟩ := q
      cases fl with
      | own =>
        obtain ⟨o1, o2, o3⟩ := so
        refine ⟨ow_mono (st.ff.trans ch.ff) o1 fun b m o y => ch.hh b o (other j _ b hj z m) (up b o y), o2, fun b m => ⟨ch.nw b (other j _ b hj z m) (same_ne st.hh (ow_dom o1 b m)) (st.nw b (ow_dom o1 b m) (o3 b m).1), (o3 b m).2⟩⟩
      | par =>
        obtain ⟨e1, fz, o1, s1⟩ := so
        refine ⟨e1, fz, ow_mono (st.ff.trans ch.ff) o1 fun b m o y => ch.hh b o (fun m2 => nS b (sub b m2) (s1 b m)) (up b o y), s1⟩
      | bor => exact so.elim
  · rw [List.getElem?_set] at e1 e2
    have e1' : j ≠ i → Γ[j]? = some (some q) := fun n => by
      rw [if_neg (fun y => n y.symm)] at e1
      exact e1
    have e2' : l ≠ i → Γ[l]? = some (some q') := fun n => by
      rw [if_neg (fun y => n y.symm)] at e2
      exact e2
    have key : ∀ (l : Nat) (q' : Rv), l ≠ i → Γ[l]? = some (some q') → b ∈ fr → b ∉ f l := fun l q' n z m m2 => by
      rcases sfr b m with y | y
      · rcases (fitq b (List.mem_append_left _ y)).2 with w | w
        · exact slotH l q' b z m2 w
        · exact other l q' b (fun u => n u.symm) z m2 w
      · exact h2 i l _ _ b (fun u => n u.symm) e z y.1 m2
    show b ∉ (if l = i then fr else f l)
    have m : b ∈ (if j = i then fr else f j) := m
    by_cases hj : j = i
    · rw [if_pos hj] at m
      have hl : l ≠ i := fun y => hne (hj.trans y.symm)
      rw [if_neg hl]
      exact key l q' hl (e2' hl) m
    · rw [if_neg hj] at m
      by_cases hl : l = i
      · rw [if_pos hl]
        exact fun m2 => key j q hj (e1' hj) m2 m
      · rw [if_neg hl]
        exact h2 j l q q' b hne (e1' hj) (e2' hl) m
  · rw [List.getElem?_set] at z
    have m : b ∈ (if j = i then fr else f j) := m
    intro mR
    by_cases hj : j = i
    · rw [if_pos hj] at m
      rcases sfr b m with y | y
      · exact n3 b y b mR rfl
      · exact notIn b y.1 y.2 (List.mem_append_right _ mR)
    · rw [if_neg hj] at m
      rw [if_neg (fun y => hj y.symm)] at z
      rcases (fitq b (List.mem_append_right _ mR)).2 with w | w
      · exact slotH j q b z m w
      · exact other j q b (fun u => hj u.symm) z m w
theorem EnvS.place (h : EnvS K B F H σ Γ) {i : Nat} {p : List Nat} {s : Sl} {k : Nk} {xs : List Sl} (e : Γ[i]? = some (some ⟨.own, s⟩)) (hs : subT s p = some (.node k xs)) :
    ∃ v a o vs fp, σ[i]? = some (some v) ∧ At K H v s p (.ref a) (.node k xs) ∧ H a = some o ∧ Shape K k vs o ∧ OwAll K F H vs xs fp ∧ fp.Nodup ∧
      ∀ F1 H1 o' k' vs' xs' fq fpn, Step F H F1 H1 → New F1 H fpn → Shape K k' vs' o' → OwAll K F1 H1 vs' xs' fq → fq.Nodup → (∀ b ∈ fq, b ∈ fp ∨ b ∈ fpn) → EnvS K B F1 (upd H1 a o') σ (Γ.set i (some ⟨.own, putT s p (.node k' xs')⟩)) := by
  obtain ⟨v, v', fp', hv, at_, ow', nd', nf', nS', k0⟩ := h.focus e hs
  cases ow' with
  | node ha sh t =>
    rename_i a o vs fp
    obtain ⟨na, nf⟩ := List.nodup_cons.mp nd'
    have haN : H a ≠ none := by
      rw [ha]
      exact fun z => by cases z
    refine ⟨v, a, o, vs, fp, hv, at_, ha, sh, t, nf, fun F1 H1 o' k' vs' xs' fq fpn st nw sh' t' nd2 sub => ?_⟩
    have fa : F1 a = none := st.nw a haN (nf' a List.mem_cons_self)
    have naq : a ∉ fq := fun m => (sub a m).elim na fun z => haN (nw.nh a z)
    refine (k0 F1 H1 F1 (upd H1 a o') (.node k' xs') (a :: fq) [] st ⟨Same.refl F1, fun b u z => ?_, fun b u m z => ?_, fun _ _ _ z => z⟩ (.node upd_same sh' (owAll_mono (Same.refl F1) t' fun b m u y => ?_)) ?_ fun b m => ?_).1.s
    · rw [upd_ne (fun w => by rw [w, fa] at z; cases z)]
      exact st.fh _ _ z
    · rw [upd_ne (fun w => m (by rw [w]; exact List.mem_cons_self))]
      exact z
    · rw [upd_ne (fun w => naq (by rw [← w]; exact m))]
      exact y
    · rw [List.append_nil]
      exact List.nodup_cons.mpr ⟨naq, nd2⟩
    · rw [List.append_nil] at m
      rcases List.mem_cons.mp m with rfl | m
      · exact ⟨fa, .inr List.mem_cons_self⟩
      · rcases sub b m with y | y
        · exact ⟨st.nw b (owAll_dom t b y) (nf' b (List.mem_cons_of_mem _ y)), .inr (List.mem_cons_of_mem _ y)⟩
        · exact ⟨nw.nf b y, .inl (nw.nh b y)⟩
end
end Pf

/-! Pf27: places as expressions; expressions that change a place. -/
namespace Pf
open PySem L2

abbrev MrP := Gm → Option (Nat × List Nat)
/-- what stands at a place -/
def atG (Γ : Gm) (z : Option (Nat × List Nat)) : Option Rv := match z with
  | some (i, p) => (match gt Γ i with
    | some (some r) => (subT r.s p).map fun s => ⟨r.fl, s⟩
    | _ => none)
  | none => none
def pSlot (i : Nat) : MrP := fun _ => some (i, [])
def idxS : List Str → Str → Option Nat
  | [], _ => none
  | n :: ns, f => if f = n then some 0 else (idxS ns f).map (· + 1)
def idxK : List Key → Key → Option Nat
  | [], _ => none
  | n :: ns, f => if n = f then some 0 else (idxK ns f).map (· + 1)
def pf1 (cs : List Str) (f : Str) (z : Option (Nat × List Nat)) (o : Option Rv) : Option (Nat × List Nat) := match z, o with
  | some (i, p), some ⟨_, .node (.O c ns) _⟩ => if c ∈ cs then (idxS ns f).map fun j => (i, p ++ [j]) else none
  | _, _ => none
def pFld (cs : List Str) (f : Str) (m : MrP) : MrP := fun Γ => pf1 cs f (m Γ) (atG Γ (m Γ))
def pk1 (k : Key) (z : Option (Nat × List Nat)) (o : Option Rv) : Option (Nat × List Nat) := match z, o with
  | some (i, p), some ⟨_, .node (.D ks) _⟩ => (idxK ks k).map fun j => (i, p ++ [j])
  | _, _ => none
def pKey (k : Key) (m : MrP) : MrP := fun Γ => pk1 k (m Γ) (atG Γ (m Γ))
def SimP (K : PySem.W.Frag) (t : TE) (m : MrP) : Prop := ∀ (H : Hp) (σ : L2.St) (Γ : Gm) (Q : VK) (i : Nat) (p : List Nat) (r : Rv) (v v' : V) (s' : Sl), m Γ = some (i, p) → Γ[i]? = some (some r) → σ[i]? = some (some v) → At K H v r.s p v' s' → Q v' H → t σ H Q
structure PxP (X : Cx) (e : Expr) (m : MrP) (t : TE) : Prop where
  pe : PE X e t
  sim : SimP X.K t m
section
variable {K : PySem.W.Frag} {H : Hp}
theorem At.nil_inv {v v' : V} {s s' : Sl} (h : At K H v s [] v' s') : v' = v ∧ s' = s := by
  cases h
  exact ⟨rfl, rfl⟩
theorem simP_var {i : Nat} : SimP K (tVar i) (pSlot i) := by
  intro H σ Γ Q j p r v v' s' e er ev at_ q
  cases e
  obtain ⟨rfl, _⟩ := at_.nil_inv
  exact ⟨_, ev, q⟩
theorem idxS_look : ∀ {ns : List Str} {vs : List V} {f : Str} {j : Nat} {w : V}, ns.length = vs.length → idxS ns f = some j → vs[j]? = some w → (ns.zip vs).lookup f = some w
  | [], [], _, _, _, _, e, _ => by cases e
  | n :: ns, v :: vs, f, j, w, hl, e, hw => by
    unfold idxS at e
    rw [List.zip_cons_cons, List.lookup_cons]
    by_cases h : f = n
    · rw [if_pos h] at e
      cases e
      rw [show (f == n) = true from by simp [h]]
      exact hw
    · rw [if_neg h] at e
      cases q : idxS ns f with
      | none =>
        rw [q] at e
        cases e
      | some l =>
        rw [q] at e
        cases e
        rw [show (f == n) = false from by simp [h]]
        exact idxS_look (by simpa using hl) q hw
theorem idxK_look : ∀ {ns : List Key} {vs : List V} {f : Key} {j : Nat} {w : V}, ns.length = vs.length → idxK ns f = some j → vs[j]? = some w → valV (ns.zip vs) f = some w
  | [], [], _, _, _, _, e, _ => by cases e
  | n :: ns, v :: vs, f, j, w, hl, e, hw => by
    unfold idxK at e
    unfold valV
    rw [List.zip_cons_cons, List.find?_cons]
    by_cases h : n = f
    · rw [if_pos h] at e
      cases e
      have : v = w := Option.some.inj hw
      simp [h, this]
    · rw [if_neg h] at e
      cases q : idxK ns f with
      | none =>
        rw [q] at e
        cases e
      | some l =>
        rw [q] at e
        cases e
        have := idxK_look (vs := vs) (w := w) (by simpa using hl) q hw
        unfold valV at this
        simp only [h, decide_false]
        exact this
theorem atG_of {Γ : Gm} {i : Nat} {p : List Nat} {r : Rv} {fl : Fl} {s : Sl} (e : Γ[i]? = some (some r)) (h : atG Γ (some (i, p)) = some ⟨fl, s⟩) : r.fl = fl ∧ subT r.s p = some s := by
  unfold atG at h
  dsimp only at h
  rw [← gt_eq, e] at h
  dsimp only at h
  cases q : subT r.s p with
  | none =>
    rw [q] at h
    cases h
  | some x =>
    rw [q] at h
    cases h
    exact ⟨rfl, rfl⟩
theorem pf1_some {cs : List Str} {f : Str} {Γ : Gm} {z : Option (Nat × List Nat)} {i : Nat} {q : List Nat} (h : pf1 cs f z (atG Γ z) = some (i, q)) :
    ∃ p j fl c ns xs, z = some (i, p) ∧ q = p ++ [j] ∧ atG Γ (some (i, p)) = some ⟨fl, .node (.O c ns) xs⟩ ∧ c ∈ cs ∧ idxS ns f = some j := by
  unfold pf1 at h
  split at h
  · rename_i i' p fl c ns xs e
    split at h
    · rename_i hc
      cases q2 : idxS ns f with
      | none =>
        rw [q2] at h
        cases h
      | some j =>
        rw [q2] at h
        cases h
        exact ⟨p, j, fl, c, ns, xs, rfl, rfl, e, hc, q2⟩
    · cases h
  · cases h
theorem pk1_some {k : Key} {Γ : Gm} {z : Option (Nat × List Nat)} {i : Nat} {q : List Nat} (h : pk1 k z (atG Γ z) = some (i, q)) :
    ∃ p j fl ks xs, z = some (i, p) ∧ q = p ++ [j] ∧ atG Γ (some (i, p)) = some ⟨fl, .node (.D ks) xs⟩ ∧ idxK ks k = some j := by
  unfold pk1 at h
  split at h
  · rename_i i' p fl ks xs e
    cases q2 : idxK ks k with
    | none =>
      rw [q2] at h
      cases h
    | some j =>
      rw [q2] at h
      cases h
      exact ⟨p, j, fl, ks, xs, rfl, rfl, e, q2⟩
  · cases h
theorem simP_fld {cs : List Str} {f : Str} {t : TE} {m : MrP} (hc : ∀ c ∈ cs, Cls K (He.ga K c) ∧ NoAttr K (He.ga K c) f) (h : SimP K t m) : SimP K (tFld K t f) (pFld cs f m) := by
  intro H σ Γ Q i q r v v' s' e er ev at_ hq
  obtain ⟨p, j, fl, c, ns, xs, e1, rfl, e2, hcs, ej⟩ := pf1_some e
  obtain ⟨_, e3⟩ := atG_of er e2
  obtain ⟨a, o, k, vs, ys, a1, a2, a3, a4, a5⟩ := at_.unsnoc
  have e4 := a1.sub
  rw [e3] at e4
  cases e4
  obtain ⟨hl, dx, rfl⟩ := a3
  obtain ⟨c1, c2⟩ := hc c hcs
  exact h H σ Γ _ i p r v _ _ e1 er ev a1 ⟨a, _, dx, _, v', rfl, a2, c1, c2, idxS_look hl ej a4, hq⟩
theorem simP_key {x : Str} {t : TE} {m : MrP} (h : SimP K t m) : SimP K (tDGet t (tC (.str x))) (pKey (.inr x) m) := by
  intro H σ Γ Q i q r v v' s' e er ev at_ hq
  obtain ⟨p, j, fl, ks, xs, e1, rfl, e2, ej⟩ := pk1_some e
  obtain ⟨_, e3⟩ := atG_of er e2
  obtain ⟨a, o, k, vs, ys, a1, a2, a3, a4, a5⟩ := at_.unsnoc
  have e4 := a1.sub
  rw [e3] at e4
  cases e4
  obtain ⟨hl, rfl⟩ := a3
  have g := DGet.k (k := (Sum.inr x : Key)) a2
  rw [idxK_look hl ej a4] at g
  exact h H σ Γ _ i p r v _ _ e1 er ev a1 ⟨a, v', rfl, g, hq⟩
end
section
variable {X : Cx} {e : Expr} {m : MrP} {t : TE} {pos : Pos}
theorem pxp_var (i : Nat) {x : Str} (hN : X.N[i]? = some x := by rfl) (hv : Vis X.env.scope x := by first | exact Or.inl rfl | exact Or.inr (Or.inl rfl) | exact Or.inr (Or.inr rfl)) (hd : (x == ("__debug__" : Str)) = false := by decide) (hcd : (x == ("__classdict__" : Str)) = false := by decide) :
    PxP X (.Name x pos) (pSlot i) (tVar i) := ⟨pe_var hN hv hd hcd, simP_var⟩
theorem pxp_fld {cs : List Str} {f : Str} (hc : ∀ c ∈ cs, Cls X.K (He.ga X.K c) ∧ NoAttr X.K (He.ga X.K c) f) (h : PxP X e m t) (hb : attributeBase e f X.env (eval e X.env) = eval e X.env := by rfl) : PxP X (.Attribute e f pos) (pFld cs f m) (tFld X.K t f) := ⟨pe_fld h.pe hb, simP_fld hc h.sim⟩
theorem pxp_key {x : Str} {j : Nat} {p2 : Pos} (hu : X.A.units + 1 < cLine) (h : PxP X e m t) : PxP X (.Subscript e (.Constant (.str x) j p2) pos) (pKey (.inr x) m) (tDGet t (tC (.str x))) := ⟨pe_dget hu h.pe pe_str (fun _ _ => rfl), simP_key h.sim⟩
end
end Pf

/-! Pf28: expressions that change a place: their mirrors; calls of defs and methods that change their first thing. -/
namespace Pf
open PySem L2

inductive Ez where
  | ok (r : Rv) (Γ : Gm) | er (c : Str) (Γ : Gm) | no
abbrev MrE := Gm → Ez
def PostE (K : PySem.W.Frag) (B : Bs) (E : XK) (σ : L2.St) (Q : VK) : Ez → Prop
  | .ok r Γ => ∀ v F H fq, EnvR K B F H σ Γ fq → SlotOk K B F H v r fq → Q v H
  | .er c Γ => ∀ F H, EnvS K B F H σ Γ → E (.ref (He.ga K c)) none H
  | .no => False
def SimE (K : PySem.W.Frag) (E : XK) (np : Nat) (t : TE) (m : MrE) : Prop := ∀ (B : Bs) (F H : Hp) (σ : L2.St) (Γ : Gm) (Q : VK), B.pin.length ≤ np → EnvS K B F H σ Γ → PostE K B E σ Q (m Γ) → t σ H Q
structure PxE (X : Cx) (E : XK) (np : Nat) (e : Expr) (m : MrE) (t : TE) : Prop where
  pe : PE X e t
  sim : SimE X.K E np t m

/-- what changes nothing -/
def ez1 (z : Rz Rv) (Γ : Gm) : Ez := match z with
  | .ok ⟨.bor, _⟩ => .no
  | .ok r => .ok r Γ
  | .er c => .er c Γ
  | .no => .no
def eE (m : Mr) : MrE := fun Γ => ez1 (m Γ) Γ
section
variable {K : PySem.W.Frag} {E : XK} {np : Nat} {B : Bs} {F H : Hp} {σ : L2.St} {Γ : Gm}
theorem ez1_nb {r : Rv} (h : r.fl ≠ .bor) : ez1 (.ok r) Γ = .ok r Γ := by
  obtain ⟨fl, s⟩ := r
  cases fl with
  | own => rfl
  | par => rfl
  | bor => exact absurd rfl h
theorem simE_pure {t : TE} {m : Mr} (h : Sim K E t m) : SimE K E np t (eE m) := by
  intro B F H σ Γ Q hp en p
  have p : PostE K B E σ Q (ez1 (m Γ) Γ) := p
  refine h.stm en (fun c q => by rw [q] at p; exact p) (fun q => by rw [q] at p; exact p) fun r v F' H' fp q st ro nw => ?_
  rw [q] at p
  by_cases hb : r.fl = .bor
  · obtain ⟨fl, s⟩ := r
    have hb : fl = .bor := hb
    subst hb
    exact p.elim
  · rw [ez1_nb hb] at p
    exact p v F' H' fp (en.r st nw) (rok_slot ro hb nw.nd (fit_new en.st nw))
theorem roks_owS {S T : Addr → Prop} (hT : ∀ a, S a → T a) : ∀ {vs : List V} {rs : List Rv} {fp : List Addr}, Roks K S F H vs rs fp → (∀ r ∈ rs, r.fl ≠ .bor) → (∀ a ∈ fp, T a) → OwS K F H T vs (rs.map Rv.s)
  | _, _, _, .nil, _, _ => .nil
  | _, _, _, .cons (r := r) (fp := f1) (fq := f2) ro rs, hb, ht => by
    have ih := roks_owS hT rs (fun q m => hb q (List.mem_cons_of_mem _ m)) (fun a m => ht a (List.mem_append_right _ m))
    obtain ⟨fl, s⟩ := r
    cases fl with
    | own => exact .cons f1 ro (fun a m => ht a (List.mem_append_left _ m)) ih
    | par =>
      obtain ⟨_, fz, o, hs⟩ := ro
      exact .cons fz o (fun a m => hT a (hs a m)) ih
    | bor => exact absurd rfl (hb _ List.mem_cons_self)
end
def setG (Γ : Gm) (i : Nat) (p : List Nat) (t : Sl) : Gm := match gt Γ i with
  | some (some r) => Γ.set i (some ⟨r.fl, putT r.s p t⟩)
  | _ => Γ
def io1 (Γ : Gm) (i : Nat) (p : List Nat) (z : Oi) : Ez := match z with
  | .ok ⟨_, .dat d⟩ [t] => .ok ⟨.own, .dat d⟩ (setG Γ i p t)
  | .ok ⟨.own, s⟩ [t] => .ok ⟨.own, s⟩ (setG Γ i p t)
  | .er c [t] => .er c (setG Γ i p t)
  | _ => .no
def io2 (Γ : Gm) (i : Nat) (p : List Nat) (f : List Sl → Oi) (z : Rz (List Rv)) : Ez := match z with
  | .ok rs => if nbor rs = true then io1 Γ i p (f (rs.map Rv.s)) else .no
  | .er c => .er c Γ
  | .no => .no
def io3 (Γ : Gm) (f : Fi) (z : Rz (List Rv)) (pl : Option (Nat × List Nat)) (o : Option Rv) : Ez := match pl, o with
  | some (i, p), some ⟨.own, s⟩ => io2 Γ i p (fun bs => f [s] bs) z
  | _, _ => .no
def eIo (f : Fi) (pl : MrP) (ma : MrA) : MrE := fun Γ => io3 Γ f (ma Γ) (pl Γ) (atG Γ (pl Γ))
/-- an instance of the class c without a field n -/
def isObj (c n : Str) (s : Sl) : Bool := match s with
  | .node (.O c' ns) _ => decide (c' = c) && (idxS ns n).isNone
  | _ => false
def chkM (c n : Str) (o : Option Rv) : Option Rv := match o with
  | some r => if isObj c n r.s = true then some r else none
  | none => none
def eIoM (c n : Str) (f : Fi) (pl : MrP) (ma : MrA) : MrE := fun Γ => io3 Γ f (ma Γ) (pl Γ) (chkM c n (atG Γ (pl Γ)))
section
variable {K : PySem.W.Frag} {E : XK} {np : Nat}
theorem setG_eq {Γ : Gm} {i : Nat} {p : List Nat} {t s : Sl} (e : Γ[i]? = some (some ⟨.own, s⟩)) : setG Γ i p t = Γ.set i (some ⟨.own, putT s p t⟩) := by
  unfold setG
  rw [← gt_eq, e]
/-- the call at a place: what is left for it -/
theorem io_call {B : Bs} {F H : Hp} {σ : L2.St} {Γ : Gm} {Q : VK} (en : EnvS K B F H σ Γ) {g : Fi} {pl : MrP} {ma : MrA} {tp : TE} {ta : TA} (hP : SimP K tp pl) (hA : SimA K E ta ma) {o : Option Rv} {C : Sl → Prop} (hC : ∀ r, o = some r → atG Γ (pl Γ) = some r ∧ C r.s)
    (p : PostE K B E σ Q (io3 Γ g (ma Γ) (pl Γ) o)) {T : V → Hp → Prop}
    (fin : ∀ (s : Sl) (v' : V) (fp' : List Addr), C s → Ow K F H v' s fp' → (∀ (R : List V → Hp → Prop), (∀ ws H1, spI K 1 g (v' :: ws) H1 Q E → R ws H1) → ta σ H R) → T v' H) : tp σ H T := by
  have key : ∀ (i : Nat) (pa : List Nat) (s : Sl), pl Γ = some (i, pa) → o = some ⟨.own, s⟩ → tp σ H T := by
    intro i pa s e1 eo
    obtain ⟨e3, hCs⟩ := hC _ eo
    rw [e1] at e3
    have e2 := e3
    have p : PostE K B E σ Q (io2 Γ i pa (fun bs => g [s] bs) (ma Γ)) := by
      rw [e1, eo] at p
      exact p
    obtain ⟨r, er⟩ : ∃ r, Γ[i]? = some (some r) := by
      unfold atG at e2
      dsimp only at e2
      rw [← gt_eq] at e2
      split at e2
      · rename_i r q
        exact ⟨r, q⟩
      · cases e2
    obtain ⟨ho, hs⟩ := atG_of er e2
    obtain ⟨fl, s0⟩ := r
    have ho : fl = .own := ho
    subst ho
    obtain ⟨v, v', fp', hv, at_, ow', nd', nf', nS', k⟩ := en.focus er hs
    refine hP H σ Γ T i pa ⟨.own, s0⟩ v v' s e1 er hv at_ ?_
    have noN : ma Γ ≠ .no := fun q => by rw [q] at p; exact p
    refine fin s v' fp' hCs ow' fun R hR => ?_
    refine hA.stm en (fun c q => by rw [q] at p; exact p) noN fun rs ws F1 H1 fa q st ro nw => ?_
    rw [q] at p
    have p : PostE K B E σ Q (if nbor rs = true then io1 Γ i pa (g [s] (rs.map Rv.s)) else .no) := p
    by_cases hb : nbor rs = true
    · rw [if_pos hb] at p
      have inH : ∀ a ∈ fp', H a ≠ none := fun a m => ow_dom ow' a m
      refine hR ws H1 ⟨F1, [v'], ws, [s], rs.map Rv.s, fp', rfl, rfl, st.fh, owAll_one (ow_step st.ff st.hh ow'), nd', fun a m => st.nw a (inH a m) (nf' a m), ?_, ?_⟩
      · have o := roks_owS (T := fun a => a ∉ fp') (fun a s m => nS' a m s) ro (nbor_ok hb) (fun a m m2 => inH a m2 (nw.nh a m))
        have up : ∀ {vs : List V} {ss : List Sl}, OwS K F1 H1 (fun a => a ∉ fp') vs ss → OwS K F1 H1 (fun a => H1 a ≠ none ∧ a ∉ fp') vs ss := by
          intro vs ss o
          induction o with
          | nil => exact .nil
          | cons fz o1 o2 _ ih => exact .cons fz o1 (fun a m => ⟨ow_dom o1 a m, o2 a m⟩) ih
        exact up o
      · have toChg : ∀ {F' H' : Hp}, StepB (ioB F1 H1 fp' [v']) F' H' → Chg fp' F1 H1 F' H' := fun {F' H'} sb => ⟨sb.ff, sb.fh, fun a o m e => sb.hh a o m e, fun a m e1 e2 => sb.nw a m e1 e2⟩
        cases q2 : g [s] (rs.map Rv.s) with
        | no =>
          rw [q2] at p
          exact p
        | er c ss =>
          rw [q2] at p
          intro F' H' fq sb oa nq ft
          cases oa with
          | cons ow t =>
            cases t
            rename_i s1 f1
            rw [List.append_nil] at nq ft
            have ft : ∀ a ∈ f1, F' a = none ∧ (H a = none ∨ a ∈ fp') := fun a m => ⟨(ft a m).1, (ft a m).2.imp (fun z => st.hh.free z) fun z => z⟩
            obtain ⟨er', _⟩ := k F1 H1 F' H' s1 f1 [] st (toChg sb) ow (by rw [List.append_nil]; exact nq) (by rw [List.append_nil]; exact ft)
            have p : PostE K B E σ Q (.er c (setG Γ i pa s1)) := p
            rw [setG_eq er] at p
            exact p F' H' er'.s
        | ok r ss =>
          rw [q2] at p
          intro v2 F' H' fq fr sb oa rov nq ft
          cases oa with
          | cons ow t =>
            cases t
            rename_i s1 f1
            rw [List.append_nil] at nq ft
            have ft : ∀ a ∈ f1 ++ fr, F' a = none ∧ (H a = none ∨ a ∈ fp') := fun a m => ⟨(ft a m).1, (ft a m).2.imp (fun z => st.hh.free z) fun z => z⟩
            have k2 := fun R h1 h2 => k F1 H1 F' H' s1 f1 R st (toChg sb) ow h1 h2
            obtain ⟨fl, sr⟩ := r
            cases sr with
            | dat d =>
              have p : PostE K B E σ Q (.ok ⟨.own, .dat d⟩ (setG Γ i pa s1)) := p
              rw [setG_eq er] at p
              obtain ⟨fz, o⟩ := rov.ow
              have o : Ow K F' H' v2 (.dat d) fz := o
              cases o with
              | dat hd =>
                obtain ⟨er', _⟩ := k2 [] (by rw [List.append_nil]; exact (List.nodup_append.mp nq).1) (by rw [List.append_nil]; exact fun a m => ft a (List.mem_append_left _ m))
                exact p v2 F' H' [] er' ⟨.dat hd, List.nodup_nil, fun _ m => by cases m⟩
            | node kk xs =>
              cases fl with
              | own =>
                have p : PostE K B E σ Q (.ok ⟨.own, .node kk xs⟩ (setG Γ i pa s1)) := p
                rw [setG_eq er] at p
                obtain ⟨er', fb⟩ := k2 fr nq ft
                exact p v2 F' H' fr er' ⟨rov, (List.nodup_append.mp nq).2.1, fb⟩
              | par => exact p.elim
              | bor => exact p.elim
    · rw [if_neg hb] at p
      exact p.elim
  cases hpl : pl Γ with
  | none =>
    rw [hpl] at p
    exact p.elim
  | some ip =>
    obtain ⟨i, pa⟩ := ip
    cases ho : o with
    | none =>
      rw [hpl, ho] at p
      exact p.elim
    | some r0 =>
      obtain ⟨fl0, s⟩ := r0
      cases fl0 with
      | own => exact key i pa s hpl ho
      | par =>
        rw [hpl, ho] at p
        exact p.elim
      | bor =>
        rw [hpl, ho] at p
        exact p.elim
end
end Pf

/-! Pf29: calls, operators, tests and statements over expressions that change a place. -/
namespace Pf
open PySem L2
section
variable {K : PySem.W.Frag} {E : XK} {np : Nat} {B : Bs} {F H : Hp} {σ : L2.St} {Γ : Gm}
theorem simE_io {g : Fi} {pl : MrP} {ma : MrA} {tp : TE} {ta : TA} (hP : SimP K tp pl) (hA : SimA K E ta ma) : SimE K E np (tCall (spI K 1 g) [] E (tCons tp ta)) (eIo g pl ma) := by
  intro B F H σ Γ Q hp en p
  refine io_call (C := fun _ => True) en hP hA (fun r e => ⟨e, trivial⟩) p fun s v' fp' _ ow k => k _ fun ws H1 sp => ?_
  show spI K 1 g ((v' :: ws) ++ []) H1 Q E
  rw [List.append_nil]
  exact sp
theorem idxS_none : ∀ {ns : List Str} {vs : List V} {f : Str}, idxS ns f = none → (ns.zip vs).lookup f = none
  | [], _, _, _ => rfl
  | _ :: _, [], _, _ => rfl
  | n :: ns, v :: vs, f, e => by
    unfold idxS at e
    rw [List.zip_cons_cons, List.lookup_cons]
    by_cases h : f = n
    · rw [if_pos h] at e
      cases e
    · rw [if_neg h] at e
      cases q : idxS ns f with
      | none =>
        rw [show (f == n) = false from by simp [h]]
        exact idxS_none q
      | some l =>
        rw [q] at e
        cases e
theorem isObj_ow {c n : Str} {s : Sl} {v : V} {fp : List Addr} (h : isObj c n s = true) (o : Ow K F H v s fp) : ∃ a dx fs, v = .ref a ∧ H a = some (.ins (He.ga K c) dx fs) ∧ fs.lookup n = none := by
  cases s with
  | dat d => cases h
  | node k xs =>
    cases k with
    | O c' ns =>
      have h : (decide (c' = c) && (idxS ns n).isNone) = true := h
      obtain ⟨h1, h2⟩ := Bool.and_eq_true_iff.mp h
      have e := of_decide_eq_true h1
      subst e
      cases o with
      | node ha sh t =>
        obtain ⟨_, dx, rfl⟩ := sh
        exact ⟨_, dx, _, rfl, ha, idxS_none (Option.isNone_iff_eq_none.mp h2)⟩
    | _ => cases h
theorem chkM_some {c n : Str} {o : Option Rv} {r : Rv} (h : chkM c n o = some r) : o = some r ∧ isObj c n r.s = true := by
  unfold chkM at h
  split at h
  · split at h
    · cases h
      exact ⟨rfl, by assumption⟩
    · cases h
  · cases h
theorem simE_meth {c n : Str} {g : Fi} {pl : MrP} {ma : MrA} {tp : TE} {ta : TA} (hP : SimP K tp pl) (hA : SimA K E ta ma) : SimE K E np (tMeth (He.ga K c) n (spI K 1 g) [] E tp ta) (eIoM c n g pl ma) := by
  intro B F H σ Γ Q hp en p
  refine io_call (C := fun s => isObj c n s = true) en hP hA (fun r e => chkM_some e) p fun s v' fp' hs ow k => ?_
  obtain ⟨a, dx, fs, e1, e2, e3⟩ := isObj_ow hs ow
  refine ⟨a, dx, fs, e1, e2, e3, k _ fun ws H1 sp => ?_⟩
  rw [List.append_nil]
  exact sp
/-! operators: the left side changes a place -/
def op3 (f : List Sl → Option Sl) (r : Rv) (z : Rz Rv) (Γ : Gm) : Ez := match z with
  | .ok r' => (match f [r.s, r'.s] with
    | some s => .ok ⟨.own, s⟩ Γ
    | none => .no)
  | .er c => .er c Γ
  | .no => .no
def op4 (f : List Sl → Option Sl) (z : Ez) (m : Mr) : Ez := match z with
  | .ok r Γ => op3 f r (m Γ) Γ
  | .er c Γ => .er c Γ
  | .no => .no
def eOpE (f : List Sl → Option Sl) (a : MrE) (b : Mr) : MrE := fun Γ => op4 f (a Γ) b
theorem SimE.bind {t : TE} {m : MrE} (h : SimE K E np t m) (hp : B.pin.length ≤ np) (en : EnvS K B F H σ Γ) {R : VK} (he : ∀ c Γ', m Γ = .er c Γ' → ∀ F' H', EnvS K B F' H' σ Γ' → E (.ref (He.ga K c)) none H') (hn : m Γ ≠ .no)
    (step : ∀ r Γ' v F' H' fq, m Γ = .ok r Γ' → EnvR K B F' H' σ Γ' fq → SlotOk K B F' H' v r fq → R v H') : t σ H R := by
  refine h B F H σ Γ R hp en ?_
  cases q : m Γ with
  | ok r Γ' => exact fun v F' H' fq er so => step r Γ' v F' H' fq q er so
  | er c Γ' => exact fun F' H' es => he c Γ' q F' H' es
  | no => exact hn q
theorem SlotOk.ow {v : V} {r : Rv} {fq : List Addr} (h : SlotOk K B F H v r fq) : ∃ fp, Ow K F H v r.s fp := by
  obtain ⟨fl, s⟩ := r
  cases fl with
  | own => exact ⟨_, h.1⟩
  | par => exact ⟨_, h.2.choose_spec.1⟩
  | bor => exact h.elim
theorem simE_op {f : List Sl → Option Sl} {ta tb : TE} {ma : MrE} {mb : Mr} (ha : SimE K E np ta ma) (hb : Sim K E tb mb) : SimE K E np (tOp (fun x y H Q => Prm K f [x, y] H Q) ta tb) (eOpE f ma mb) := by
  intro B F H σ Γ Q hp en p
  have p : PostE K B E σ Q (op4 f (ma Γ) mb) := p
  refine ha.bind hp en (fun c Γ' q => by rw [q] at p; exact p) (fun q => by rw [q] at p; exact p) fun r Γ1 v F1 H1 fq q er so => ?_
  rw [q] at p
  have p : PostE K B E σ Q (op3 f r (mb Γ1) Γ1) := p
  refine hb.stm er.s (fun c q => by rw [q] at p; exact p) (fun q => by rw [q] at p; exact p) fun r' v2 F2 H2 fp q2 st ro nw => ?_
  rw [q2] at p
  cases q3 : f [r.s, r'.s] with
  | none =>
    have p : PostE K B E σ Q (match f [r.s, r'.s] with | some s => .ok ⟨.own, s⟩ Γ1 | none => .no) := p
    rw [q3] at p
    exact p.elim
  | some s =>
    have p : PostE K B E σ Q (match f [r.s, r'.s] with | some s => .ok ⟨.own, s⟩ Γ1 | none => .no) := p
    rw [q3] at p
    obtain ⟨f1, o1⟩ := (so.step st).ow
    obtain ⟨f2, o2⟩ := ro.ow
    have en2 := er.s.step st
    refine ⟨F2, [r.s, r'.s], s, st.fh, .cons f1 o1 (.cons f2 o2 .nil), q3, fun w F3 H3 fp3 st3 ow3 nw3 => ?_⟩
    exact p w F3 H3 fp3 (en2.r st3 nw3) ⟨ow3, nw3.nd, fit_new en2.st nw3⟩
def if3 (z : Rz Bool) (a b : MrE) (Γ : Gm) : Ez := match z with
  | .ok true => a Γ
  | .ok false => b Γ
  | .er c => .er c Γ
  | .no => .no
def eIfE (c : MrT) (a b : MrE) : MrE := fun Γ => if3 (c Γ) a b Γ
end
end Pf

/-! Pf30: tests and statements over expressions that change a place. -/
namespace Pf
open PySem L2
inductive Tz where
  | ok (b : Bool) (Γ : Gm) | er (c : Str) (Γ : Gm) | no
abbrev MrTE := Gm → Tz
def PostTE (K : PySem.W.Frag) (B : Bs) (E : XK) (σ : L2.St) (Q : Bool → Hp → Prop) : Tz → Prop
  | .ok b Γ => ∀ F H, EnvS K B F H σ Γ → Q b H
  | .er c Γ => ∀ F H, EnvS K B F H σ Γ → E (.ref (He.ga K c)) none H
  | .no => False
def SimTE (K : PySem.W.Frag) (E : XK) (np : Nat) (t : TT) (m : MrTE) : Prop := ∀ (B : Bs) (F H : Hp) (σ : L2.St) (Γ : Gm) (Q : Bool → Hp → Prop), B.pin.length ≤ np → EnvS K B F H σ Γ → PostTE K B E σ Q (m Γ) → t σ H Q
structure PxTE (X : Cx) (E : XK) (np : Nat) (e : Expr) (m : MrTE) (t : TT) : Prop where
  pt : PT X e t
  sim : SimTE X.K E np t m
structure PxWE (X : Cx) (E : XK) (np : Nat) (e : Expr) (m : MrTE) (t : TT) : Prop where
  pw : PW X e t
  sim : SimTE X.K E np t m
def te1 (z : Ez) : Tz := match z with
  | .ok ⟨_, .dat (.bool b)⟩ Γ => .ok b Γ
  | .er c Γ => .er c Γ
  | _ => .no
def eTE (m : MrE) : MrTE := fun Γ => te1 (m Γ)
def tp1 (z : Rz Bool) (Γ : Gm) : Tz := match z with
  | .ok b => .ok b Γ
  | .er c => .er c Γ
  | .no => .no
def eTP (m : MrT) : MrTE := fun Γ => tp1 (m Γ) Γ
def not1 (z : Tz) : Tz := match z with
  | .ok b Γ => .ok (!b) Γ
  | z => z
def eNotE (m : MrTE) : MrTE := fun Γ => not1 (m Γ)
def and1 (z : Tz) (m : MrTE) : Tz := match z with
  | .ok true Γ => m Γ
  | z => z
def eAndE (a b : MrTE) : MrTE := fun Γ => and1 (a Γ) b
def or1 (z : Tz) (m : MrTE) : Tz := match z with
  | .ok false Γ => m Γ
  | z => z
def eOrE (a b : MrTE) : MrTE := fun Γ => or1 (a Γ) b
section
variable {K : PySem.W.Frag} {E : XK} {np : Nat} {B : Bs} {F H : Hp} {σ : L2.St} {Γ : Gm}
theorem SimTE.bind {t : TT} {m : MrTE} (h : SimTE K E np t m) (hp : B.pin.length ≤ np) (en : EnvS K B F H σ Γ) {R : Bool → Hp → Prop} (he : ∀ c Γ', m Γ = .er c Γ' → ∀ F' H', EnvS K B F' H' σ Γ' → E (.ref (He.ga K c)) none H') (hn : m Γ ≠ .no)
    (step : ∀ b Γ' F' H', m Γ = .ok b Γ' → EnvS K B F' H' σ Γ' → R b H') : t σ H R := by
  refine h B F H σ Γ R hp en ?_
  cases q : m Γ with
  | ok b Γ' => exact fun F' H' es => step b Γ' F' H' q es
  | er c Γ' => exact fun F' H' es => he c Γ' q F' H' es
  | no => exact hn q
theorem simTE_of {t : TE} {m : MrE} (h : SimE K E np t m) : SimTE K E np (tTest t) (eTE m) := by
  intro B F H σ Γ Q hp en p
  have p : PostTE K B E σ Q (te1 (m Γ)) := p
  refine h.bind hp en (fun c Γ' q => by rw [q] at p; exact p) (fun q => by rw [q] at p; exact p) fun r Γ' v F' H' fq q er so => ?_
  rw [q] at p
  obtain ⟨fl, s⟩ := r
  cases s with
  | node k xs => exact p.elim
  | dat d =>
    cases d with
    | bool b =>
      obtain ⟨fp, o⟩ := so.ow
      have o : Ow K F' H' v (.dat (.bool b)) fp := o
      exact ⟨b, ow_bool o, p F' H' er.s⟩
    | _ => exact p.elim
theorem simTE_pure {t : TT} {m : MrT} (h : SimT K E t m) : SimTE K E np t (eTP m) := by
  intro B F H σ Γ Q hp en p
  have p : PostTE K B E σ Q (tp1 (m Γ) Γ) := p
  refine h (Sst B) F H σ Γ Q en.st.fh en.e ?_
  cases q : m Γ with
  | ok b =>
    rw [q] at p
    exact fun F' H' st => p F' H' (en.step st)
  | er c =>
    rw [q] at p
    exact fun F' H' st => p F' H' (en.step st)
  | no =>
    rw [q] at p
    exact p.elim
theorem simTE_not {t : TT} {m : MrTE} (h : SimTE K E np t m) : SimTE K E np (tNot t) (eNotE m) := by
  intro B F H σ Γ Q hp en p
  have p : PostTE K B E σ Q (not1 (m Γ)) := p
  refine h.bind hp en (fun c Γ' q => by rw [q] at p; exact p) (fun q => by rw [q] at p; exact p) fun b Γ' F' H' q es => ?_
  rw [q] at p
  exact p F' H' es
theorem simTE_and {t u : TT} {m m' : MrTE} (h : SimTE K E np t m) (h' : SimTE K E np u m') : SimTE K E np (tAnd t u) (eAndE m m') := by
  intro B F H σ Γ Q hp en p
  have p : PostTE K B E σ Q (and1 (m Γ) m') := p
  refine h.bind hp en (fun c Γ' q => by rw [q] at p; exact p) (fun q => by rw [q] at p; exact p) fun b Γ' F' H' q es => ?_
  rw [q] at p
  cases b with
  | true =>
    rw [if_pos rfl]
    exact h' B F' H' σ Γ' Q hp es p
  | false =>
    rw [if_neg (by decide)]
    exact p F' H' es
theorem simTE_or {t u : TT} {m m' : MrTE} (h : SimTE K E np t m) (h' : SimTE K E np u m') : SimTE K E np (tOr t u) (eOrE m m') := by
  intro B F H σ Γ Q hp en p
  have p : PostTE K B E σ Q (or1 (m Γ) m') := p
  refine h.bind hp en (fun c Γ' q => by rw [q] at p; exact p) (fun q => by rw [q] at p; exact p) fun b Γ' F' H' q es => ?_
  rw [q] at p
  cases b with
  | true =>
    rw [if_pos rfl]
    exact p F' H' es
  | false =>
    rw [if_neg (by decide)]
    exact h' B F' H' σ Γ' Q hp es p
theorem simE_if {tc : TT} {ta tb : TE} {mc : MrT} {ma mb : MrE} (hc : SimT K E tc mc) (ha : SimE K E np ta ma) (hb : SimE K E np tb mb) : SimE K E np (tIf tc ta tb) (eIfE mc ma mb) := by
  intro B F H σ Γ Q hp en p
  have p : PostE K B E σ Q (if3 (mc Γ) ma mb Γ) := p
  refine hc (Sst B) F H σ Γ _ en.st.fh en.e ?_
  cases q : mc Γ with
  | ok b =>
    rw [q] at p
    intro F' H' st
    cases b with
    | true =>
      rw [if_pos rfl]
      exact ha B F' H' σ Γ Q hp (en.step st) p
    | false =>
      rw [if_neg (by decide)]
      exact hb B F' H' σ Γ Q hp (en.step st) p
  | er c =>
    rw [q] at p
    exact fun F' H' st => p F' H' (en.step st)
  | no =>
    rw [q] at p
    exact p.elim
/-! statements -/
theorem EnvR.push {v : V} {r : Rv} {fq : List Addr} (h : EnvR K B F H σ Γ fq) (so : SlotOk K B F H v r fq) : EnvS K (B.push v) F H (some v :: σ) (some r :: Γ) := by
  obtain ⟨f, h1, h2, h3⟩ := h.ex
  have h4 : ∀ (i : Nat) (q : Rv) (a : Addr), Γ[i]? = some (some q) → a ∈ f i → a ∉ fq := h3
  refine ⟨⟨h.st.ff, h.st.fh, h.st.hh, h.st.nw, h.st.hS⟩, by rw [List.length_cons, List.length_cons, h.len], push_pin h.pin, fun i => match i with | 0 => fq | i + 1 => f i, fun i q e => ?_, fun i j q q' a hne e1 e2 m => ?_⟩
  · cases i with
    | zero =>
      cases e
      exact ⟨v, rfl, so⟩
    | succ i => exact h1 i q e
  · cases i with
    | zero =>
      cases j with
      | zero => exact absurd rfl hne
      | succ j => exact fun m2 => h4 j q' a e2 m2 m
    | succ i =>
      cases j with
      | zero => exact h4 i q a e1 m
      | succ j => exact h2 i j q q' a (fun z => hne (by rw [z])) e1 e2 m
def oz1 (z : Ez) : Oz := match z with
  | .ok _ Γ => .nx Γ
  | .er c Γ => .er c Γ
  | .no => .no
def sExpE (m : MrE) : MrS := fun Γ => oz1 (m Γ)
def oz2 (i : Nat) (z : Ez) : Oz := match z with
  | .ok r Γ => .nx (Γ.set i (some r))
  | .er c Γ => .er c Γ
  | .no => .no
def sAsgE (i : Nat) (m : MrE) : MrS := fun Γ => oz2 i (m Γ)
def oz3 (z : Ez) : Oz := match z with
  | .ok r Γ => .rt r Γ
  | .er c Γ => .er c Γ
  | .no => .no
def sRetE (m : MrE) : MrS := fun Γ => oz3 (m Γ)
def oz4 (z : Tz) (a b : MrS) : Oz := match z with
  | .ok true Γ => a Γ
  | .ok false Γ => b Γ
  | .er c Γ => .er c Γ
  | .no => .no
def sIfE (c : MrTE) (a b : MrS) : MrS := fun Γ => oz4 (c Γ) a b
theorem EnvR.set1 {i : Nat} {v : V} {r : Rv} {fq : List Addr} (h : EnvR K B F H σ Γ fq) (so : SlotOk K B F H v r fq) (hp : B.pin.length ≤ i) : EnvS K B F H (σ.set i (some v)) (Γ.set i (some r)) := by
  obtain ⟨fl, s⟩ := r
  have nd : fq.Nodup := by
    cases fl with
    | own => exact so.2.1
    | par =>
      rw [so.1]
      exact List.nodup_nil
    | bor => exact so.elim
  exact (EnvR.set (R := []) (fp := fq) (by rw [List.append_nil]; exact h) (by rw [List.append_nil]; exact nd) so hp).s
theorem simS_expE {t : TE} {m : MrE} (h : SimE K E np t m) : SimS K E np (tDrop t) (sExpE m) := by
  intro B F H σ Γ D hp en p
  have p : PostS K B E D (oz1 (m Γ)) := p
  refine h.bind hp en (fun c Γ' q => by rw [q] at p; exact fun F' H' es => p F' H' σ es) (fun q => by rw [q] at p; exact p) fun r Γ' v F' H' fq q er so => ?_
  rw [q] at p
  exact p F' H' σ er.s
theorem simS_asgE {i : Nat} {t : TE} {m : MrE} (hi : np ≤ i) (h : SimE K E np t m) : SimS K E np (tAsg t (gName i)) (sAsgE i m) := by
  intro B F H σ Γ D hp en p
  have p : PostS K B E D (oz2 i (m Γ)) := p
  refine h.bind hp en (fun c Γ' q => by rw [q] at p; exact fun F' H' es => p F' H' σ es) (fun q => by rw [q] at p; exact p) fun r Γ' v F' H' fq q er so => ?_
  rw [q] at p
  exact p F' H' _ (er.set1 so (Nat.le_trans hp hi))
theorem simS_retE {t : TE} {m : MrE} (h : SimE K E np t m) : SimS K E np (tRet t) (sRetE m) := by
  intro B F H σ Γ D hp en p
  have p : PostS K B E D (oz3 (m Γ)) := p
  refine h.bind hp en (fun c Γ' q => by rw [q] at p; exact fun F' H' es => p F' H' σ es) (fun q => by rw [q] at p; exact p) fun r Γ' v F' H' fq q er so => ?_
  rw [q] at p
  exact p v F' H' σ (er.push so)
theorem simS_ifE {tc : TT} {mc : MrTE} {t u : TS} {m m' : MrS} (hc : SimTE K E np tc mc) (h : SimS K E np t m) (h' : SimS K E np u m') : SimS K E np (tIfS tc t u) (sIfE mc m m') := by
  intro B F H σ Γ D hp en p
  have p : PostS K B E D (oz4 (mc Γ) m m') := p
  refine hc.bind hp en (fun c Γ' q => by rw [q] at p; exact fun F' H' es => p F' H' σ es) (fun q => by rw [q] at p; exact p) fun b Γ' F' H' q es => ?_
  rw [q] at p
  cases b with
  | true =>
    rw [if_pos rfl]
    exact h B F' H' σ Γ' D hp es p
  | false =>
    rw [if_neg (by decide)]
    exact h' B F' H' σ Γ' D hp es p
end
/-! the rules -/
section
variable {X : Cx} {E : XK} {np : Nat} {a b c e : Expr} {es : List Expr} {pos p apos : Pos} {ma : MrE} {mb : Mr} {ta tb : TE} {mp : MrP} {tp : TE} {me : MrA} {te : TA} {CX : CXT} {k : Nat} {f : Addr} {fd : FuncData} {ps : List Str} {g : Fi} {x cl n : Str} {mc mc' : MrTE} {tc tc' : TT}
theorem pxe_pure (h : Px X E e mb tb) : PxE X E np e (eE mb) tb := ⟨h.pe, simE_pure h.sim⟩
theorem pxe_io (F : FnOk X.prog X.w X.K X.mg X.base CX k f fd ps (spI X.K 1 g)) (hr : Room k X.A) (hg : Gl X x) (hm : X.mg x = some (.ref f)) (hk : PySem.W.keepIn X.K (.ref f) = true) (hb : Binds X.K fd ps []) (hx : Passes CX X E)
    (hP : PxP X e mp tp) (hA : PxA X E es me te) (hdb : (x == ("__debug__" : Str)) = false := by decide) (he : starEach (e :: es) X.env = (false, eval e X.env) :: starEach es X.env := by rfl) (hpl : (backTo pos (starEach es X.env)).any (·.1) = false := by rfl) :
    PxE X E np (.Call (.Name x p) (e :: es) [] pos) (eIo g mp me) (tCall (spI X.K 1 g) [] E (tCons tp te)) := ⟨pe_call F hr hg hm hk hb .nil hx (pa_cons hP.pe hA.pa he) hdb he hpl, simE_io hP.sim hA.sim⟩
theorem pxe_meth {pl : Sem Bool} (hP : PxP X a mp tp) (cc : Cls X.K (He.ga X.K cl)) (hm : Meth X.K (He.ga X.K cl) n f) (F : FnOk X.prog X.w X.K X.mg X.base CX k f fd ps (spI X.K 1 g)) (hr : Room k X.A) (hb : Binds X.K fd ps []) (hx : Passes CX X E)
    (hA : PxA X E (e :: es) me te)
    (hst : starEach (e :: es) X.env = (false, eval e X.env) :: starEach es X.env := by rfl) (hpl : (backTo pos (starEach es X.env)).any (·.1) = false := by rfl)
    (ht : eval (.Call (.Attribute a n apos) (e :: es) [] pos) X.env = (do
      let ov ← eval a X.env
      standAt apos.atName
      let (f, first) ← holding [ov] (getMethod ov n pl)
      callWith pos f first (backTo pos (starEach (e :: es) X.env)) (backToKw pos (keywordEach [] X.env))) := by rfl) :
    PxE X E np (.Call (.Attribute a n apos) (e :: es) [] pos) (eIoM cl n g mp me) (tMeth (He.ga X.K cl) n (spI X.K 1 g) [] E tp te) := ⟨pe_meth (pl := pl) hP.pe cc hm F hr hb .nil hx hA.pa hst hpl ht, simE_meth hP.sim hA.sim⟩
theorem pxe_cmp {op : CmpOp} {f : List Sl → Option Sl} (ho : OpD X (compareOp op) f) (ha : PxE X E np a ma ta) (hb : Px X E b mb tb) (hm : behindInMarks op b = false) : PxE X E np (.Compare a [op] [b] pos) (eOpE f ma mb) (tOp (fun x y H Q => Prm X.K f [x, y] H Q) ta tb) := ⟨pe_cmpR ho ha.pe hb.pe hm, simE_op ha.sim hb.sim⟩
theorem pxTE_cmp {op : CmpOp} {f : List Sl → Option Sl} (ho : OpD X (compareOp op) f) (ha : PxE X E np a ma ta) (hb : Px X E b mb tb) (hm : behindInMarks op b = false) : PxTE X E np (.Compare a [op] [b] pos) (eTE (eOpE f ma mb)) (tTest (tOp (fun x y H Q => Prm X.K f [x, y] H Q) ta tb)) := ⟨pt_cmpR ho ha.pe hb.pe hm, simTE_of (simE_op ha.sim hb.sim)⟩
theorem pxTE_val (ha : PxE X E np a ma ta) (he : ∀ whole, isTrue a X.env whole = (do let v ← whole; standAt a.pos; holding [v] (truthy v)) := by intro _; rfl) : PxTE X E np a (eTE ma) (tTest ta) := ⟨pt_val ha.pe he, simTE_of ha.sim⟩
theorem pxTE_pure {m : MrT} {t : TT} (h : PxT X E a m t) : PxTE X E np a (eTP m) t := ⟨h.pt, simTE_pure h.sim⟩
theorem pxTE_not (h : PxTE X E np a mc tc) : PxTE X E np (.UnaryOp .Not a pos) (eNotE mc) (tNot tc) := ⟨pt_not h.pt, simTE_not h.sim⟩
theorem pxWE_and1 (h : PxTE X E np a mc tc) : PxWE X E np (.BoolOp .And [a] pos) mc tc := ⟨pw_and1 h.pt, h.sim⟩
theorem pxWE_or1 (h : PxTE X E np a mc tc) : PxWE X E np (.BoolOp .Or [a] pos) mc tc := ⟨pw_or1 h.pt, h.sim⟩
theorem pxWE_and (h : PxTE X E np a mc tc) (h' : PxWE X E np (.BoolOp .And (b :: es) pos) mc' tc') : PxWE X E np (.BoolOp .And (a :: b :: es) pos) (eAndE mc mc') (tAnd tc tc') := ⟨pw_and h.pt h'.pw, simTE_and h.sim h'.sim⟩
theorem pxWE_or (h : PxTE X E np a mc tc) (h' : PxWE X E np (.BoolOp .Or (b :: es) pos) mc' tc') : PxWE X E np (.BoolOp .Or (a :: b :: es) pos) (eOrE mc mc') (tOr tc tc') := ⟨pw_or h.pt h'.pw, simTE_or h.sim h'.sim⟩
theorem PxWE.t (h : PxWE X E np e mc tc) : PxTE X E np e mc tc := ⟨h.pw.pt, h.sim⟩
theorem pxe_if {m : MrT} {t : TT} {mb' : MrE} (hc : PxT X E c m t) (ha : PxE X E np a ma ta) (hb : PxE X E np b mb' tb) : PxE X E np (.IfExp c a b pos) (eIfE m ma mb') (tIf t ta tb) := ⟨pe_ifExp hc.pt ha.pe hb.pe, simE_if hc.sim ha.sim hb.sim⟩
theorem pxs_expE (he : PxE X E np e ma ta) (hs : swapsWith e none pos.line X.env = pure false := by rfl) : PxS X E np (.Expr e pos) (sExpE ma) (tDrop ta) := ⟨ps_expr he.pe hs, simS_expE he.sim⟩
theorem pxs_retE (he : PxE X E np e ma ta) : PxS X E np (.Return (some e) pos) (sRetE ma) (tRet ta) := ⟨ps_ret he.pe, simS_retE he.sim⟩
theorem pxs_asgE {i : Nat} {pos' : Pos} (hN : X.N.Nodup) (hi : X.N[i]? = some x) (hx : Loc X.env.scope x) (he : PxE X E np e ma ta) (hnp : np ≤ i := by decide) (hs : swapsWithSole [.Name x pos'] e pos.line X.env = pure false := by rfl) (hw : swappedStores [.Name x pos'] e X.env = pure none := by rfl) (hf : X.fn x = true ∨ X.env.scope.names.lookup x = some .local := by first | exact .inl rfl | exact .inr rfl | assumption) :
    PxS X E np (.Assign [.Name x pos'] e pos) (sAsgE i ma) (tAsg ta (gName i)) := ⟨ps_asg he.pe (pg_name hN hi hx hf) hs hw, simS_asgE hnp he.sim⟩
theorem pxs_ifE {body els : List Stmt} {m m' : MrS} {t u : TS} (hc : PxTE X E np c mc tc) (h : PxSs X E np body m t) (h' : PxSs X E np els m' u) : PxS X E np (.If c body els pos) (sIfE mc m m') (tIfS tc t u) := ⟨ps_if hc.pt h.ps h'.ps, simS_ifE hc.sim h.sim h'.sim⟩
end
end Pf

/-! Pf31: lists and dicts at places changed: append, d[k] = v, d.pop(k). -/
namespace Pf
open PySem L2
section
variable {K : PySem.W.Frag} {E : XK} {np : Nat} {B : Bs} {F H : Hp} {σ : L2.St} {Γ : Gm}
theorem place_at {pl : Option (Nat × List Nat)} {i : Nat} {p : List Nat} {s' : Sl} (e1 : pl = some (i, p)) (e2 : atG Γ pl = some ⟨.own, s'⟩) : ∃ s, Γ[i]? = some (some ⟨.own, s⟩) ∧ subT s p = some s' := by
  subst e1
  have e2' := e2
  unfold atG at e2
  dsimp only at e2
  rw [← gt_eq] at e2
  split at e2
  · rename_i r q
    obtain ⟨h1, h2⟩ := atG_of q e2'
    obtain ⟨fl, s⟩ := r
    have h1 : fl = .own := h1
    subst h1
    exact ⟨s, q, h2⟩
  · cases e2
def appP (Γ : Gm) (pl : Option (Nat × List Nat)) (o : Option Rv) (z : Rz Rv) : Oz := match pl, o with
  | some (i, p), some ⟨.own, .node .L xs⟩ => (match z with
    | .ok ⟨.own, s⟩ => if xs.length < most then .nx (setG Γ i p (.node .L (xs ++ [s]))) else .no
    | .er c => .er c Γ
    | _ => .no)
  | _, _ => .no
def sAppP (pl : MrP) (m : Mr) : MrS := fun Γ => appP Γ (pl Γ) (atG Γ (pl Γ)) (m Γ)
theorem simS_appP {tp te : TE} {pl : MrP} {me : Mr} (hP : SimP K tp pl) (h : Sim K E te me) : SimS K E np (tDrop (tBM K "list" rAppend tp (tCons te tNil))) (sAppP pl me) := by
  intro B F H σ Γ D hp en p
  have p0 : PostS K B E D (appP Γ (pl Γ) (atG Γ (pl Γ)) (me Γ)) := p
  have key : ∀ (i : Nat) (pa : List Nat) (xs : List Sl), pl Γ = some (i, pa) → atG Γ (pl Γ) = some ⟨.own, .node .L xs⟩ → (tDrop (tBM K "list" rAppend tp (tCons te tNil))) D σ H := by
    intro i pa xs e1 e2
    rw [e2, e1] at p0
    obtain ⟨s0, es, hs⟩ := place_at e1 e2
    obtain ⟨v, a, o, vs, fp, hv, at_, ha, sh, t, nd, k⟩ := en.place es hs
    have sh : o = .lst vs := sh
    subst sh
    refine hP H σ Γ _ i pa _ v _ _ e1 es hv at_ ⟨Or.inl ⟨rfl, _, SqL.of ha⟩, ?_⟩
    refine h.stm en (fun c q => by rw [q] at p0; exact fun F' H' en' => p0 F' H' σ en') (fun q => by rw [q] at p0; exact p0) fun r w F' H' fq q st ro nw => ?_
    rw [q] at p0
    obtain ⟨fl, s⟩ := r
    cases fl with
    | par => exact p0.elim
    | bor => exact p0.elim
    | own =>
      have p1 : PostS K B E D (if xs.length < most then .nx (setG Γ i pa (.node .L (xs ++ [s]))) else .no) := p0
      by_cases hl : xs.length < most
      · rw [if_pos hl, setG_eq es] at p1
        have oy : Ow K F' H' w s fq := ro
        refine ⟨a, vs, w, rfl, rfl, st.hh _ _ ha, by rw [owAll_len t]; exact Nat.lt_of_lt_of_le hl (most_ok (Nat.le_refl _)), p1 F' _ σ ?_⟩
        refine k F' H' (.lst (vs ++ [w])) .L (vs ++ [w]) (xs ++ [s]) (fp ++ fq) fq st nw rfl (owAll_snoc (owAll_mono st.ff t fun b _ o z => st.hh _ _ z) oy) ?_ (fun b m => List.mem_append.mp m)
        exact List.nodup_append.mpr ⟨nd, nw.nd, fun b m c m' z => by
          subst z
          exact owAll_dom t b m (nw.nh b m')⟩
      · rw [if_neg hl] at p1
        exact p1.elim
  cases hpl : pl Γ with
  | none =>
    rw [hpl] at p0
    exact p0.elim
  | some ip =>
    obtain ⟨i, pa⟩ := ip
    cases ho : atG Γ (pl Γ) with
    | none =>
      rw [ho, hpl] at p0
      exact p0.elim
    | some r =>
      rw [ho, hpl] at p0
      obtain ⟨fl, s⟩ := r
      cases fl with
      | par => exact p0.elim
      | bor => exact p0.elim
      | own =>
        cases s with
        | dat d => exact p0.elim
        | node kk xs =>
          cases kk with
          | L => exact key i pa xs hpl ho
          | _ => exact p0.elim
/-! dicts -/
def keyOf : PyData → Option Key
  | .int i => some (.inl i)
  | .str x => some (.inr x)
  | _ => none
theorem keyOf_v {F : Hp} {v : V} {d : PyData} {k : Key} (h : Dq F v d) (e : keyOf d = some k) : v = kV k := by
  cases h with
  | int i => cases e; rfl
  | str x => cases e; rfl
  | _ => cases e
def replK (k : Key) (s : Sl) : List Key → List Sl → List Sl
  | q :: ks, x :: xs => (if q = k then s else x) :: replK k s ks xs
  | _, _ => []
def putKs (ks : List Key) (xs : List Sl) (k : Key) (s : Sl) : List Key × List Sl := if (ks.any fun q => decide (q = k)) = true then (ks, replK k s ks xs) else (ks ++ [k], xs ++ [s])
def dropKs (k : Key) : List Key → List Sl → List Key × List Sl
  | q :: ks, x :: xs => if q = k then dropKs k ks xs else (q :: (dropKs k ks xs).1, x :: (dropKs k ks xs).2)
  | _, _ => ([], [])
theorem any_zip (k : Key) : ∀ {ks : List Key} {vs : List V}, ks.length = vs.length → ((ks.zip vs).any fun kv => decide (kv.1 = k)) = ks.any fun q => decide (q = k)
  | [], [], _ => rfl
  | q :: ks, v :: vs, h => by
    rw [List.zip_cons_cons, List.any_cons, List.any_cons, any_zip k (by simpa using h)]
theorem repl_ok {k : Key} {d : PyData} {y : V} (hy : Dq F y d) : ∀ {ks : List Key} {vs : List V} {xs : List Sl} {fp : List Addr}, OwAll K F H vs xs fp → ks.length = vs.length → fp.Nodup →
    ∃ vs' fq, (ks.zip vs).map (fun kv => if kv.1 = k then (kv.1, y) else kv) = ks.zip vs' ∧ ks.length = vs'.length ∧ OwAll K F H vs' (replK k (.dat d) ks xs) fq ∧ fq.Nodup ∧ ∀ a ∈ fq, a ∈ fp
  | [], _, _, _, .nil, _, nd => ⟨[], [], rfl, rfl, .nil, List.nodup_nil, fun _ m => m⟩
  | [], _, _, _, .cons _ _, hl, _ => by cases hl
  | q :: ks, _, _, _, .nil, hl, _ => by cases hl
  | q :: ks, _, _, _, .cons (v := v) (fp := f1) (fps := f2) h t, hl, nd => by
    obtain ⟨n1, n2, n3⟩ := List.nodup_append.mp nd
    obtain ⟨vs', fq, e1, e2, e3, e4, e5⟩ := repl_ok hy (ks := ks) t (by simpa using hl) n2
    by_cases hq : q = k
    · refine ⟨y :: vs', fq, ?_, by rw [List.length_cons, List.length_cons, e2], ?_, e4, fun a m => List.mem_append_right _ (e5 a m)⟩
      · rw [List.zip_cons_cons, List.map_cons, e1, List.zip_cons_cons, if_pos hq]
      · show OwAll K F H (y :: vs') ((if q = k then Sl.dat d else _) :: replK k (.dat d) ks _) fq
        rw [if_pos hq]
        exact OwAll.cons (fp := []) (.dat hy) e3
    · refine ⟨v :: vs', f1 ++ fq, ?_, by rw [List.length_cons, List.length_cons, e2], ?_, ?_, fun a m => ?_⟩
      · rw [List.zip_cons_cons, List.map_cons, e1, List.zip_cons_cons, if_neg hq]
      · show OwAll K F H (v :: vs') ((if q = k then Sl.dat d else _) :: replK k (.dat d) ks _) (f1 ++ fq)
        rw [if_neg hq]
        exact .cons h e3
      · exact List.nodup_append.mpr ⟨n1, e4, fun a m b m2 z => n3 a m b (e5 b m2) z⟩
      · rcases List.mem_append.mp m with m | m
        · exact List.mem_append_left _ m
        · exact List.mem_append_right _ (e5 a m)
theorem drop_ok {k : Key} : ∀ {ks : List Key} {vs : List V} {xs : List Sl} {fp : List Addr}, OwAll K F H vs xs fp → ks.length = vs.length → fp.Nodup →
    ∃ vs' fq, dropK (ks.zip vs) k = (dropKs k ks xs).1.zip vs' ∧ (dropKs k ks xs).1.length = vs'.length ∧ OwAll K F H vs' (dropKs k ks xs).2 fq ∧ fq.Nodup ∧ ∀ a ∈ fq, a ∈ fp
  | [], _, _, _, .nil, _, nd => ⟨[], [], rfl, rfl, .nil, List.nodup_nil, fun _ m => m⟩
  | [], _, _, _, .cons _ _, hl, _ => by cases hl
  | q :: ks, _, _, _, .nil, hl, _ => by cases hl
  | q :: ks, _, _, _, .cons (v := v) (vs := vs) (ss := xs) (fp := f1) (fps := f2) h t, hl, nd => by
    obtain ⟨n1, n2, n3⟩ := List.nodup_append.mp nd
    obtain ⟨vs', fq, e1, e2, e3, e4, e5⟩ := drop_ok (k := k) (ks := ks) t (by simpa using hl) n2
    unfold dropKs
    unfold dropK at e1 ⊢
    by_cases hq : q = k
    · rw [if_pos hq]
      refine ⟨vs', fq, ?_, e2, e3, e4, fun a m => List.mem_append_right _ (e5 a m)⟩
      rw [List.zip_cons_cons, List.filter_cons_of_neg (by simp [hq]), e1]
    · rw [if_neg hq]
      refine ⟨v :: vs', f1 ++ fq, ?_, by simp only [List.length_cons, e2], .cons h e3, ?_, fun a m => ?_⟩
      · rw [List.zip_cons_cons, List.filter_cons_of_pos (by simp [hq]), e1, List.zip_cons_cons]
      · exact List.nodup_append.mpr ⟨n1, e4, fun a m b m2 z => n3 a m b (e5 b m2) z⟩
      · rcases List.mem_append.mp m with m | m
        · exact List.mem_append_left _ m
        · exact List.mem_append_right _ (e5 a m)
end
end Pf

/-! Pf32: d[k] = v and d.pop(k) at a place, o.f += k of a slot. -/
namespace Pf
open PySem L2
section
variable {K : PySem.W.Frag} {E : XK} {np : Nat} {B : Bs} {F H : Hp} {σ : L2.St} {Γ : Gm}
theorem putK_ok {k : Key} {d : PyData} {y : V} (hy : Dq F y d) {ks : List Key} {vs : List V} {xs : List Sl} {fp : List Addr} (t : OwAll K F H vs xs fp) (hl : ks.length = vs.length) (nd : fp.Nodup) :
    ∃ vs' fq, putK (ks.zip vs) k y = (putKs ks xs k (.dat d)).1.zip vs' ∧ (putKs ks xs k (.dat d)).1.length = vs'.length ∧ OwAll K F H vs' (putKs ks xs k (.dat d)).2 fq ∧ fq.Nodup ∧ ∀ a ∈ fq, a ∈ fp := by
  unfold putK putKs
  rw [any_zip k hl]
  by_cases h : (ks.any fun q => decide (q = k)) = true
  · rw [if_pos h, if_pos h]
    exact repl_ok hy t hl nd
  · rw [if_neg h, if_neg h]
    refine ⟨vs ++ [y], fp ++ [], ?_, by simp [hl], owAll_snoc t (.dat hy), by rw [List.append_nil]; exact nd, fun a m => by rw [List.append_nil] at m; exact m⟩
    rw [List.zip_append hl]
    rfl
theorem dat_dq {S : Addr → Prop} {v : V} {fl : Fl} {d : PyData} {fp : List Addr} (h : Rok K S F H v ⟨fl, .dat d⟩ fp) : Dq F v d := by
  obtain ⟨fz, o⟩ := h.ow
  have o : Ow K F H v (.dat d) fz := o
  cases o with
  | dat h => exact h
theorem EnvS.r0 (h : EnvS K B F H σ Γ) : EnvR K B F H σ Γ [] := by
  obtain ⟨f, a, b⟩ := h.ex
  exact ⟨h.st, h.len, h.pin, f, a, b, fun _ _ _ _ _ m => by cases m⟩
def dput3 (Γ : Gm) (i : Nat) (p : List Nat) (ks : List Key) (xs : List Sl) (d : PyData) (zk : Rz Rv) : Oz := match zk with
  | .ok ⟨_, .dat kd⟩ => (match keyOf kd with
    | some k => if ks.length < most then .nx (setG Γ i p (.node (.D (putKs ks xs k (.dat d)).1) (putKs ks xs k (.dat d)).2)) else .no
    | none => .no)
  | .er c => .er c Γ
  | _ => .no
def dput2 (Γ : Gm) (pl : Option (Nat × List Nat)) (o : Option Rv) (d : PyData) (zk : Rz Rv) : Oz := match pl, o with
  | some (i, p), some ⟨.own, .node (.D ks) xs⟩ => dput3 Γ i p ks xs d zk
  | _, _ => .no
def dput1 (Γ : Gm) (pl : Option (Nat × List Nat)) (o : Option Rv) (zv zk : Rz Rv) : Oz := match zv with
  | .ok ⟨_, .dat d⟩ => dput2 Γ pl o d zk
  | .er c => .er c Γ
  | _ => .no
def sDPutP (pl : MrP) (mk mv : Mr) : MrS := fun Γ => dput1 Γ (pl Γ) (atG Γ (pl Γ)) (mv Γ) (mk Γ)
theorem simS_dput {tp tk tv : TE} {pl : MrP} {mk mv : Mr} (hP : SimP K tp pl) (hk : Sim K E tk mk) (hv : Sim K E tv mv) : SimS K E np (sDPut tp tk tv) (sDPutP pl mk mv) := by
  intro B F H σ Γ D hp en p
  have p0 : PostS K B E D (dput1 Γ (pl Γ) (atG Γ (pl Γ)) (mv Γ) (mk Γ)) := p
  refine hv.stm en (fun c q => by rw [q] at p0; exact fun F' H' en' => p0 F' H' σ en') (fun q => by rw [q] at p0; exact p0) fun r w F1 H1 fq q st ro nw => ?_
  rw [q] at p0
  obtain ⟨fl, s⟩ := r
  cases s with
  | node kk xs => exact p0.elim
  | dat d =>
    have p1 : PostS K B E D (dput2 Γ (pl Γ) (atG Γ (pl Γ)) d (mk Γ)) := p0
    have hd := dat_dq ro
    have en1 := en.step st
    have key : ∀ (i : Nat) (pa : List Nat) (ks : List Key) (xs : List Sl), pl Γ = some (i, pa) → atG Γ (pl Γ) = some ⟨.own, .node (.D ks) xs⟩ → tp σ H1 fun x H2 => tk σ H2 fun y H3 => ∃ a H4, x = .ref a ∧ DPut H3 a y w H4 ∧ D.nx σ H4 := by
      intro i pa ks xs e1 e2
      rw [e2, e1] at p1
      have p2 : PostS K B E D (dput3 Γ i pa ks xs d (mk Γ)) := p1
      obtain ⟨s0, es, hs⟩ := place_at e1 e2
      obtain ⟨v, a, o, vs, fp, hv, at_, ha, sh, t, nd, k0⟩ := en1.place es hs
      obtain ⟨hl, rfl⟩ := sh
      refine hP H1 σ Γ _ i pa _ v _ _ e1 es hv at_ ?_
      refine hk.stm en1 (fun c q => by rw [q] at p2; exact fun F' H' en' => p2 F' H' σ en') (fun q => by rw [q] at p2; exact p2) fun r2 y F2 H2 f2 q2 st2 ro2 nw2 => ?_
      rw [q2] at p2
      obtain ⟨fl2, s2⟩ := r2
      cases s2 with
      | node _ _ => exact p2.elim
      | dat kd =>
        have p3 : PostS K B E D (match keyOf kd with | some k => if ks.length < most then .nx (setG Γ i pa (.node (.D (putKs ks xs k (.dat d)).1) (putKs ks xs k (.dat d)).2)) else .no | none => .no) := p2
        cases hkd : keyOf kd with
        | none =>
          rw [hkd] at p3
          exact p3.elim
        | some k =>
          rw [hkd] at p3
          have p3 : PostS K B E D (if ks.length < most then .nx (setG Γ i pa (.node (.D (putKs ks xs k (.dat d)).1) (putKs ks xs k (.dat d)).2)) else .no) := p3
          by_cases hm : ks.length < most
          · rw [if_pos hm, setG_eq es] at p3
            have ey := keyOf_v (dat_dq ro2) hkd
            obtain ⟨vs', fq', g1, g2, g3, g4, g5⟩ := putK_ok (K := K) (k := k) (dp_mono st2.ff hd) (owAll_mono st2.ff t fun b _ o z => st2.hh _ _ z) hl nd
            refine ⟨a, _, rfl, .inl ⟨_, k, st2.hh _ _ ha, ey, ?_, rfl⟩, p3 F2 _ σ (k0 F2 H2 _ _ vs' _ fq' [] st2 New.nil ⟨g2, by rw [g1]⟩ g3 g4 fun b m => .inl (g5 b m))⟩
            rw [List.length_zip, ← hl, Nat.min_self]
            exact Nat.lt_of_lt_of_le hm (most_ok (Nat.le_refl _))
          · rw [if_neg hm] at p3
            exact p3.elim
    cases hpl : pl Γ with
    | none =>
      rw [hpl] at p1
      exact p1.elim
    | some ip =>
      obtain ⟨i, pa⟩ := ip
      cases ho : atG Γ (pl Γ) with
      | none =>
        rw [ho, hpl] at p1
        exact p1.elim
      | some r =>
        rw [ho, hpl] at p1
        obtain ⟨fl, s⟩ := r
        cases fl with
        | par => exact p1.elim
        | bor => exact p1.elim
        | own =>
          cases s with
          | dat d => exact p1.elim
          | node kk xs =>
            cases kk with
            | D ks => exact key i pa ks xs hpl ho
            | _ => exact p1.elim
def dpop3 (Γ : Gm) (i : Nat) (p : List Nat) (ks : List Key) (xs : List Sl) (zk : Rz Rv) : Ez := match zk with
  | .ok ⟨_, .dat kd⟩ => (match keyOf kd with
    | some k => (match (idxK ks k).bind (xs[·]?) with
      | some (.dat d) => .ok ⟨.own, .dat d⟩ (setG Γ i p (.node (.D (dropKs k ks xs).1) (dropKs k ks xs).2))
      | _ => .no)
    | none => .no)
  | .er c => .er c Γ
  | _ => .no
def dpop2 (Γ : Gm) (pl : Option (Nat × List Nat)) (o : Option Rv) (zk : Rz Rv) : Ez := match pl, o with
  | some (i, p), some ⟨.own, .node (.D ks) xs⟩ => dpop3 Γ i p ks xs zk
  | _, _ => .no
def eDPop (pl : MrP) (mk : Mr) : MrE := fun Γ => dpop2 Γ (pl Γ) (atG Γ (pl Γ)) (mk Γ)
theorem owAll_get : ∀ {vs : List V} {xs : List Sl} {fp : List Addr} {j : Nat} {x : Sl}, OwAll K F H vs xs fp → xs[j]? = some x → ∃ v fz, vs[j]? = some v ∧ Ow K F H v x fz
  | _, _, _, _, _, .nil, e => by cases e
  | _, _, _, 0, _, .cons h _, e => by
    cases e
    exact ⟨_, _, rfl, h⟩
  | _, _, _, _ + 1, _, .cons _ t, e => by
    obtain ⟨v, fz, e1, o⟩ := owAll_get t (by simpa using e)
    exact ⟨v, fz, by simpa using e1, o⟩
theorem simE_dpop {tp tk : TE} {pl : MrP} {mk : Mr} (hP : SimP K tp pl) (hk : Sim K E tk mk) : SimE K E np (tDPop1 tp tk) (eDPop pl mk) := by
  intro B F H σ Γ Q hp en p
  have p1 : PostE K B E σ Q (dpop2 Γ (pl Γ) (atG Γ (pl Γ)) (mk Γ)) := p
  have key : ∀ (i : Nat) (pa : List Nat) (ks : List Key) (xs : List Sl), pl Γ = some (i, pa) → atG Γ (pl Γ) = some ⟨.own, .node (.D ks) xs⟩ → (tDPop1 tp tk) σ H Q := by
    intro i pa ks xs e1 e2
    rw [e2, e1] at p1
    have p2 : PostE K B E σ Q (dpop3 Γ i pa ks xs (mk Γ)) := p1
    obtain ⟨s0, es, hs⟩ := place_at e1 e2
    obtain ⟨v, a, o, vs, fp, hv, at_, ha, sh, t, nd, k0⟩ := en.place es hs
    obtain ⟨hl, rfl⟩ := sh
    refine hP H σ Γ _ i pa _ v _ _ e1 es hv at_ ⟨a, rfl, .inl ⟨_, .inl ha⟩, ?_⟩
    refine hk.stm en (fun c q => by rw [q] at p2; exact p2) (fun q => by rw [q] at p2; exact p2) fun r2 y F2 H2 f2 q2 st2 ro2 nw2 => ?_
    rw [q2] at p2
    obtain ⟨fl2, s2⟩ := r2
    cases s2 with
    | node _ _ => exact p2.elim
    | dat kd =>
      have p3 : PostE K B E σ Q (match keyOf kd with | some k => (match (idxK ks k).bind (xs[·]?) with | some (.dat d) => .ok ⟨.own, .dat d⟩ (setG Γ i pa (.node (.D (dropKs k ks xs).1) (dropKs k ks xs).2)) | _ => .no) | none => .no) := p2
      cases hkd : keyOf kd with
      | none =>
        rw [hkd] at p3
        exact p3.elim
      | some k =>
        rw [hkd] at p3
        have p3 : PostE K B E σ Q (match (idxK ks k).bind (xs[·]?) with | some (.dat d) => .ok ⟨.own, .dat d⟩ (setG Γ i pa (.node (.D (dropKs k ks xs).1) (dropKs k ks xs).2)) | _ => .no) := p3
        cases hj : idxK ks k with
        | none =>
          rw [hj] at p3
          exact p3.elim
        | some j =>
          rw [hj] at p3
          have p3 : PostE K B E σ Q (match xs[j]? with | some (.dat d) => .ok ⟨.own, .dat d⟩ (setG Γ i pa (.node (.D (dropKs k ks xs).1) (dropKs k ks xs).2)) | _ => .no) := p3
          cases hx : xs[j]? with
          | none =>
            rw [hx] at p3
            exact p3.elim
          | some x =>
            rw [hx] at p3
            cases x with
            | node _ _ => exact p3.elim
            | dat d =>
              have p3 : PostE K B E σ Q (.ok ⟨.own, .dat d⟩ (setG Γ i pa (.node (.D (dropKs k ks xs).1) (dropKs k ks xs).2))) := p3
              rw [setG_eq es] at p3
              obtain ⟨w, fz, hw, ow⟩ := owAll_get t hx
              cases ow with
              | dat hd =>
                have ey := keyOf_v (dat_dq ro2) hkd
                obtain ⟨vs', fq', g1, g2, g3, g4, g5⟩ := drop_ok (K := K) (k := k) (owAll_mono st2.ff t fun b _ o z => st2.hh _ _ z) hl nd
                have en3 := k0 F2 H2 (.dK (dropK (ks.zip vs) k)) (.D (dropKs k ks xs).1) vs' _ fq' [] st2 New.nil ⟨g2, by rw [g1]⟩ g3 g4 fun b m => .inl (g5 b m)
                exact ⟨_, k, w, st2.hh _ _ ha, ey, idxK_look hl hj hw, p3 w F2 _ [] en3.r0 ⟨.dat (dp_mono st2.ff hd), List.nodup_nil, fun _ m => by cases m⟩⟩
  cases hpl : pl Γ with
  | none =>
    rw [hpl] at p1
    exact p1.elim
  | some ip =>
    obtain ⟨i, pa⟩ := ip
    cases ho : atG Γ (pl Γ) with
    | none =>
      rw [ho, hpl] at p1
      exact p1.elim
    | some r =>
      rw [ho, hpl] at p1
      obtain ⟨fl, s⟩ := r
      cases fl with
      | par => exact p1.elim
      | bor => exact p1.elim
      | own =>
        cases s with
        | dat d => exact p1.elim
        | node kk xs =>
          cases kk with
          | D ks => exact key i pa ks xs hpl ho
          | _ => exact p1.elim
end
end Pf

/-! Pf33: dicts read: len, list, values, d[k], k in d. -/
namespace Pf
open PySem L2
def keyD : Key → PyData
  | .inl i => .int i
  | .inr x => .str x
def pLenD : List Sl → Option Sl
  | [.node (.D ks) _] => some (.dat (.int ks.length))
  | _ => none
def pListD : List Sl → Option Sl
  | [.node (.D ks) _] => some (newL (ks.map keyD))
  | _ => none
def pValsD : List Sl → Option Sl
  | [.node (.D _) xs] => (datAll xs).map newL
  | _ => none
def pGetD : List Sl → Option Sl
  | [.node (.D ks) xs, .dat kd] => (keyOf kd).bind fun k => (idxK ks k).bind fun j => match xs[j]? with
    | some (.dat d) => some (.dat d)
    | _ => none
  | _ => none
def pInD : List Sl → Option Sl
  | [.dat kd, .node (.D ks) _] => (keyOf kd).map fun k => .dat (.bool (idxK ks k).isSome)
  | _ => none
def pNotInD : List Sl → Option Sl
  | [.dat kd, .node (.D ks) _] => (keyOf kd).map fun k => .dat (.bool (!(idxK ks k).isSome))
  | _ => none
section
variable {K : PySem.W.Frag} {E : XK} {F H : Hp} {X : Cx}
theorem ow_dict {v : V} {ks : List Key} {xs : List Sl} {fp : List Addr} (o : Ow K F H v (.node (.D ks) xs) fp) : ∃ a vs fq, v = .ref a ∧ H a = some (.dK (ks.zip vs)) ∧ ks.length = vs.length ∧ OwAll K F H vs xs fq := by
  cases o with
  | node ha sh t =>
    obtain ⟨hl, rfl⟩ := sh
    exact ⟨_, _, _, rfl, ha, hl, t⟩
theorem key_dq (k : Key) : Dq F (kV k) (keyD k) := by
  cases k with
  | inl i => exact .int i
  | inr x => exact .str x
theorem keys_dq : ∀ ks : List Key, DqAll F (ks.map kV) (ks.map keyD)
  | [] => .nil
  | k :: ks => .cons (key_dq k) (keys_dq ks)
theorem zip_keys {ks : List Key} {vs : List V} (h : ks.length = vs.length) : ((ks.zip vs).map fun kv => kV kv.1) = ks.map kV := by
  have e : (ks.zip vs).map (·.1) = ks := List.map_fst_zip (by omega)
  have e2 : ((ks.zip vs).map (·.1)).map kV = (ks.zip vs).map fun kv => kV kv.1 := by
    rw [List.map_map]
    rfl
  rw [← e2, e]
theorem zip_vals {ks : List Key} {vs : List V} (h : ks.length = vs.length) : (ks.zip vs).map (·.2) = vs := List.map_snd_zip (by omega)
theorem cd_lenD : CallD X (.builtin "len") pLenD := by
  refine CallR.via fun xs H Q q => ⟨_, call_lenD, ?_⟩
  obtain ⟨F, ss, s, e, ol, fs, k⟩ := q
  unfold pLenD at fs
  split at fs
  · rename_i ks ys
    cases fs
    cases ol with
    | cons fa oa t =>
      cases t
      obtain ⟨a, vs, fq, rfl, ha, hl, _⟩ := ow_dict oa
      refine ⟨a, _, rfl, ha, ?_⟩
      rw [List.length_zip, ← hl, Nat.min_self]
      exact k _ F H [] (Step.refl e) (.dat (.int _)) New.nil
  · cases fs
theorem cd_listD (hc : X.calm = true) : CallD X (.type "list") pListD := by
  refine CallR.via fun xs H Q q => ⟨_, call_list_dK hc, ?_⟩
  obtain ⟨F, ss, s, e, ol, fs, k⟩ := q
  unfold pListD at fs
  split at fs
  · rename_i ks ys
    cases fs
    cases ol with
    | cons fa oa t =>
      cases t
      obtain ⟨a, vs, fq, rfl, ha, hl, _⟩ := ow_dict oa
      refine ⟨a, _, rfl, ha, fun p hp => ?_⟩
      rw [zip_keys hl]
      obtain ⟨s1', s2', s3'⟩ := new_list (K := X.K) e hp (keys_dq ks)
      exact k _ F _ [p] s1' s2' s3'
  · cases fs
/-- list(e.values()) -/
theorem prm_vals {x : V} {Q : VK} (h : Prm K pValsD [x] H Q) : ∃ d kvs, x = .ref d ∧ H d = some (.dK kvs) ∧ ∀ p, H p = none → Q (.ref p) (upd H p (.lst (kvs.map (·.2)))) := by
  obtain ⟨F, ss, s, e, ol, fs, k⟩ := h
  unfold pValsD at fs
  split at fs
  · rename_i ks ys
    cases q : datAll ys with
    | none =>
      rw [q] at fs
      cases fs
    | some ds =>
      rw [q] at fs
      cases fs
      cases ol with
      | cons fa oa t =>
        cases t
        obtain ⟨a, vs, fq, rfl, ha, hl, t⟩ := ow_dict oa
        refine ⟨a, _, rfl, ha, fun p hp => ?_⟩
        rw [zip_vals hl]
        obtain ⟨s1, s2, s3⟩ := new_list (K := K) e hp (datAll_dp t q)
        exact k _ F _ [p] s1 s2 s3
  · cases fs
theorem kv_at {kvs : List (Key × V)} {vs : List (Key × Value)} (r : KV kvs vs) : ∀ {i : Nat} {k : Key} {v : Value}, vs[i]? = some (k, v) → ∃ x, kvs[i]? = some (k, x) ∧ RelV x v := by
  induction r with
  | nil =>
    intro i k v h
    cases h
  | cons h _ ih =>
    intro i k v e
    cases i with
    | zero =>
      cases e
      rename_i p _ _ _
      obtain ⟨pk, px⟩ := p
      obtain ⟨h1, h2⟩ := h
      have h1 : pk = k := h1
      subst h1
      exact ⟨px, rfl, h2⟩
    | succ i => exact ih e
theorem pe_listVals {e : Expr} {te : TE} {p apos cpos pos : Pos} (hc : X.calm = true) (he : PE X e te) (hg : Gl X "list") (hm : X.mg "list" = none) (hv : bootBuiltins "list" = some (.type "list")) (hbase : attributeBase e "values" X.env (eval e X.env) = eval e X.env := by rfl) (hline : (apos.endLine == cpos.line) = true := by rfl)
    (hs : starEach [.Call (.Attribute e "values" apos) [] [] cpos] X.env = (false, eval (.Call (.Attribute e "values" apos) [] [] cpos) X.env) :: starEach [] X.env := by rfl) :
    PE X (.Call (.Name "list" p) [.Call (.Attribute e "values" apos) [] [] cpos] [] pos) (tUn (fun x H Q => Prm X.K pValsD [x] H Q) te) := by
  constructor
  intro pins s σ H Q I hq
  refine wpAny_Call_Name_kw (ld_blt I hg hm hv (PyProof.Rows.callWith_type1 ?_ hs rfl))
  rw [hs]
  refine Calls.spliced_cons (wpAny_Call_method (T := "dict") (id := "dict.values") hbase rfl hline F.plainAttrs_dict F.slot_dict_values F.type_dict_values (thn (he.run pins s σ H _ I hq) ?_))
  rintro u s1 ⟨x, H1, I1, rx, pr⟩
  obtain ⟨d, kvs, rfl, hd, q⟩ := prm_vals pr
  have eu : u = Value.ref d := rx
  subst eu
  obtain ⟨hz, hs0, vs, kv, hdo⟩ := I1.hok d _ hd
  obtain ⟨ep, hat⟩ := hdo.dictAt
  have lk : kvs.length = vs.length := Paired.length kv
  refine ⟨hdo.typeIs, hdo.mapOf.noDict, ?_⟩
  show wpAny _ _ (callWith cpos (.builtin "dict.values") [.ref d] [] []) _ X.xe s1
  refine method_meetsIn F.slot_dict_values F.entry_dict_values rfl (PySem.evalArgs_none ⟨rfl, hdo.typeIs, F.args_dict_values_1 _, _, meets_dict_values (mixKind X.prog X.w) d hs0, ⟨vs, hdo⟩, Calls.spliced_nil ?_⟩)
  have I2 : Inv X pins σ H1 { s1 with heap := s1.heap.push { cls := .type "dict_values", data := .fields #[.ref d] } } := I1.kept (t' := s1.toks) fun b ob w => Heap.get?_push_of_some _ w
  refine PySem.W.kdl_call (PySem.W.kdl_values (knd := mixKind X.prog X.w) (kvs := vs) (ep := ep) (r := s1.heap.objs.size) (d := d)) (I1.ok.hd hc) ⟨⟨_, Heap.get?_push_size _ rfl, rfl, rfl⟩, hat.push _⟩ (by omega) ?_
  intro h' tk acc c hk hS hacc
  refine ⟨.ref _, upd H1 _ (.lst (kvs.map (·.2))), I2.laid hk (Nat.le_refl _) (show ObjOk X.prog X.w _ _ _ (.lst (kvs.map (·.2))) from ⟨?_, acc.toList, c, ?_, ?_⟩), rfl, q _ (I2.hok.fresh (Nat.le_refl _))⟩
  · rw [List.length_map]
    exact hz
  · have el : acc.toList.length = acc.size := by simp
    refine vals_of_at (by rw [List.length_map, el, hacc.1, lk]) fun j y z h1 h2 => ?_
    obtain ⟨k, hky⟩ := hacc.2 j z (by rw [← Array.getElem?_toList]; exact h2)
    obtain ⟨x, hx, rv⟩ := kv_at kv hky
    rw [List.getElem?_map, hx] at h1
    cases h1
    exact rv
  · rw [Array.toArray_toList]
    exact hS
end
end Pf

/-! Pf34: d[k], k in d; the rules for dicts. -/
namespace Pf
open PySem L2
section
variable {K : PySem.W.Frag} {E : XK} {np : Nat} {F H : Hp}
theorem sim_dget {ta tb : TE} {ma mb : Mr} (ha : Sim K E ta ma) (hb : Sim K E tb mb) : Sim K E (tDGet ta tb) (eOp2 pGetD ma mb) := by
  intro S F H σ Γ Q e en p
  refine ha.bind e en p fun r x F1 H1 fp q st ro nw => ?_
  have p1 : Post K S E Q F1 H1 ((mb Γ).bind fun y => fin (pGetD [r.s, y.s])) := by
    have p2 : Post K S E Q F H ((ma Γ).bind fun x => (mb Γ).bind fun y => fin (pGetD [x.s, y.s])) := p
    rw [q] at p2
    exact Post.up st p2
  refine hb.bind st.fh (en.step st.ff st.hh) p1 fun r2 y F2 H2 fq q2 st2 ro2 nw2 => ?_
  have p3 : Post K S E Q F2 H2 (fin (pGetD [r.s, r2.s])) := by
    rw [q2] at p1
    exact Post.up st2 p1
  obtain ⟨f1, o1⟩ := (ro.step st2.ff st2.hh).ow
  obtain ⟨f2, o2⟩ := ro2.ow
  obtain ⟨fl, s⟩ := r
  obtain ⟨fl2, s2⟩ := r2
  cases hg : pGetD [s, s2] with
  | none =>
    have p3 : Post K S E Q F2 H2 (fin (pGetD [s, s2])) := p3
    rw [hg] at p3
    exact p3.elim
  | some t =>
    have p3 : Post K S E Q F2 H2 (fin (pGetD [s, s2])) := p3
    rw [hg] at p3
    unfold pGetD at hg
    split at hg
    · rename_i ks xs kd heq
      cases heq
      have o1 : Ow K F2 H2 x (.node (.D ks) xs) f1 := o1
      have o2 : Ow K F2 H2 y (.dat kd) f2 := o2
      obtain ⟨a, vs, fz, rfl, h1, hl, t1⟩ := ow_dict o1
      cases o2 with
      | dat hd =>
        cases hk : keyOf kd with
        | none =>
          rw [hk] at hg
          cases hg
        | some k =>
          rw [hk] at hg
          cases hj : idxK ks k with
          | none =>
            have hg : (idxK ks k).bind (fun j => match xs[j]? with | some (.dat d) => some (Sl.dat d) | _ => none) = some t := hg
            rw [hj] at hg
            cases hg
          | some j =>
            have hg : (idxK ks k).bind (fun j => match xs[j]? with | some (.dat d) => some (Sl.dat d) | _ => none) = some t := hg
            rw [hj] at hg
            have hg : (match xs[j]? with | some (.dat d) => some (Sl.dat d) | _ => none) = some t := hg
            split at hg
            · rename_i d hx
              cases hg
              obtain ⟨w, fw, hw, ow⟩ := owAll_get t1 hx
              cases ow with
              | dat hdw =>
                have g := DGet.k (k := k) h1
                rw [idxK_look hl hj hw] at g
                refine ⟨a, w, rfl, ?_, p3 w F2 H2 [] (Step.refl st2.fh) (.dat hdw) New.nil⟩
                rw [keyOf_v hd hk]
                exact g
            · cases hg
    · cases hg
theorem idxK_none : ∀ {ns : List Key} {vs : List V} {f : Key}, idxK ns f = none → valV (ns.zip vs) f = none
  | [], _, _, _ => rfl
  | _ :: _, [], _, _ => rfl
  | n :: ns, v :: vs, f, e => by
    unfold idxK at e
    unfold valV
    rw [List.zip_cons_cons, List.find?_cons]
    by_cases h : n = f
    · rw [if_pos h] at e
      cases e
    · rw [if_neg h] at e
      cases q : idxK ns f with
      | none =>
        have := idxK_none (vs := vs) q
        unfold valV at this
        simp only [h, decide_false]
        exact this
      | some l =>
        rw [q] at e
        cases e
theorem idxK_lt : ∀ {ns : List Key} {f : Key} {j : Nat}, idxK ns f = some j → j < ns.length
  | [], _, _, e => by cases e
  | n :: ns, f, j, e => by
    unfold idxK at e
    by_cases h : n = f
    · rw [if_pos h] at e
      cases e
      simp
    · rw [if_neg h] at e
      cases q : idxK ns f with
      | none =>
        rw [q] at e
        cases e
      | some l =>
        rw [q] at e
        cases e
        have := idxK_lt q
        simp
        omega
theorem idxK_is {ks : List Key} {vs : List V} {k : Key} (hl : ks.length = vs.length) : (valV (ks.zip vs) k).isSome = (idxK ks k).isSome := by
  cases h : idxK ks k with
  | none => rw [idxK_none h]; rfl
  | some j =>
    have hj := idxK_lt h
    rw [idxK_look hl h (List.getElem?_eq_getElem (by omega))]
    rfl
/-- a key and a dict: what the mirror's word gives -/
theorem din_some {S : Addr → Prop} {Q : VK} {f : List Sl → Option Sl} {g : Bool → Bool} (hf : ∀ a b s, f [a, b] = some s → ∃ kd ks xs k, a = .dat kd ∧ b = .node (.D ks) xs ∧ keyOf kd = some k ∧ s = .dat (.bool (g (idxK ks k).isSome))) {x y : V} {r r2 : Rv} {f1 f2 : List Addr} (e : Same F H) (o1 : Ow K F H y r.s f1) (o2 : Ow K F H x r2.s f2) (p : Post K S E Q F H (fin (f [r.s, r2.s]))) :
    ∃ a o, x = .ref a ∧ DGet H a y o ∧ Q (.bl (g o.isSome)) H := by
  cases hg : f [r.s, r2.s] with
  | none =>
    rw [hg] at p
    exact p.elim
  | some t =>
    rw [hg] at p
    obtain ⟨kd, ks, xs, k, e1, e2, hk, rfl⟩ := hf _ _ _ hg
    rw [e1] at o1
    rw [e2] at o2
    obtain ⟨a, vs, fz, rfl, h1, hl, t1⟩ := ow_dict o2
    cases o1 with
    | dat hd =>
      refine ⟨a, _, rfl, by rw [keyOf_v hd hk]; exact DGet.k (k := k) h1, ?_⟩
      rw [idxK_is hl]
      exact p _ F H [] (Step.refl e) (.dat (.bl _)) New.nil
theorem sim_din {ta tb : TE} {ma mb : Mr} (ha : Sim K E ta ma) (hb : Sim K E tb mb) : Sim K E (tDIn ta tb) (eOp2 pInD ma mb) := by
  intro S F H σ Γ Q e en p
  refine ha.bind e en p fun r x F1 H1 fp q st ro nw => ?_
  have p1 : Post K S E Q F1 H1 ((mb Γ).bind fun y => fin (pInD [r.s, y.s])) := by
    have p2 : Post K S E Q F H ((ma Γ).bind fun x => (mb Γ).bind fun y => fin (pInD [x.s, y.s])) := p
    rw [q] at p2
    exact Post.up st p2
  refine hb.bind st.fh (en.step st.ff st.hh) p1 fun r2 y F2 H2 fq q2 st2 ro2 nw2 => ?_
  have p3 : Post K S E Q F2 H2 (fin (pInD [r.s, r2.s])) := by
    rw [q2] at p1
    exact Post.up st2 p1
  obtain ⟨f1, o1⟩ := (ro.step st2.ff st2.hh).ow
  obtain ⟨f2, o2⟩ := ro2.ow
  refine din_some (g := id) (f := pInD) (fun a b s h => ?_) st2.fh o1 o2 p3
  unfold pInD at h
  split at h
  · rename_i kd ks xs heq
    cases heq
    cases hk : keyOf kd with
    | none =>
      rw [hk] at h
      cases h
    | some k =>
      rw [hk] at h
      cases h
      exact ⟨kd, ks, xs, k, rfl, rfl, hk, rfl⟩
  · cases h
theorem sim_dnotin {ta tb : TE} {ma mb : Mr} (ha : Sim K E ta ma) (hb : Sim K E tb mb) : Sim K E (tDNotIn ta tb) (eOp2 pNotInD ma mb) := by
  intro S F H σ Γ Q e en p
  refine ha.bind e en p fun r x F1 H1 fp q st ro nw => ?_
  have p1 : Post K S E Q F1 H1 ((mb Γ).bind fun y => fin (pNotInD [r.s, y.s])) := by
    have p2 : Post K S E Q F H ((ma Γ).bind fun x => (mb Γ).bind fun y => fin (pNotInD [x.s, y.s])) := p
    rw [q] at p2
    exact Post.up st p2
  refine hb.bind st.fh (en.step st.ff st.hh) p1 fun r2 y F2 H2 fq q2 st2 ro2 nw2 => ?_
  have p3 : Post K S E Q F2 H2 (fin (pNotInD [r.s, r2.s])) := by
    rw [q2] at p1
    exact Post.up st2 p1
  obtain ⟨f1, o1⟩ := (ro.step st2.ff st2.hh).ow
  obtain ⟨f2, o2⟩ := ro2.ow
  refine din_some (g := fun b => !b) (f := pNotInD) (fun a b s h => ?_) st2.fh o1 o2 p3
  unfold pNotInD at h
  split at h
  · rename_i kd ks xs heq
    cases heq
    cases hk : keyOf kd with
    | none =>
      rw [hk] at h
      cases h
    | some k =>
      rw [hk] at h
      cases h
      exact ⟨kd, ks, xs, k, rfl, rfl, hk, rfl⟩
  · cases h
end
section
variable {X : Cx} {E : XK} {np : Nat} {a b e : Expr} {ma mb : Mr} {ta tb : TE} {pos p apos cpos pos' : Pos} {mp : MrP} {tp : TE}
theorem px_dget (hu : X.A.units + 1 < cLine) (ha : Px X E a ma ta) (hb : Px X E b mb tb) (hs : NoSl b := by intro _ _; rfl) : Px X E (.Subscript a b pos) (eOp2 pGetD ma mb) (tDGet ta tb) := ⟨pe_dget hu ha.pe hb.pe hs, sim_dget ha.sim hb.sim⟩
theorem px_din (hu : X.A.units + 1 < cLine) (ha : Px X E a ma ta) (hb : Px X E b mb tb) (h1 : behindInMarks .In b = false := by rfl) : Px X E (.Compare a [.In] [b] pos) (eOp2 pInD ma mb) (tDIn ta tb) := ⟨pe_cmp (pc_din hu ha.pe hb.pe) h1, sim_din ha.sim hb.sim⟩
theorem pxT_din (hu : X.A.units + 1 < cLine) (ha : Px X E a ma ta) (hb : Px X E b mb tb) (h1 : behindInMarks .In b = false := by rfl) : PxT X E (.Compare a [.In] [b] pos) (eT (eOp2 pInD ma mb)) (tB (tDIn ta tb)) := ⟨pt_cmp (pc_din hu ha.pe hb.pe) h1, simT_of (sim_din ha.sim hb.sim)⟩
theorem px_dnotin (hu : X.A.units + 1 < cLine) (ha : Px X E a ma ta) (hb : Px X E b mb tb) (h1 : behindInMarks .NotIn b = false := by rfl) : Px X E (.Compare a [.NotIn] [b] pos) (eOp2 pNotInD ma mb) (tDNotIn ta tb) := ⟨pe_cmp (pc_dnotin hu ha.pe hb.pe) h1, sim_dnotin ha.sim hb.sim⟩
theorem pxT_dnotin (hu : X.A.units + 1 < cLine) (ha : Px X E a ma ta) (hb : Px X E b mb tb) (h1 : behindInMarks .NotIn b = false := by rfl) : PxT X E (.Compare a [.NotIn] [b] pos) (eT (eOp2 pNotInD ma mb)) (tB (tDNotIn ta tb)) := ⟨pt_cmp (pc_dnotin hu ha.pe hb.pe) h1, simT_of (sim_dnotin ha.sim hb.sim)⟩
theorem px_vals (hc : X.calm = true) (hg : Gl X "list") (hm : X.mg "list" = none) (ha : Px X E a ma ta) (hv : bootBuiltins "list" = some (.type "list") := by rfl) (hbase : attributeBase a "values" X.env (eval a X.env) = eval a X.env := by rfl) (hline : (apos.endLine == cpos.line) = true := by rfl)
    (hs : starEach [.Call (.Attribute a "values" apos) [] [] cpos] X.env = (false, eval (.Call (.Attribute a "values" apos) [] [] cpos) X.env) :: starEach [] X.env := by rfl) :
    Px X E (.Call (.Name "list" p) [.Call (.Attribute a "values" apos) [] [] cpos] [] pos) (eOp1 pValsD ma) (tUn (fun x H Q => Prm X.K pValsD [x] H Q) ta) := ⟨pe_listVals hc ha.pe hg hm hv hbase hline hs, sim_op1 ha.sim⟩
theorem pxs_dput (hu : X.A.units + 1 < cLine) (hP : PxP X a mp tp) (hk : Px X E b ma ta) (hv : Px X E e mb tb) (hs : swapsWith e (some (.Subscript a b pos')) pos.line X.env = pure false := by rfl) : PxS X E np (.Assign [.Subscript a b pos'] e pos) (sDPutP mp ma mb) (sDPut tp ta tb) := ⟨ps_dput hu hP.pe hk.pe hv.pe hs, simS_dput hP.sim hk.sim hv.sim⟩
theorem pxe_dpop (hP : PxP X a mp tp) (hk : Px X E e ma ta) (m : M1 X a "pop" apos e cpos := by exact ⟨rfl, rfl, rfl, rfl⟩) : PxE X E np (.Call (.Attribute a "pop" apos) [e] [] cpos) (eDPop mp ma) (tDPop1 tp ta) := ⟨pe_dpop1 hP.pe hk.pe m, simE_dpop hP.sim hk.sim⟩
theorem pxs_appP (hP : PxP X a mp tp) (he : Px X E e ma ta) (hline : (apos.endLine == cpos.line) = true := by rfl) (hs : starEach [e] X.env = (false, eval e X.env) :: starEach [] X.env := by rfl)
    (hfew : ((backTo cpos (starEach [e] X.env)).all (fun x => !x.1) && (backToKw cpos (keywordEach [] X.env)).all (fun x => x.1.isSome)
      && decide ([e].length + ([] : List Keyword).length + (if ([] : List Keyword).isEmpty then 0 else 1) < 30)) = true := by rfl)
    (hsw : swapsWith (.Call (.Attribute a "append" apos) [e] [] cpos) none pos.line X.env = pure false := by rfl)
    (hbase : attributeBase a "append" X.env (eval a X.env) = eval a X.env := by rfl) :
    PxS X E np (.Expr (.Call (.Attribute a "append" apos) [e] [] cpos) pos) (sAppP mp ma) (tDrop (tBM X.K "list" rAppend tp (tCons ta tNil))) :=
  ⟨ps_expr (pe_bm PySem.F.plainAttrs_list PySem.F.slot_list_append PySem.F.type_list_append mt_append hP.pe (pa_cons he.pe pa_nil hs) hbase hfew hline hs) hsw, simS_appP hP.sim he.sim⟩
end
end Pf

/-! Pf35: a dict's values walked: the dict is locked meanwhile. -/
namespace Pf
open PySem L2
def isDk : Nk → Nat
  | .D _ => 1
  | _ => 0
mutual
def cntD : Sl → Nat
  | .dat _ => 0
  | .node k xs => isDk k + cntDs xs
def cntDs : List Sl → Nat
  | [] => 0
  | x :: xs => cntD x + cntDs xs
end
def iv1 (r : Rv) : Rz (Bool × List PyData) := match r.s with
  | .node (.Z _) xs => (match datAll xs with
    | some ds => .ok (false, ds)
    | none => .no)
  | _ => .no
def iV (m : Mr) : MrI := fun Γ => (m Γ).bind iv1
def lockO (r : Rv) : Option Rv := match r with
  | ⟨fl, .dat d⟩ => some ⟨fl, .dat d⟩
  | _ => none
def lockG (Γ : Gm) (i : Nat) (p : List Nat) (ks : List Key) (xs : List Sl) (r : Rv) : Gm := (Γ.map fun o => o.bind lockO).set i (some ⟨r.fl, putT r.s p (.node (.Z ks) xs)⟩)
def lk3 (z : Rz Rv) : Rz Rv := match z with
  | .ok ⟨.own, s⟩ => .ok ⟨.own, s⟩
  | _ => .no
def lk2 (Γ : Gm) (m : Mr) (i : Nat) (p : List Nat) (o : Option (Option Rv)) : Rz Rv := match o with
  | some (some r) => (match subT r.s p with
    | some (.node (.D ks) xs) => if cntD r.s = 1 then lk3 (m (lockG Γ i p ks xs r)) else .no
    | _ => .no)
  | _ => .no
def lk1 (Γ : Gm) (m : Mr) (pl : Option (Nat × List Nat)) : Rz Rv := match pl with
  | some (i, p) => lk2 Γ m i p (gt Γ i)
  | none => .no
def eLock (pl : MrP) (m : Mr) : Mr := fun Γ => lk1 Γ m (pl Γ)
section
variable {K : PySem.W.Frag} {E : XK} {F H : Hp}
theorem simI_vals {t : TE} {m : Mr} (h : Sim K E t m) : SimI K E (iVals t) (iV m) := by
  intro S F H σ Γ R e en p
  have p0 : PostI K S E R F H ((m Γ).bind iv1) := p
  refine h S F H σ Γ _ e en ?_
  cases q : m Γ with
  | no =>
    rw [q] at p0
    exact p0
  | er c =>
    rw [q] at p0
    exact p0
  | ok r =>
    rw [q] at p0
    intro v F1 H1 fp st ro nw
    obtain ⟨fz, o⟩ := ro.ow
    obtain ⟨fl, s⟩ := r
    have p0 : PostI K S E R F H (iv1 ⟨fl, s⟩) := p0
    have key : ∀ (ks : List Key) (xs : List Sl), s = .node (.Z ks) xs → (∃ d o kvs, v = .ref d ∧ H1 d = some (.frz o (.dK kvs)) ∧ R (Itd d o kvs) H1) := by
      intro ks xs es
      subst es
      have p0 : PostI K S E R F H (match datAll xs with | some ds => .ok (false, ds) | none => .no) := p0
      cases hd : datAll xs with
      | none =>
        rw [hd] at p0
        exact p0.elim
      | some ds =>
        rw [hd] at p0
        have o : Ow K F1 H1 v (.node (.Z ks) xs) fz := o
        cases o with
        | node ha sh t =>
          rename_i a oo vs f0
          obtain ⟨hl, ob, rfl⟩ := sh
          have all := datAll_dp t hd
          have l1 := dpAll_len all
          refine ⟨a, ob, _, rfl, ha, p0 (Itd a ob (ks.zip vs)) F1 H1 [(a, .frz ob (.dK (ks.zip vs)))] st (fun c m => by cases List.mem_singleton.mp m; exact ha) (fun z => by cases z) ?_⟩
          have lz : (ks.zip vs).length = ds.length := by
            rw [List.length_zip]
            omega
          refine ⟨fun i F' H' _ _ hc hi => ⟨hc _ (List.mem_singleton.mpr rfl), by omega⟩, fun i F' H' _ _ hc hi => ⟨hc _ (List.mem_singleton.mpr rfl), by omega⟩, fun i F' H' x H2 s1 s2 hc hi y => ?_⟩
          obtain ⟨rfl, k, hk⟩ := y
          have hv : vs[i]? = some x := by
            have : ((ks.zip vs).map (·.2))[i]? = some x := by
              rw [List.getElem?_map, hk]
              rfl
            rwa [zip_vals hl] at this
          obtain ⟨d, hd2, dq⟩ := dpAll_get all hv
          exact ⟨d, F', hd2, Step.refl s2, dp_mono s1 dq⟩
    cases s with
    | dat d => exact p0.elim
    | node k xs =>
      cases k with
      | Z ks => exact key ks xs rfl
      | _ => exact p0.elim
/-- without the thing at a -/
def offH (F : Hp) (a : Addr) : Hp := fun b => if b = a then none else F b
variable {a : Addr} {od : Obj} {kvs : List (Key × V)}
mutual
theorem dq_off (hF : ∀ o, F a = some o → o = .dK kvs) : ∀ {v : V} {d : PyData}, Dq F v d → Dq (offH F a) v d
  | _, _, .non => .non
  | _, _, .bl b => .bl b
  | _, _, .int i => .int i
  | _, _, .str x => .str x
  | _, _, .lst (a := b) h t => .lst (by
      show (if b = a then none else F b) = _
      rw [if_neg (fun z => by rw [z] at h; cases hF _ h)]
      exact h) (dqAll_off hF t)
  | _, _, .tup (a := b) h t => .tup (by
      show (if b = a then none else F b) = _
      rw [if_neg (fun z => by rw [z] at h; cases hF _ h)]
      exact h) (dqAll_off hF t)
theorem dqAll_off (hF : ∀ o, F a = some o → o = .dK kvs) : ∀ {vs : List V} {ds : List PyData}, DqAll F vs ds → DqAll (offH F a) vs ds
  | _, _, .nil => .nil
  | _, _, .cons h t => .cons (dq_off hF h) (dqAll_off hF t)
end
theorem shape_dk {k : Nk} {vs : List V} (h : Shape K k vs (.dK kvs)) : isDk k = 1 := by
  cases k with
  | L => cases h
  | T => cases h
  | S => obtain ⟨ob, z⟩ := h; cases z
  | D ks => rfl
  | O c ns => obtain ⟨_, dx, z⟩ := h; cases z
  | Z ks => obtain ⟨_, ob, z⟩ := h; cases z
mutual
theorem ow_off (e : Same F H) (ha : H a = some (.dK kvs)) : ∀ {v : V} {s : Sl} {fp : List Addr}, Ow K F H v s fp → cntD s = 0 → Ow K (offH F a) (upd H a (.frz od (.dK kvs))) v s fp
  | _, _, _, .dat h, _ => .dat (dq_off (fun o q => by rw [e _ _ q] at ha; cases ha; rfl) h)
  | _, _, _, .node (a := b) (k := k) (o := o) hb sh t, c => by
    have c : isDk k + cntDs _ = 0 := c
    refine .node ?_ sh (owAll_off e ha t (by omega))
    rw [upd_ne]
    · exact hb
    · intro z
      subst z
      rw [ha] at hb
      cases hb
      have := shape_dk sh
      omega
theorem owAll_off (e : Same F H) (ha : H a = some (.dK kvs)) : ∀ {vs : List V} {xs : List Sl} {fp : List Addr}, OwAll K F H vs xs fp → cntDs xs = 0 → OwAll K (offH F a) (upd H a (.frz od (.dK kvs))) vs xs fp
  | _, _, _, .nil, _ => .nil
  | _, _, _, .cons h t, c => by
    have c : cntD _ + cntDs _ = 0 := c
    exact .cons (ow_off e ha h (by omega)) (owAll_off e ha t (by omega))
end
theorem cntD_sub : ∀ (p : List Nat) {s : Sl} {ks : List Key} {ys : List Sl}, subT s p = some (.node (.D ks) ys) → 1 ≤ cntD s
  | [], s, ks, ys, h => by
    unfold subT at h
    cases h
    show 1 ≤ isDk (.D ks) + cntDs ys
    show 1 ≤ 1 + cntDs ys
    omega
  | j :: p, .dat d, _, _, h => by
    unfold subT at h
    cases h
  | j :: p, .node k xs, ks, ys, h => by
    unfold subT at h
    cases hx : xs[j]? with
    | none =>
      rw [hx] at h
      cases h
    | some x =>
      rw [hx] at h
      have ih := cntD_sub p h
      have le : ∀ (xs : List Sl) (j : Nat), xs[j]? = some x → cntD x ≤ cntDs xs := by
        intro xs
        induction xs with
        | nil =>
          intro j h
          cases h
        | cons y xs ih =>
          intro j h
          cases j with
          | zero =>
            cases h
            show cntD x ≤ cntD x + cntDs xs
            omega
          | succ j =>
            have := ih j (by simpa using h)
            show cntD x ≤ cntD y + cntDs xs
            omega
      have := le xs j hx
      show 1 ≤ isDk k + cntDs xs
      omega
/-- the tree with its one dict locked -/
theorem ow_lock (e : Same F H) : ∀ (p : List Nat) {v : V} {s : Sl} {fp : List Addr} {ks : List Key} {ys : List Sl}, Ow K F H v s fp → subT s p = some (.node (.D ks) ys) → cntD s = 1 →
    ∃ a vs, H a = some (.dK (ks.zip vs)) ∧ ∀ od, Ow K (offH F a) (upd H a (.frz od (.dK (ks.zip vs)))) v (putT s p (.node (.Z ks) ys)) fp
  | [], v, s, fp, ks, ys, h, hs, c => by
    unfold subT at hs
    cases hs
    cases h with
    | node ha sh t =>
      rename_i b o vs f0
      obtain ⟨hl, rfl⟩ := sh
      refine ⟨b, vs, ha, fun od => ?_⟩
      have c : 1 + cntDs ys = 1 := c
      unfold putT
      exact .node (o := .frz od (.dK (ks.zip vs))) upd_same ⟨hl, od, rfl⟩ (owAll_off e ha t (by omega))
  | j :: p, v, .dat d, _, _, _, _, hs, _ => by
    unfold subT at hs
    cases hs
  | j :: p, _, .node k xs, _, ks, ys, .node (a := b) (o := o) (vs := vs) (fp := fp) hb sh t, hs, c => by
    unfold subT at hs
    cases hx : xs[j]? with
    | none =>
      rw [hx] at hs
      cases hs
    | some x =>
      rw [hx] at hs
      have cx := cntD_sub p hs
      have c : isDk k + cntDs xs = 1 := c
      have e2 : putT (.node k xs) (j :: p) (.node (.Z ks) ys) = .node k (xs.set j (putT x p (.node (.Z ks) ys))) := by
        show (match xs[j]? with | some x => Sl.node k (xs.set j (putT x p (.node (.Z ks) ys))) | none => .node k xs) = _
        rw [hx]
      rw [e2]
      have go : ∀ {vs : List V} {xs : List Sl} {fp : List Addr} {j : Nat}, OwAll K F H vs xs fp → xs[j]? = some x → cntDs xs ≤ 1 → cntDs xs = 1 ∧ ∃ a ws, H a = some (.dK (ks.zip ws)) ∧ ∀ od, OwAll K (offH F a) (upd H a (.frz od (.dK (ks.zip ws)))) vs (xs.set j (putT x p (.node (.Z ks) ys))) fp := by
        intro vs xs
        induction xs generalizing vs with
        | nil =>
          intro fp j h hx _
          cases hx
        | cons y xs ih =>
          intro fp j h hx hc
          have hc : cntD y + cntDs xs ≤ 1 := hc
          cases h with
          | cons hy ht =>
            cases j with
            | zero =>
              cases hx
              obtain ⟨a, ws, h1, h2⟩ := ow_lock e p hy hs (by omega)
              exact ⟨by show cntD _ + cntDs xs = 1; omega, a, ws, h1, fun od => .cons (h2 od) (owAll_off e h1 ht (by omega))⟩
            | succ j =>
              obtain ⟨c1, a, ws, h1, h2⟩ := ih ht (by simpa using hx) (by omega)
              exact ⟨by show cntD y + cntDs xs = 1; omega, a, ws, h1, fun od => .cons (ow_off e h1 hy (by omega)) (h2 od)⟩
      obtain ⟨c1, a, ws, h1, h2⟩ := go t hx (by omega)
      refine ⟨a, ws, h1, fun od => .node ?_ sh (h2 od)⟩
      rw [upd_ne]
      · exact hb
      · intro z
        subst z
        rw [h1] at hb
        cases hb
        have := shape_dk sh
        omega
end
end Pf

/-! Pf36: the lock's rule. -/
namespace Pf
open PySem L2
section
variable {K : PySem.W.Frag} {E : XK}
theorem lk3_ok {z : Rz Rv} {r : Rv} (h : lk3 z = .ok r) : ∃ s, r = ⟨.own, s⟩ ∧ z = .ok ⟨.own, s⟩ := by
  unfold lk3 at h
  split at h
  · cases h
    exact ⟨_, rfl, rfl⟩
  · cases h
theorem sim_lock {t : TE} {m : Mr} {pl : MrP} (h : Sim K E t m) : Sim K E (tLockE t) (eLock pl m) := by
  intro S F H σ Γ Q e en p
  have p0 : Post K S E Q F H (lk1 Γ m (pl Γ)) := p
  cases hpl : pl Γ with
  | none =>
    rw [hpl] at p0
    exact p0.elim
  | some ip =>
    obtain ⟨i, pa⟩ := ip
    rw [hpl] at p0
    have p1 : Post K S E Q F H (lk2 Γ m i pa (gt Γ i)) := p0
    cases hg : gt Γ i with
    | none =>
      rw [hg] at p1
      exact p1.elim
    | some or =>
      cases or with
      | none =>
        rw [hg] at p1
        exact p1.elim
      | some r =>
        rw [hg] at p1
        have p2 : Post K S E Q F H (match subT r.s pa with | some (.node (.D ks) xs) => if cntD r.s = 1 then lk3 (m (lockG Γ i pa ks xs r)) else .no | _ => .no) := p1
        have hgi : Γ[i]? = some (some r) := by
          rw [gt_eq]
          exact hg
        have key : ∀ (ks : List Key) (xs : List Sl), subT r.s pa = some (.node (.D ks) xs) → tLockE t σ H Q := by
          intro ks xs hs
          rw [hs] at p2
          have p3 : Post K S E Q F H (if cntD r.s = 1 then lk3 (m (lockG Γ i pa ks xs r)) else .no) := p2
          by_cases hc : cntD r.s = 1
          · rw [if_pos hc] at p3
            obtain ⟨v, fp, hv, ow, hS⟩ := en.at_ i r hgi
            obtain ⟨a, vs, ha, lk⟩ := ow_lock e pa ow hs hc
            refine ⟨a, _, ha, trivial, fun od => ?_⟩
            have hF : ∀ o, F a = some o → o = .dK (ks.zip vs) := fun o q => by
              have := e _ _ q
              rw [ha] at this
              cases this
              rfl
            have eL : Same (offH F a) (upd H a (.frz od (.dK (ks.zip vs)))) := fun b o q => by
              have q : (if b = a then none else F b) = some o := q
              by_cases hb : b = a
              · rw [if_pos hb] at q
                cases q
              · rw [if_neg hb] at q
                rw [upd_ne hb]
                exact e _ _ q
            have enL : EnvE K S (offH F a) (upd H a (.frz od (.dK (ks.zip vs)))) σ (lockG Γ i pa ks xs r) := by
              refine ⟨?_, fun j q hj => ?_⟩
              · unfold lockG
                rw [List.length_set, List.length_map]
                exact en.len
              · unfold lockG at hj
                rw [List.getElem?_set] at hj
                by_cases hij : i = j
                · subst hij
                  rw [if_pos rfl] at hj
                  split at hj
                  · cases hj
                    exact ⟨v, fp, hv, lk od, hS⟩
                  · cases hj
                · rw [if_neg hij, List.getElem?_map] at hj
                  cases hG : Γ[j]? with
                  | none =>
                    rw [hG] at hj
                    cases hj
                  | some oj =>
                    rw [hG] at hj
                    cases oj with
                    | none => cases hj
                    | some rj =>
                      have hj : some (lockO rj) = some (some q) := hj
                      obtain ⟨flj, sj⟩ := rj
                      cases sj with
                      | node _ _ => cases hj
                      | dat d =>
                        cases hj
                        obtain ⟨w, fw, hw, ow2, _⟩ := en.at_ j _ hG
                        have ow2 : Ow K F H w (.dat d) fw := ow2
                        cases ow2 with
                        | dat hd => exact ⟨w, [], hw, .dat (dq_off hF hd), fun _ _ mm => by cases mm⟩
            refine h S _ _ σ _ _ eL enL ?_
            cases hm : m (lockG Γ i pa ks xs r) with
            | er c =>
              rw [hm] at p3
              exact p3.elim
            | no =>
              rw [hm] at p3
              exact p3.elim
            | ok r2 =>
              rw [hm] at p3
              obtain ⟨fl2, s2⟩ := r2
              cases fl2 with
              | par => exact p3.elim
              | bor => exact p3.elim
              | own =>
                have p3 : Post K S E Q F H (.ok ⟨.own, s2⟩) := p3
                intro v2 F2 H2 fp2 st ro nw
                have aL : (upd H a (.frz od (.dK (ks.zip vs)))) a ≠ none := by
                  rw [upd_same]
                  exact fun z => by cases z
                have fa : F2 a = none := st.nw a aL (by show (if a = a then none else F a) = none; rw [if_pos rfl])
                have nba : ∀ b ∈ fp2, b ≠ a := fun b mm z => by
                  have w := nw.nh b mm
                  rw [z] at w
                  exact aL w
                have off : ∀ b, b ≠ a → offH F a b = F b := fun b hb => by
                  show (if b = a then none else F b) = F b
                  rw [if_neg hb]
                refine ⟨st.hh _ _ upd_same, p3 v2 (fun b => if b = a then F a else F2 b) (upd H2 a (.dK (ks.zip vs))) fp2 ⟨fun b o q => ?_, fun b o q => ?_, fun b o q => ?_, fun b q1 q2 => ?_⟩ ?_ ⟨nw.nd, fun b mm => ?_, fun b mm => ?_⟩⟩
                · show (if b = a then F a else F2 b) = some o
                  by_cases hb : b = a
                  · rw [if_pos hb, ← hb]
                    exact q
                  · rw [if_neg hb]
                    exact st.ff b o (by rw [off b hb]; exact q)
                · have q : (if b = a then F a else F2 b) = some o := q
                  by_cases hb : b = a
                  · rw [if_pos hb] at q
                    rw [hb, upd_same, hF o q]
                  · rw [if_neg hb] at q
                    rw [upd_ne hb]
                    exact st.fh b o q
                · by_cases hb : b = a
                  · rw [hb] at q ⊢
                    rw [upd_same, ← ha]
                    exact q
                  · rw [upd_ne hb]
                    exact st.hh b o (by rw [upd_ne hb]; exact q)
                · show (if b = a then F a else F2 b) = none
                  by_cases hb : b = a
                  · rw [if_pos hb, ← hb]
                    exact q2
                  · rw [if_neg hb]
                    exact st.nw b (by rw [upd_ne hb]; exact q1) (by rw [off b hb]; exact q2)
                · have o2 : Ow K F2 H2 v2 s2 fp2 := ro
                  exact ow_mono (fun b o q => by
                    show (if b = a then F a else F2 b) = some o
                    rw [if_neg (fun z => by rw [z, fa] at q; cases q)]
                    exact q) o2 fun b mm o q => by
                      rw [upd_ne (nba b mm)]
                      exact q
                · show (if b = a then F a else F2 b) = none
                  rw [if_neg (nba b mm)]
                  exact nw.nf b mm
                · have := nw.nh b mm
                  rw [upd_ne (nba b mm)] at this
                  exact this
          · rw [if_neg hc] at p3
            exact p3.elim
        cases hs : subT r.s pa with
        | none =>
          rw [hs] at p2
          exact p2.elim
        | some x =>
          rw [hs] at p2
          cases x with
          | dat d => exact p2.elim
          | node k xs =>
            cases k with
            | D ks => exact key ks xs hs
            | _ => exact p2.elim
end
section
variable {X : Cx} {E : XK} {a e tg : Expr} {ma : Mr} {ta : TE} {pos apos cpos : Pos} {mp : MrP} {m : Mr} {t : TE}
theorem pxi_vals (ha : Px X E a ma ta) (hbase : attributeBase a "values" X.env (eval a X.env) = eval a X.env := by rfl) (hline : (apos.endLine == cpos.line) = true := by rfl) : PxI X E tg (.Call (.Attribute a "values" apos) [] [] cpos) (iV ma) (iVals ta) := ⟨pi_values ha.pe hbase hline, simI_vals ha.sim⟩
/-- the expression runs while the dict at the place is locked -/
theorem px_lock (pl : MrP) (h : Px X E e m t) : Px X E e (eLock pl m) (tLockE t) := ⟨pe_lock h.pe, sim_lock h.sim⟩
end
end Pf

/-! Pf37: new dicts, o.f += k, several owned slots handed back as a tuple. -/
namespace Pf
open PySem L2
/-! ### new dicts -/
def eDNew : Mr := fun _ => .ok ⟨.own, .node (.D []) []⟩
def disp1 (k1 k2 : Str) (r1 r2 : Rv) : Rz Rv := match r1, r2 with
  | ⟨.own, s1⟩, ⟨.own, s2⟩ => .ok ⟨.own, .node (.D [.inr k1, .inr k2]) [s1, s2]⟩
  | _, _ => .no
def eDisp2 (k1 k2 : Str) (a b : Mr) : Mr := fun Γ => (a Γ).bind fun x => (b Γ).bind fun y => disp1 k1 k2 x y
section
variable {K : PySem.W.Frag} {E : XK} {np : Nat} {B : Bs} {F H : Hp} {σ : L2.St} {Γ : Gm}
theorem sim_dnew : Sim K E tDNewK eDNew := by
  intro S F H σ Γ Q e en p
  intro a ha
  obtain ⟨s1, s2, s3⟩ := new_node (K := K) (k := .D []) (o := .dK []) (vs := []) (ss := []) (fp := []) (Step.refl e) ha ⟨rfl, rfl⟩ .nil New.nil
  exact p _ _ _ _ s1 s2 s3
theorem sim_disp2 {k1 k2 : Str} {ta tb : TE} {ma mb : Mr} (hne : k1 ≠ k2) (ha : Sim K E ta ma) (hb : Sim K E tb mb) : Sim K E (tDisp [(tC (.str k1), ta), (tC (.str k2), tb)]) (eDisp2 k1 k2 ma mb) := by
  intro S F H σ Γ Q e en p
  intro a hn
  have g0 : Same H (upd H a (.dK [])) := fun b o q => by
    rw [upd_ne (ne_of_none q hn)]
    exact q
  have st0 : Step F H F (upd H a (.dK [])) := Step.grow e g0
  have p0 : Post K S E Q F (upd H a (.dK [])) ((ma Γ).bind fun x => (mb Γ).bind fun y => disp1 k1 k2 x y) := Post.up st0 p
  refine ha.bind st0.fh (en.step st0.ff st0.hh) p0 fun r1 v1 F1 H1 f1 q1 st1 ro1 nw1 => ?_
  have p1 : Post K S E Q F1 H1 ((mb Γ).bind fun y => disp1 k1 k2 r1 y) := by
    rw [q1] at p0
    exact Post.up st1 p0
  refine hb.bind st1.fh ((en.step st0.ff st0.hh).step st1.ff st1.hh) p1 fun r2 v2 F2 H2 f2 q2 st2 ro2 nw2 => ?_
  have p2 : Post K S E Q F H (disp1 k1 k2 r1 r2) := by
    have p' : Post K S E Q F H ((ma Γ).bind fun x => (mb Γ).bind fun y => disp1 k1 k2 x y) := p
    rw [q1] at p'
    have p' : Post K S E Q F H ((mb Γ).bind fun y => disp1 k1 k2 r1 y) := p'
    rw [q2] at p'
    exact p'
  obtain ⟨fl1, s1⟩ := r1
  obtain ⟨fl2, s2⟩ := r2
  have aN : (upd H a (.dK [])) a ≠ none := by
    rw [upd_same]
    exact fun z => by cases z
  have h2a : H2 a = some (.dK []) := st2.hh _ _ (st1.hh _ _ upd_same)
  refine ⟨h2a, [(.inr k1, v1), (.inr k2, v2)], rfl, by show 2 ≤ 15; decide, ?_⟩
  have em : mergeK [] [((Sum.inr k1 : Key), v1), (.inr k2, v2)] = [.inr k1, .inr k2].zip [v1, v2] := by
    simp [mergeK, putK, hne]
  rw [em]
  cases fl1 with
  | par => exact p2.elim
  | bor => exact p2.elim
  | own =>
    cases fl2 with
    | par => exact p2.elim
    | bor => exact p2.elim
    | own =>
      have p2 : Post K S E Q F H (.ok ⟨.own, .node (.D [.inr k1, .inr k2]) [s1, s2]⟩) := p2
      have o1 : Ow K F2 H2 v1 s1 f1 := ow_step st2.ff st2.hh ro1
      have o2 : Ow K F2 H2 v2 s2 f2 := ro2
      have stA : Step F (upd H a (.dK [])) F2 H2 := st1.trans st2
      have na1 : a ∉ f1 := fun m => aN (nw1.nh a m)
      have na2 : a ∉ f2 := fun m => same_ne st1.hh aN (nw2.nh a m)
      have nAll : New F2 (upd H a (.dK [])) (f1 ++ f2) := New.both st1 st2 nw1 (fun b m => ow_dom (show Ow K F1 H1 v1 s1 f1 from ro1) b m) nw2
      have fa : F2 a = none := stA.nw a aN (e.free hn)
      have up : ∀ b, b ≠ a → ∀ o, H2 b = some o → (upd H2 a (.dK ([.inr k1, .inr k2].zip [v1, v2]))) b = some o := fun b hb o q => by
        rw [upd_ne hb]
        exact q
      refine p2 _ F2 _ (a :: (f1 ++ (f2 ++ []))) ⟨st0.ff.trans stA.ff, fun b o q => up b (fun z => by rw [z, fa] at q; cases q) o (stA.fh b o q), fun b o q => up b (ne_of_none q hn) o (stA.hh b o (g0 b o q)), fun b q1 q2 => stA.nw b (same_ne g0 q1) q2⟩ ?_ ?_
      · refine .node (vs := [v1, v2]) upd_same ⟨rfl, rfl⟩ (.cons (ow_mono (Same.refl F2) o1 fun b m o q => up b (fun z => na1 (by rw [← z]; exact m)) o q) (.cons (ow_mono (Same.refl F2) o2 fun b m o q => up b (fun z => na2 (by rw [← z]; exact m)) o q) .nil))
      · rw [List.append_nil]
        refine ⟨List.nodup_cons.mpr ⟨fun m => (List.mem_append.mp m).elim na1 na2, nAll.nd⟩, fun b m => ?_, fun b m => ?_⟩
        · rcases List.mem_cons.mp m with rfl | m
          · exact fa
          · exact nAll.nf b m
        · rcases List.mem_cons.mp m with rfl | m
          · exact hn
          · exact g0.free (nAll.nh b m)
/-! ### o.f += k -/
def aug2 (i : Nat) (c f : Str) (ns : List Str) (xs : List Sl) (n : Int) (Γ : Gm) (z : Rz Rv) : Oz := match z with
  | .ok ⟨_, .dat (.int k)⟩ => .nx (Γ.set i (some ⟨.own, .node (.O c (putN f (.dat (.int (n + k))) ns xs).1) (putN f (.dat (.int (n + k))) ns xs).2⟩))
  | .er c => .er c Γ
  | _ => .no
def aug3 (i : Nat) (c f : Str) (ns : List Str) (xs : List Sl) (o : Option Sl) (Γ : Gm) (z : Rz Rv) : Oz := match o with
  | some (.dat (.int n)) => aug2 i c f ns xs n Γ z
  | _ => .no
def aug1 (i : Nat) (cs : List Str) (f : Str) (Γ : Gm) (o : Option (Option Rv)) (z : Rz Rv) : Oz := match o with
  | some (some ⟨.own, .node (.O c ns) xs⟩) => if c ∈ cs ∧ ns.length < 900 ∧ ns.length = xs.length then aug3 i c f ns xs (getF ns xs f) Γ z else .no
  | _ => .no
def sAugF (i : Nat) (cs : List Str) (f : Str) (m : Mr) : MrS := fun Γ => aug1 i cs f Γ (gt Γ i) (m Γ)
theorem getF_look : ∀ {ns : List Str} {vs : List V} {xs : List Sl} {fp : List Addr} {f : Str} {s : Sl}, OwAll K F H vs xs fp → ns.length = vs.length → getF ns xs f = some s → ∃ v fz, (ns.zip vs).lookup f = some v ∧ Ow K F H v s fz
  | [], _, _, _, _, _, _, _, e => by cases e
  | n :: ns, _, _, _, f, s, .nil, _, e => by cases e
  | n :: ns, _, _, _, f, s, .cons (v := v) h t, hl, e => by
    unfold getF at e
    rw [List.zip_cons_cons, List.lookup_cons]
    by_cases hf : f = n
    · rw [if_pos hf] at e
      cases e
      rw [show (f == n) = true from by simp [hf]]
      exact ⟨v, _, rfl, h⟩
    · rw [if_neg hf] at e
      rw [show (f == n) = false from by simp [hf]]
      exact getF_look t (by simpa using hl) e
theorem simS_aug {i : Nat} {cs : List Str} {f : Str} {te : TE} {me : Mr} (hc : ∀ c ∈ cs, Cls K (He.ga K c) ∧ NoAttr K (He.ga K c) f) (h : Sim K E te me) : SimS K E np (sFldAug K (tVar i) te (rI0 fun i j => .int (i + j)) f) (sAugF i cs f me) := by
  intro B F H σ Γ D hp en p
  have p0 : PostS K B E D (aug1 i cs f Γ (gt Γ i) (me Γ)) := p
  have key : ∀ (c : Str) (ns : List Str) (xs : List Sl), gt Γ i = some (some ⟨.own, .node (.O c ns) xs⟩) → sFldAug K (tVar i) te (rI0 fun i j => .int (i + j)) f D σ H := by
    intro c ns xs hg
    rw [hg] at p0
    have p1 : PostS K B E D (if c ∈ cs ∧ ns.length < 900 ∧ ns.length = xs.length then aug3 i c f ns xs (getF ns xs f) Γ (me Γ) else .no) := p0
    by_cases hcc : c ∈ cs ∧ ns.length < 900 ∧ ns.length = xs.length
    · rw [if_pos hcc] at p1
      have go : ∀ n : Int, getF ns xs f = some (.dat (.int n)) → sFldAug K (tVar i) te (rI0 fun i j => .int (i + j)) f D σ H := by
        intro n hf
        rw [hf] at p1
        have p1 : PostS K B E D (aug2 i c f ns xs n Γ (me Γ)) := p1
        have hgi : Γ[i]? = some (some ⟨.own, .node (.O c ns) xs⟩) := by
          rw [gt_eq]
          exact hg
        obtain ⟨a, o, vs, fp, hv, ha, sh, t, nd, k⟩ := en.own_slot hgi
        obtain ⟨hl, dx, rfl⟩ := sh
        obtain ⟨w, fz, hw, ow⟩ := getF_look t hl hf
        have ew := ow_int ow
        subst ew
        obtain ⟨c1, c2⟩ := hc c hcc.1
        refine ⟨_, hv, a, _, dx, _, _, rfl, ha, c1, c2, hw, ?_⟩
        refine h.stm en (fun c q => by rw [q] at p1; exact fun F' H' en' => p1 F' H' σ en') (fun q => by rw [q] at p1; exact p1) fun r y F' H' fy q st ro nw => ?_
        rw [q] at p1
        obtain ⟨fl, s⟩ := r
        cases s with
        | node _ _ => exact p1.elim
        | dat d =>
          cases d with
          | int kk =>
            have p1 : PostS K B E D (.nx (Γ.set i (some ⟨.own, .node (.O c (putN f (.dat (.int (n + kk))) ns xs).1) (putN f (.dat (.int (n + kk))) ns xs).2⟩))) := p1
            have ey : y = .int kk := rok_int ro
            subst ey
            refine ⟨n, kk, rfl, rfl, dx, _, st.hh _ _ ha, ?_, ?_⟩
            · rw [List.length_zip, ← hl, Nat.min_self]
              omega
            · have t' := owAll_mono st.ff t fun b _ o z => st.hh b o z
              obtain ⟨vs', fq, q1, q2, q3, q4, q5⟩ := putN_ok (f := f) (Ow.dat (K := K) (H := H') (Dq.int (F := F') (n + kk))) t' hl nd (fun _ _ m => by cases m) List.nodup_nil
              rw [q1]
              exact p1 F' _ σ (k F' H' _ (.O c _) vs' _ fq [] st New.nil ⟨q2, dx, rfl⟩ q3 q4 q5)
          | _ => exact p1.elim
      cases hf : getF ns xs f with
      | none =>
        rw [hf] at p1
        exact p1.elim
      | some s =>
        rw [hf] at p1
        cases s with
        | node _ _ => exact p1.elim
        | dat d =>
          cases d with
          | int n => exact go n hf
          | _ => exact p1.elim
    · rw [if_neg hcc] at p1
      exact p1.elim
  cases hg : gt Γ i with
  | none =>
    rw [hg] at p0
    exact p0.elim
  | some o =>
    cases o with
    | none =>
      rw [hg] at p0
      exact p0.elim
    | some r =>
      rw [hg] at p0
      obtain ⟨fl, s⟩ := r
      cases fl with
      | par => exact p0.elim
      | bor => exact p0.elim
      | own =>
        cases s with
        | dat d => exact p0.elim
        | node k xs =>
          cases k with
          | O c ns => exact key c ns xs hg
          | _ => exact p0.elim
end
end Pf

/-! Pf38: tuples cut and joined; a place as a value; slots handed back as a tuple. -/
namespace Pf
open PySem L2
def cutT (r : Rv) (l h : Option Int) : Rz Rv := match r.s with
  | .dat (.tuple ds) => .ok ⟨.own, .dat (.tuple (cutD ds l h))⟩
  | _ => .no
def eCutT (a : Mr) (lo hi : MrO) : Mr := fun Γ => (a Γ).bind fun r => (lo Γ).bind fun l => (hi Γ).bind fun h => cutT r l h
def pAddT : List Sl → Option Sl
  | [.dat (.tuple ds), .dat (.tuple es)] => if ds.length + es.length ≤ most then some (.dat (.tuple (ds ++ es))) else none
  | _ => none
section
variable {K : PySem.W.Frag} {E : XK} {S : Addr → Prop} {F H : Hp} {Q : VK}
/-- a new tuple of frozen data, frozen -/
theorem new_tup {xs : List V} {ds : List PyData} {p : Addr} (e : Same F H) (hp : H p = none) (h : DqAll F xs ds) : Step F H (upd F p (.tup xs)) (upd H p (.tup xs)) ∧ Dq (upd F p (.tup xs)) (.ref p) (.tuple ds) := by
  have fp := e.free hp
  have g : Same F (upd F p (.tup xs)) := fun b o q => by
    rw [upd_ne (ne_of_none q fp)]
    exact q
  refine ⟨⟨g, fun b o q => ?_, fun b o q => ?_, fun b q1 q2 => ?_⟩, .tup upd_same (dpAll_mono g h)⟩
  · by_cases hb : b = p
    · rw [hb] at q ⊢
      rw [upd_same] at q ⊢
      exact q
    · rw [upd_ne hb] at q ⊢
      exact e b o q
  · rw [upd_ne (ne_of_none q hp)]
    exact q
  · have hb : b ≠ p := fun z => q1 (by rw [z]; exact hp)
    rw [upd_ne hb]
    exact q2
theorem tup_inv {v : V} {ds : List PyData} (h : Dq F v (.tuple ds)) : ∃ a xs, v = .ref a ∧ F a = some (.tup xs) ∧ DqAll F xs ds := by
  cases h with
  | tup h t => exact ⟨_, _, rfl, h, t⟩
theorem sim_cutT {ta : TE} {tl th : TO} {ma : Mr} {ml mh : MrO} (ha : Sim K E ta ma) (hl : SimO K E tl ml) (hh : SimO K E th mh) : Sim K E (tSl (rSlA K) ta tl th) (eCutT ma ml mh) := by
  intro S F H σ Γ Q e en p
  refine ha.bind e en p fun r x F1 H1 fp q st ro nw => ?_
  have p := (show Post K S E Q F H ((ma Γ).bind _) from p)
  rw [q] at p
  have p1 := Post.up st p
  have en1 := en.step st.ff st.hh
  refine hl.bind st.fh en1 p1 fun l F2 H2 st2 p2 => ?_
  have en2 := en1.step st2.ff st2.hh
  refine hh.bind st2.fh en2 p2 fun u F3 H3 st3 p3 => ?_
  have p4 : Post K S E Q F3 H3 (cutT r l u) := p3
  obtain ⟨fz, o⟩ := ((ro.step st2.ff st2.hh).step st3.ff st3.hh).ow
  obtain ⟨fl, s⟩ := r
  cases s with
  | node _ _ => exact p4.elim
  | dat d =>
    cases d with
    | tuple ds =>
      have p4 : Post K S E Q F3 H3 (.ok ⟨.own, .dat (.tuple (cutD ds l u))⟩) := p4
      have o : Ow K F3 H3 x (.dat (.tuple ds)) fz := o
      cases o with
      | dat hd =>
        obtain ⟨a, xs, rfl, hF, all⟩ := tup_inv hd
        have ll := dpAll_len all
        refine ⟨a, xs, rfl, SqT.of (st3.fh _ _ hF), fun hfull => ?_, fun _ b hb => ?_⟩
        · refine p4 _ F3 H3 [] (Step.refl st3.fh) (.dat ?_) New.nil
          have ec : cutD ds l u = ds := by
            unfold cutD
            rw [← ll, hfull.1, hfull.2, List.drop_zero, Nat.sub_zero, ll, List.take_length]
          rw [ec]
          exact hd
        · obtain ⟨s1, s2⟩ := new_tup st3.fh hb (dqAll_cut all l u)
          exact p4 _ _ _ [] s1 (.dat s2) New.nil
    | _ => exact p4.elim
theorem od_addT {X : Cx} : OpD X (binaryOp .Add) pAddT := by
  refine OpR.via fun x y H Q q => ⟨_, op_catA, ?_⟩
  obtain ⟨F, ss, s, e, ol, fs, k⟩ := q
  obtain ⟨a, b, fa, fb, rfl, oa, ob⟩ := owL_2 ol
  unfold pAddT at fs
  split at fs
  · rename_i ds es heq
    cases heq
    split at fs
    · rename_i hlen
      cases fs
      cases oa with
      | dat h1 =>
        cases ob with
        | dat h2 =>
          obtain ⟨a1, xs, rfl, f1, t1⟩ := tup_inv h1
          obtain ⟨a2, ys, rfl, f2, t2⟩ := tup_inv h2
          have l1 := dpAll_len t1
          have l2 := dpAll_len t2
          refine ⟨a1, a2, xs, ys, rfl, rfl, SqT.of (e _ _ f1), SqT.of (e _ _ f2), by rw [l1, l2]; exact most_ok hlen, fun hx => ?_, fun _ hy => ?_, fun _ _ p hp => ?_⟩
          · subst hx
            cases t1
            exact k _ F H [] (Step.refl e) (.dat h2) New.nil
          · subst hy
            cases t2
            refine k _ F H [] (Step.refl e) (.dat ?_) New.nil
            rw [List.append_nil]
            exact h1
          · obtain ⟨s1, s2⟩ := new_tup e hp (dqAll_append t1 t2)
            exact k _ _ _ [] s1 (.dat s2) New.nil
    · cases fs
  · cases fs
/-! a place as a value -/
def at1 (o : Option Rv) : Rz Rv := match o with
  | some ⟨_, .dat d⟩ => .ok ⟨.own, .dat d⟩
  | some ⟨.par, s⟩ => .ok ⟨.par, s⟩
  | some ⟨_, s⟩ => .ok ⟨.bor, s⟩
  | none => .no
def eAt (pl : MrP) : Mr := fun Γ => at1 (atG Γ (pl Γ))
theorem owAll_sub : ∀ {vs : List V} {xs : List Sl} {fp : List Addr} {j : Nat} {x : Sl}, OwAll K F H vs xs fp → xs[j]? = some x → ∃ v fz, vs[j]? = some v ∧ Ow K F H v x fz ∧ ∀ a ∈ fz, a ∈ fp
  | _, _, _, _, _, .nil, e => by cases e
  | _, _, _, 0, _, .cons h _, e => by
    cases e
    exact ⟨_, _, rfl, h, fun a m => List.mem_append_left _ m⟩
  | _, _, _, _ + 1, _, .cons _ t, e => by
    obtain ⟨v, fz, e1, o, s⟩ := owAll_sub t (by simpa using e)
    exact ⟨v, fz, by simpa using e1, o, fun a m => List.mem_append_right _ (s a m)⟩
theorem ow_sub : ∀ (p : List Nat) {v : V} {s s' : Sl} {fp : List Addr}, Ow K F H v s fp → subT s p = some s' → ∃ v' fp', At K H v s p v' s' ∧ Ow K F H v' s' fp' ∧ ∀ a ∈ fp', a ∈ fp
  | [], v, s, s', fp, h, e => by
    unfold subT at e
    cases e
    exact ⟨v, fp, .nil, h, fun a m => m⟩
  | j :: p, v, .dat d, s', fp, h, e => by
    unfold subT at e
    cases e
  | j :: p, _, .node k xs, s', _, .node ha sh t, e => by
    unfold subT at e
    cases hx : xs[j]? with
    | none =>
      rw [hx] at e
      cases e
    | some x =>
      rw [hx] at e
      obtain ⟨w, fw, e1, ow, s1⟩ := owAll_sub t hx
      obtain ⟨v', fp', a1, o', s2⟩ := ow_sub p ow e
      exact ⟨v', fp', .cons ha sh e1 hx a1, o', fun b m => List.mem_cons_of_mem _ (s1 b (s2 b m))⟩
theorem sim_at {t : TE} {pl : MrP} (hP : SimP K t pl) : Sim K E t (eAt pl) := by
  intro S F H σ Γ Q e en p
  have p0 : Post K S E Q F H (at1 (atG Γ (pl Γ))) := p
  cases hpl : pl Γ with
  | none =>
    rw [hpl] at p0
    exact p0.elim
  | some ip =>
    obtain ⟨i, pa⟩ := ip
    rw [hpl] at p0
    cases hg : gt Γ i with
    | none =>
      unfold atG at p0
      dsimp only at p0
      rw [hg] at p0
      exact p0.elim
    | some o =>
      cases o with
      | none =>
        unfold atG at p0
        dsimp only at p0
        rw [hg] at p0
        exact p0.elim
      | some r =>
        unfold atG at p0
        dsimp only at p0
        rw [hg] at p0
        dsimp only at p0
        have hgi : Γ[i]? = some (some r) := by
          rw [gt_eq]
          exact hg
        obtain ⟨v, fp, hv, ow, hS⟩ := en.at_ i r hgi
        cases hs : subT r.s pa with
        | none =>
          rw [hs] at p0
          exact p0.elim
        | some s' =>
          rw [hs] at p0
          obtain ⟨v', fp', a1, o', sub⟩ := ow_sub pa ow hs
          refine hP H σ Γ Q i pa r v v' s' hpl hgi hv a1 ?_
          obtain ⟨fl, s0⟩ := r
          cases s' with
          | dat d =>
            have p0 : Post K S E Q F H (.ok ⟨.own, .dat d⟩) := by
              cases fl <;> exact p0
            cases o' with
            | dat hd => exact p0 _ F H [] (Step.refl e) (.dat hd) New.nil
          | node k xs =>
            cases fl with
            | own => exact p0 _ F H [] (Step.refl e) ⟨rfl, fp', o'⟩ New.nil
            | par => exact p0 _ F H [] (Step.refl e) ⟨rfl, fp', o', fun b m => hS rfl b (sub b m)⟩ New.nil
            | bor => exact p0 _ F H [] (Step.refl e) ⟨rfl, fp', o'⟩ New.nil
end
section
variable {X : Cx} {E : XK} {np : Nat} {a b e : Expr} {ma mb : Mr} {ta tb : TE} {pos p2 p3 p4 apos tpos : Pos} {mp : MrP} {tp : TE}
theorem px_cutT {lo hi : Option Expr} {ml mh : MrO} {tl th : TO} (ha : Px X E a ma ta) (hl : PxO X E lo ml tl) (hh : PxO X E hi mh th) : Px X E (.Subscript a (.Slice lo hi none p2) pos) (eCutT ma ml mh) (tSl (rSlA X.K) ta tl th) :=
  ⟨pe_slice sl_tupA ha.pe hl.po hh.po, sim_cutT ha.sim hl.sim hh.sim⟩
theorem px_at (h : PxP X e mp tp) : Px X E e (eAt mp) tp := ⟨h.pe, sim_at h.sim⟩
theorem px_dnew : Px X E (.Dict [] [] pos) eDNew tDNewK := ⟨pe_dnewK, sim_dnew⟩
theorem px_disp2 {k1 k2 : Str} {j1 j2 : Nat} (ha : Px X E a ma ta) (hb : Px X E b mb tb) (hne : k1 ≠ k2 := by decide) :
    Px X E (.Dict [some (.Constant (.str k1) j1 p2), some (.Constant (.str k2) j2 p3)] [a, b] pos) (eDisp2 k1 k2 ma mb) (tDisp [(tC (.str k1), ta), (tC (.str k2), tb)]) :=
  ⟨pe_disp (pps_cons pe_str ha.pe (pps_cons pe_str hb.pe pps_nil)) rfl rfl (by intro z; cases z) (by show 2 ≤ 15; decide), sim_disp2 hne ha.sim hb.sim⟩
theorem pxs_aug {i : Nat} {cs : List Str} {f x : Str} (hN : X.N[i]? = some x) (hv : Vis X.env.scope x) (hc : ∀ c ∈ cs, Cls X.K (He.ga X.K c) ∧ NoAttr X.K (He.ga X.K c) f) (he : Px X E e ma ta) (hd : (x == ("__debug__" : Str)) = false := by decide) (hcd : (x == ("__classdict__" : Str)) = false := by decide) :
    PxS X E np (.AugAssign (.Attribute (.Name x p2) f tpos) .Add e pos) (sAugF i cs f ma) (sFldAug X.K (tVar i) ta (rI0 fun i j => .int (i + j)) f) := ⟨ps_fldaug (pe_var hN hv hd hcd) he.pe (fun pins s σ H x y u v Q I rx ry q => iop_add pins s σ H x y u v Q I rx ry q), simS_aug hc he.sim⟩
end
end Pf

/-! Pf39: owned slots handed back as a tuple; methods without arguments; one of several classes. -/
namespace Pf
open PySem L2
def takeS : List Nat → Gm → Option (List Sl × Gm)
  | [], Γ => some ([], Γ)
  | i :: is, Γ => match gt Γ i with
    | some (some ⟨.own, s⟩) => (takeS is (Γ.set i none)).map fun q => (s :: q.1, q.2)
    | _ => none
def ret2 (o : Option (List Sl × Gm)) : Oz := match o with
  | some (ss, Γ') => if ss.length ≤ most then .rt ⟨.own, .node .T ss⟩ Γ' else .no
  | none => .no
def sRetT (is : List Nat) : MrS := fun Γ => ret2 (takeS is Γ)
def tVars : List Nat → TA
  | [] => tNil
  | i :: is => tCons (tVar i) (tVars is)
section
variable {K : PySem.W.Frag} {E : XK} {np : Nat} {B : Bs} {F H : Hp} {σ : L2.St} {Γ : Gm} {R : List Addr}
theorem EnvR.take1 {i : Nat} {s : Sl} (h : EnvR K B F H σ Γ R) (e : Γ[i]? = some (some ⟨.own, s⟩)) :
    ∃ v fq, σ[i]? = some (some v) ∧ Ow K F H v s fq ∧ fq.Nodup ∧ FitB B F fq ∧ (∀ a ∈ fq, a ∉ R) ∧ EnvR K B F H σ (Γ.set i none) (R ++ fq) := by
  obtain ⟨f, h1, h2, h3⟩ := h.ex
  obtain ⟨v, hv, ow, nd, ft⟩ := h1 i _ e
  refine ⟨v, f i, hv, ow, nd, ft, fun a m => h3 i _ a e m, h.st, by rw [List.length_set]; exact h.len, h.pin, f, fun j r q => ?_, fun j l r r' a hne q1 q2 m => ?_, fun j r a q m mR => ?_⟩
  · rw [List.getElem?_set] at q
    by_cases hj : i = j
    · rw [if_pos hj] at q
      split at q <;> cases q
    · rw [if_neg hj] at q
      exact h1 j r q
  · rw [List.getElem?_set] at q1 q2
    by_cases hj : i = j
    · rw [if_pos hj] at q1
      split at q1 <;> cases q1
    · by_cases hl : i = l
      · rw [if_pos hl] at q2
        split at q2 <;> cases q2
      · rw [if_neg hj] at q1
        rw [if_neg hl] at q2
        exact h2 j l r r' a hne q1 q2 m
  · rw [List.getElem?_set] at q
    by_cases hj : i = j
    · rw [if_pos hj] at q
      split at q <;> cases q
    · rw [if_neg hj] at q
      rcases List.mem_append.mp mR with mR | mR
      · exact h3 j r a q m mR
      · exact h2 i j _ r a hj e q mR m
theorem takes_ok : ∀ (is : List Nat) {Γ : Gm} {R : List Addr} {ss : List Sl} {Γ' : Gm}, EnvR K B F H σ Γ R → takeS is Γ = some (ss, Γ') →
    ∃ vs fq, (∀ Q' : List V → Hp → Prop, Q' vs H → tVars is σ H Q') ∧ OwAll K F H vs ss fq ∧ fq.Nodup ∧ FitB B F fq ∧ (∀ a ∈ fq, a ∉ R) ∧ EnvR K B F H σ Γ' (R ++ fq)
  | [], Γ, R, ss, Γ', h, e => by
    cases e
    exact ⟨[], [], fun Q' q => q, .nil, List.nodup_nil, (fun _ m => by cases m), (fun _ m => by cases m), by rw [List.append_nil]; exact h⟩
  | i :: is, Γ, R, ss, Γ', h, e => by
    unfold takeS at e
    split at e
    · rename_i s hg
      have hgi : Γ[i]? = some (some ⟨.own, s⟩) := by
        rw [gt_eq]
        exact hg
      cases hq : takeS is (Γ.set i none) with
      | none =>
        rw [hq] at e
        cases e
      | some q =>
        rw [hq] at e
        obtain ⟨ss', Γ2⟩ := q
        cases e
        obtain ⟨v, f1, hv, ow, n1, t1, d1, h1⟩ := h.take1 hgi
        obtain ⟨vs, f2, k2, o2, n2, t2, d2, h2⟩ := takes_ok is h1 hq
        refine ⟨v :: vs, f1 ++ f2, fun Q' q => ⟨v, hv, k2 _ q⟩, .cons ow o2, ?_, fun a m => (List.mem_append.mp m).elim (t1 a) (t2 a), fun a m => ?_, by rw [← List.append_assoc]; exact h2⟩
        · exact List.nodup_append.mpr ⟨n1, n2, fun a m1 b m2 z => by
            subst z
            exact d2 a m2 (List.mem_append_right _ m1)⟩
        · rcases List.mem_append.mp m with m | m
          · exact d1 a m
          · exact fun mR => d2 a m (List.mem_append_left _ mR)
    · cases e
theorem simS_retT {is : List Nat} : SimS K E np (tRet (tTup (tVars is))) (sRetT is) := by
  intro B F H σ Γ D hp en p
  have p0 : PostS K B E D (ret2 (takeS is Γ)) := p
  cases hq : takeS is Γ with
  | none =>
    rw [hq] at p0
    exact p0.elim
  | some q =>
    obtain ⟨ss, Γ'⟩ := q
    rw [hq] at p0
    have p1 : PostS K B E D (if ss.length ≤ most then .rt ⟨.own, .node .T ss⟩ Γ' else .no) := p0
    by_cases hl : ss.length ≤ most
    · rw [if_pos hl] at p1
      obtain ⟨vs, fq, k, oa, nd, ft, _, er⟩ := takes_ok is en.r0 hq
      rw [List.nil_append] at er
      refine k _ ⟨by rw [owAll_len oa]; exact most_ok hl, fun a ha => ?_⟩
      have fa : F a = none := en.st.fh.free ha
      have up : Same H (upd H a (.tup vs)) := fun b o q => by
        rw [upd_ne (ne_of_none q ha)]
        exact q
      have st : Step F H F (upd H a (.tup vs)) := Step.grow en.st.fh up
      have naq : a ∉ fq := fun m => owAll_dom oa a m ha
      have ft' : FitB B F (a :: fq) := fun b m => by
        rcases List.mem_cons.mp m with rfl | m
        · refine ⟨fa, ?_⟩
          by_cases hm : B.M b
          · exact .inr hm
          · cases q : B.H b with
            | none => exact .inl rfl
            | some o =>
              have := en.st.hh b o hm q
              rw [ha] at this
              cases this
        · exact ft b m
      obtain ⟨f, h1, h2, h3⟩ := er.ex
      have er2 : EnvR K B F (upd H a (.tup vs)) σ Γ' (a :: fq) := ⟨er.st.step st, er.len, er.pin, f, fun i r q => let ⟨v, x, y⟩ := h1 i r q; ⟨v, x, y.step st⟩, h2, fun i r b q m mR => by
        rcases List.mem_cons.mp mR with rfl | mR
        · obtain ⟨v, _, so⟩ := h1 i r q
          exact so.dom _ m ha
        · exact h3 i r b q m mR⟩
      refine p1 _ F _ σ (er2.push ⟨.node (o := .tup vs) upd_same rfl (owAll_mono (Same.refl F) oa fun b m o q => up b o q), List.nodup_cons.mpr ⟨naq, nd⟩, ft'⟩)
    · rw [if_neg hl] at p1
      exact p1.elim
end
section
variable {X : Cx} {E : XK} {np : Nat} {a e : Expr} {es : List Expr} {ma : Mr} {ta : TE} {pos p apos : Pos} {CX : CXT} {k : Nat} {f : Addr} {fd : FuncData} {ps : List Str} {m : Fm} {c n : Str}
/-- names in a row -/
inductive PVs (X : Cx) : List Expr → List Nat → Prop
  | nil : PVs X [] []
  | cons {x : Str} {i : Nat} {pos : Pos} {es : List Expr} {is : List Nat} : PE X (.Name x pos) (tVar i) → starEach (.Name x pos :: es) X.env = (false, eval (.Name x pos) X.env) :: starEach es X.env → PVs X es is → PVs X (.Name x pos :: es) (i :: is)
theorem PVs.pa {is : List Nat} (h : PVs X es is) : PA X es (tVars is) := by
  induction h with
  | nil => exact pa_nil
  | cons h1 h2 _ ih => exact pa_cons h1 ih h2
theorem pvs_cons (i : Nat) {x : Str} {is : List Nat} (h : PVs X es is) (hN : X.N[i]? = some x := by rfl) (hv : Vis X.env.scope x := by first | exact Or.inl rfl | exact Or.inr (Or.inl rfl) | exact Or.inr (Or.inr rfl)) (hd : (x == ("__debug__" : Str)) = false := by decide) (hcd : (x == ("__classdict__" : Str)) = false := by decide)
    (hs : starEach (.Name x pos :: es) X.env = (false, eval (.Name x pos) X.env) :: starEach es X.env := by rfl) : PVs X (.Name x pos :: es) (i :: is) := .cons (pe_var hN hv hd hcd) hs h
theorem pxs_retT {is : List Nat} {kt : Nat} (h : PVs X es is) : PxS X E np (.Return (some (.Tuple es kt p)) pos) (sRetT is) (tRet (tTup (tVars is))) := ⟨ps_ret (pe_tup h.pa), simS_retT⟩
theorem px_meth0 {pl : Sem Bool} (ha : Px X E a ma ta) (cc : Cls X.K (He.ga X.K c)) (hm : Meth X.K (He.ga X.K c) n f) (F : FnOk X.prog X.w X.K X.mg X.base CX k f fd ps (spM X.K m)) (hr : Room k X.A) (hb : Binds X.K fd ps []) (hx : Passes CX X E)
    (ht : eval (.Call (.Attribute a n apos) [] [] pos) X.env = (do
      let ov ← eval a X.env
      standAt apos.atName
      let (f, first) ← holding [ov] (getMethod ov n pl)
      callWith pos f first (backTo pos (starEach [] X.env)) (backToKw pos (keywordEach [] X.env))) := by rfl) :
    Px X E (.Call (.Attribute a n apos) [] [] pos) (eMeth c n m ma eNil) (tMeth (He.ga X.K c) n (spM X.K m) [] E ta tNil) := ⟨pe_meth0 (pl := pl) ha.pe cc hm F hr hb .nil hx ht, sim_meth ha.sim simA_nil⟩
/-- by the class of what stands there -/
def clsOf (z : Rz Rv) : Option Str := match z with
  | .ok ⟨_, .node (.O c _) _⟩ => some c
  | _ => none
def eByC (c : Str) (a m1 m2 : Mr) : Mr := fun Γ => if clsOf (a Γ) = some c then m1 Γ else m2 Γ
theorem px_byC {m1 m2 : Mr} {t1 t2 : TE} (c : Str) (mo : Mr) (h1 : Px X E e m1 t1) (h2 : Px X E e m2 t2) : Px X E e (eByC c mo m1 m2) (fun σ H Q => t1 σ H Q ∨ t2 σ H Q) :=
  ⟨⟨fun pins s σ H Q I h => h.elim (fun q => h1.pe.run pins s σ H Q I q) (fun q => h2.pe.run pins s σ H Q I q)⟩, fun S F H σ Γ Q e en p => by
    have p : Post X.K S E Q F H (if clsOf (mo Γ) = some c then m1 Γ else m2 Γ) := p
    by_cases hc : clsOf (mo Γ) = some c
    · rw [if_pos hc] at p
      exact .inl (h1.sim S F H σ Γ Q e en p)
    · rw [if_neg hc] at p
      exact .inr (h2.sim S F H σ Γ Q e en p)⟩
end
end Pf

/-! Pf40: C() of a class without __init__; a slot frozen behind a statement; is True, is False. -/
namespace Pf
open PySem L2
def tMakeO (C : Addr) : TE := fun _ H Q => ∀ x dx, H x = none → H dx = none → dx ≠ x → Q (.ref x) (upd (upd H dx (.own x)) x (.ins C dx []))
structure MkO (K : PySem.W.Frag) (C : Addr) : Prop where
  makes : PySem.W.makesIn K C = true
  init : PySem.W.findIn K (.ref C) "__init__" = some (some (.builtin "object.__init__"))
  kp : PySem.W.keepIn K (.ref C) = true
def mkoB (K : PySem.W.Frag) (c : Str) : Bool := PySem.W.makesIn K (He.ga K c) && (He.eqO (PySem.W.findIn K (.ref (He.ga K c)) "__init__") (some (some (.builtin "object.__init__"))) && PySem.W.keepIn K (.ref (He.ga K c)))
theorem mkoB_ok {K : PySem.W.Frag} {c : Str} (h : mkoB K c = true) : MkO K (He.ga K c) := by
  obtain ⟨h1, h2⟩ := He.ba h
  obtain ⟨h3, h4⟩ := He.ba h2
  exact ⟨h1, He.eqO_ok h3, h4⟩
def eMakeO (c : Str) : Mr := fun _ => .ok ⟨.own, .node (.O c []) []⟩
section
variable {X : Cx} {E : XK} {K : PySem.W.Frag} {p pos : Pos} {x : Str}
theorem pe_makeO {C : Addr} (M : MkO X.K C) (hg : Gl X x) (hm : X.mg x = some (.ref C)) (hdb : (x == ("__debug__" : Str)) = false := by decide) : PE X (.Call (.Name x p) [] [] pos) (tMakeO C) := by
  constructor
  intro pins s σ H Q I h
  have hq := h (s.heap.objs.size + 1) s.heap.objs.size (I.hok.fresh (Nat.le_succ _)) (I.hok.fresh (Nat.le_refl _)) (Nat.ne_of_lt (Nat.lt_succ_self _))
  have g2 : ((s.heap.push PySem.W.emptyDict).push (PySem.W.instObj C s.heap.objs.size)).get? (s.heap.objs.size + 1) = some (PySem.W.instObj C s.heap.objs.size) := by
    have z := Heap.get?_push_size (s.heap.push PySem.W.emptyDict) (o := PySem.W.instObj C s.heap.objs.size) rfl
    rwa [Heap.size_push] at z
  have mk := PySem.W.makes_of (M := model X.prog X.w) I.kIn M.makes
  have ty : PySem.W.Looks (model X.prog X.w) ((s.heap.push PySem.W.emptyDict).push (PySem.W.instObj C s.heap.objs.size)) (typeOf (.ref (s.heap.objs.size + 1))) (.ref C) := (PySem.W.Looks.ld g2).andThen .now
  have isO : PySem.W.Looks (model X.prog X.w) ((s.heap.push PySem.W.emptyDict).push (PySem.W.instObj C s.heap.objs.size)) (isInstance (.ref (s.heap.objs.size + 1)) (.type "object")) true := ty.andThen (mk.top.keeps fun b o q => Heap.get?_push_of_some _ (Heap.get?_push_of_some _ q))
  refine wpAny_Call_Name_kw (ld_glob I hg hm (PySem.W.callWith_K0 I.kIn M.kp (wpAny_call (make_map0 I.kIn M.makes M.init (fun self => PySem.W.Looks.of_pure (PySem.W.oi_bind self)) ?_))) hdb)
  refine codeAny_call_builtin PySem.W.oi_plain PySem.W.entry_oi (PySem.W.check_slot (rest := []) (kw := []) PySem.W.oi_kind PySem.W.oi_split isO (PySem.W.oi_args _) ?_)
  rw [PySem.W.oi_run]
  exact wpAny_pure ⟨rfl, ⟨V.ref (s.heap.objs.size + 1), _, Inv.made (C := C) I, rfl, hq⟩⟩
theorem sim_makeO {c : Str} : Sim K E (tMakeO (He.ga K c)) (eMakeO c) := by
  intro S F H σ Γ Q e en p
  intro x dx hx hdx hne
  have k1 : ∀ a o, H a = some o → (upd (upd H dx (.own x)) x (.ins (He.ga K c) dx [])) a = some o := fun a o z => by
    rw [upd_ne (ne_of_none z hx), upd_ne (ne_of_none z hdx)]
    exact z
  refine p (.ref x) F _ [x] (Step.grow e k1) (Ow.node (vs := []) (xs := []) upd_same ⟨rfl, dx, rfl⟩ .nil) ⟨List.nodup_cons.mpr ⟨(fun m => nomatch m), List.nodup_nil⟩, fun a m => ?_, fun a m => ?_⟩
  · cases List.mem_singleton.mp m
    exact e.free hx
  · cases List.mem_singleton.mp m
    exact hx
theorem px_makeO (M : MkO X.K (He.ga X.K x)) (hg : Gl X x) (hm : X.mg x = some (.ref (He.ga X.K x))) (hdb : (x == ("__debug__" : Str)) = false := by decide) : Px X E (.Call (.Name x p) [] [] pos) (eMakeO x) (tMakeO (He.ga X.K x)) := ⟨pe_makeO M hg hm hdb, sim_makeO⟩
end
/-! ### freezing behind a statement -/
def frz1 (Γ : Gm) (i : Nat) : Gm := match gt Γ i with
  | some (some ⟨.own, s⟩) => (match toD s with
    | some d => Γ.set i (some ⟨.own, .dat d⟩)
    | none => Γ)
  | _ => Γ
def frzOz (is : List Nat) (z : Oz) : Oz := match z with
  | .nx Γ => .nx (is.foldl frz1 Γ)
  | z => z
def sFz (is : List Nat) (m : MrS) : MrS := fun Γ => frzOz is (m Γ)
section
variable {K : PySem.W.Frag} {E : XK} {np : Nat} {B : Bs} {F H : Hp} {σ : L2.St} {Γ : Gm}
theorem EnvS.freeze {i : Nat} {s : Sl} {d : PyData} (h : EnvS K B F H σ Γ) (e : Γ[i]? = some (some ⟨.own, s⟩)) (hd : toD s = some d) : ∃ F', EnvS K B F' H σ (Γ.set i (some ⟨.own, .dat d⟩)) := by
  obtain ⟨f, h1, h2⟩ := h.ex
  obtain ⟨v, hv, ow, nd, ft⟩ := h1 i _ e
  have ow : Ow K F H v s (f i) := ow
  have sm : Same F (plus F H (f i)) := plus_same fun a m => (ft a m).1
  have dq : Dq (plus F H (f i)) v d := ow_read sm ow (fun a m o q => by rw [plus_in m]; exact q) hd
  refine ⟨plus F H (f i), ⟨h.st.ff.trans sm, plus_fh h.st.fh, h.st.hh, fun a m q z => ?_, h.st.hS⟩, by rw [List.length_set]; exact h.len, h.pin, fun j => if j = i then [] else f j, fun j r q => ?_, fun j l r r' a hne q1 q2 m => ?_⟩
  · rw [plus_out (fun mm => (ft a mm).2.elim q m)]
    exact h.st.nw a m q z
  · rw [List.getElem?_set] at q
    by_cases hj : i = j
    · subst hj
      rw [if_pos rfl] at q
      split at q
      · cases q
        refine ⟨v, hv, ?_⟩
        show SlotOk K B _ H v ⟨.own, .dat d⟩ (if i = i then [] else f i)
        rw [if_pos rfl]
        exact ⟨.dat dq, List.nodup_nil, fun _ m => by cases m⟩
      · cases q
    · rw [if_neg hj] at q
      obtain ⟨w, hw, so⟩ := h1 j r q
      refine ⟨w, hw, ?_⟩
      show SlotOk K B _ H w r (if j = i then [] else f j)
      rw [if_neg (fun z => hj z.symm)]
      obtain ⟨fl, sj⟩ := r
      cases fl with
      | own =>
        obtain ⟨o1, o2, o3⟩ := so
        exact ⟨ow_mono sm o1 fun _ _ _ z => z, o2, fun a m => ⟨by rw [plus_out (fun mm => h2 i j _ _ a hj e q mm m)]; exact (o3 a m).1, (o3 a m).2⟩⟩
      | par =>
        obtain ⟨e1, fz, o1, s1⟩ := so
        exact ⟨e1, fz, ow_mono sm o1 fun _ _ _ z => z, s1⟩
      | bor => exact so.elim
  · rw [List.getElem?_set] at q1 q2
    have m : a ∈ (if j = i then [] else f j) := m
    show a ∉ (if l = i then [] else f l)
    by_cases hj : j = i
    · rw [if_pos hj] at m
      cases m
    · by_cases hl : l = i
      · rw [if_pos hl]
        exact fun mm => by cases mm
      · rw [if_neg hl]
        rw [if_neg hj] at m
        rw [if_neg (fun z => hj z.symm)] at q1
        rw [if_neg (fun z => hl z.symm)] at q2
        exact h2 j l r r' a hne q1 q2 m
theorem EnvS.frz1 (h : EnvS K B F H σ Γ) (i : Nat) : ∃ F', EnvS K B F' H σ (frz1 Γ i) := by
  unfold Pf.frz1
  cases hg : gt Γ i with
  | none => exact ⟨F, h⟩
  | some o =>
    cases o with
    | none => exact ⟨F, h⟩
    | some r =>
      obtain ⟨fl, s⟩ := r
      cases fl with
      | par => exact ⟨F, h⟩
      | bor => exact ⟨F, h⟩
      | own =>
        dsimp only
        cases hd : toD s with
        | none => exact ⟨F, h⟩
        | some d => exact h.freeze (by rw [gt_eq]; exact hg) hd
theorem EnvS.frzs : ∀ (is : List Nat) {F : Hp} {Γ : Gm}, EnvS K B F H σ Γ → ∃ F', EnvS K B F' H σ (is.foldl Pf.frz1 Γ)
  | [], F, Γ, h => ⟨F, h⟩
  | i :: is, F, Γ, h => by
    obtain ⟨F1, h1⟩ := h.frz1 i
    exact EnvS.frzs is h1
theorem simS_fz {t : TS} {m : MrS} (is : List Nat) (h : SimS K E np t m) : SimS K E np t (sFz is m) := by
  intro B F H σ Γ D hp en p
  have p0 : PostS K B E D (frzOz is (m Γ)) := p
  refine h B F H σ Γ D hp en ?_
  cases q : m Γ with
  | nx Γ' =>
    rw [q] at p0
    intro F' H' σ' es
    obtain ⟨F2, h2⟩ := es.frzs is
    exact p0 F2 H' σ' h2
  | _ =>
    rw [q] at p0
    exact p0
end
section
variable {X : Cx} {E : XK} {np : Nat} {st : Stmt} {m : MrS} {t : TS}
theorem pxs_fz (is : List Nat) (h : PxS X E np st m t) : PxS X E np st (sFz is m) t := ⟨h.ps, simS_fz is h.sim⟩
end
/-! ### is, of bools -/
def pIsB : List Sl → Option Sl
  | [.dat (.bool a), .dat (.bool b)] => some (.dat (.bool (decide (a = b))))
  | _ => none
def pNotB : List Sl → Option Sl
  | [.dat (.bool a), .dat (.bool b)] => some (.dat (.bool (!decide (a = b))))
  | _ => none
theorem od_isB {X : Cx} : OpD X (compareOp .Is) pIsB := by
  refine OpR.via fun x y H Q q => ⟨_, op_isBl, ?_⟩
  obtain ⟨F, ss, s, e, ol, fs, k⟩ := q
  obtain ⟨a, b, fa, fb, rfl, oa, ob⟩ := owL_2 ol
  unfold pIsB at fs
  split at fs
  · rename_i a b heq
    cases heq
    cases fs
    exact ⟨a, b, ow_bool oa, ow_bool ob, k _ F H [] (Step.refl e) (.dat (.bl _)) New.nil⟩
  · cases fs
theorem od_notB {X : Cx} : OpD X (compareOp .IsNot) pNotB := by
  refine OpR.via fun x y H Q q => ⟨_, op_notBl, ?_⟩
  obtain ⟨F, ss, s, e, ol, fs, k⟩ := q
  obtain ⟨a, b, fa, fb, rfl, oa, ob⟩ := owL_2 ol
  unfold pNotB at fs
  split at fs
  · rename_i a b heq
    cases heq
    cases fs
    exact ⟨a, b, ow_bool oa, ow_bool ob, k _ F H [] (Step.refl e) (.dat (.bl _)) New.nil⟩
  · cases fs
end Pf

/-! Pf41: list(range(a, b, c)); room facts. -/
namespace Pf
open PySem PySem.Spec PyProof.Rows L2
theorem u1 {k : Nat} {A : Around} (h : Room k A) : A.units + 1 < cLine := by
  have := h.un
  omega
def vR3 (i k : Int) (n : Nat) : List V := (List.range n).map fun (m : Nat) => V.int (i + (m : Int) * k)
def tLstR3 (t : TA) : TE := fun σ H Q => t σ H fun vs H1 => ∃ i j k n, vs = [V.int i, V.int j, V.int k] ∧ (0 < k ∧ k < 1073741824) ∧ Builtin.Range.small i j k = true ∧ Builtin.Range.rangeSize i j k = (n : Nat) ∧ n ≤ 2 ^ 20 ∧ ∀ q, H1 q = none → Q (.ref q) (upd H1 q (.lst (vR3 i k n)))
section
variable {X : Cx} {E : XK} {a b c : Expr} {ta : TA} {p p2 q pos : Pos}
theorem vals_r3 {i k : Int} {n : Nat} {acc : Array Value} (h : ItemsOf (fun m v => ∃ t, v = .int (i + m * k) t) acc n) : Vals (vR3 i k n) acc.toList := by
  have el : acc.toList.length = acc.size := by simp
  refine vals_of_at (by unfold vR3; rw [List.length_map, List.length_range, el, h.1]) fun j x w h1 h2 => ?_
  obtain ⟨t, rfl⟩ := h.2 j w (by rw [← Array.getElem?_toList]; exact h2)
  unfold vR3 at h1
  rw [List.getElem?_map] at h1
  cases hr : (List.range n)[j]? with
  | none =>
    rw [hr] at h1
    cases h1
  | some m =>
    rw [hr] at h1
    cases h1
    obtain ⟨hj, e⟩ := List.getElem?_eq_some_iff.mp hr
    rw [List.getElem_range] at e
    subst e
    exact ⟨t, rfl⟩
theorem pe_listR3 (hc : X.calm = true) (hg : Gl X "list") (hm : X.mg "list" = none) (hg2 : Gl X "range") (hm2 : X.mg "range" = none) (ha : PA X [a, b, c] ta)
    (hs : starEach [a, b, c] X.env = (false, eval a X.env) :: starEach [b, c] X.env := by rfl) (hpl : (backTo q (starEach [b, c] X.env)).any (·.1) = false := by rfl)
    (na : starEach [.Call (.Name "range" p2) [a, b, c] [] q] X.env = (false, eval (.Call (.Name "range" p2) [a, b, c] [] q) X.env) :: starEach [] X.env := by rfl) :
    PE X (.Call (.Name "list" p) [.Call (.Name "range" p2) [a, b, c] [] q] [] pos) (tLstR3 ta) := by
  constructor
  intro pins s σ H Q I h
  refine Call_ (ld_blt I hg hm boot_list (PyProof.Rows.callWith_type1 (args_cons ?_ na) na))
  refine Call_ (ld_blt I hg2 hm2 boot_range (PyProof.Rows.callWith_type1 (thn (ha.run q pins s σ H _ I h) ?_) hs hpl))
  rintro us s1 ⟨vs, H1, I1, r1, i, j, k, n, rfl, k0, sm, sz, hn, fin⟩
  cases r1 with
  | cons r rr =>
    cases rr with
    | cons r' rr =>
      cases rr with
      | cons r'' rr =>
        cases rr
        obtain ⟨t, rfl⟩ := r
        obtain ⟨t', rfl⟩ := r'
        obtain ⟨t'', rfl⟩ := r''
        refine call_range_3 (by omega) (args_nil ?_) (.inl (PyProof.noPylong_small (by omega)))
        have I2 : Inv X pins σ H1 { s1 with heap := s1.heap.push { cls := .type "range", data := .fields #[.int i t, .int j t', .int k t''] } } := I1.kept (t' := s1.toks) fun b o w => Heap.get?_push_of_some _ w
        refine call_list_range (n := n) (I1.ok.hd hc) (IsRange.new _ _ _ _ _ _ _) sm sz (by omega) fun h' tk acc c' hk e' hi => ?_
        refine ⟨.ref _, upd H1 _ (.lst (vR3 i k n)), I2.laid hk (Nat.le_refl _) (show ObjOk X.prog X.w _ _ _ (.lst (vR3 i k n)) from ⟨?_, acc.toList, c', vals_r3 hi, ?_⟩), rfl, fin _ (I2.hok.fresh (Nat.le_refl _))⟩
        · unfold vR3
          rw [List.length_map, List.length_range, sizeLine_eq]
          omega
        · rw [Array.toArray_toList]
          exact e'
def lr3 (i j k : Int) : Rz Rv := if (0 < k ∧ k < 1073741824) ∧ Builtin.Range.small i j k = true ∧ Builtin.Range.rangeSize i j k = ((Builtin.Range.rangeSize i j k).toNat : Int) ∧ (Builtin.Range.rangeSize i j k).toNat ≤ 1000000 then .ok ⟨.own, newL (rngC i k (Builtin.Range.rangeSize i j k).toNat)⟩ else .no
def lrOf3 (rs : List Rv) : Rz Rv := match rs with
  | [⟨_, .dat (.int i)⟩, ⟨_, .dat (.int j)⟩, ⟨_, .dat (.int k)⟩] => lr3 i j k
  | _ => .no
def eLstR3 (as : MrA) : Mr := fun Γ => (as Γ).bind lrOf3
theorem r3_dq {F : Hp} (i k : Int) (n : Nat) : DqAll F (vR3 i k n) (rngC i k n) := by
  unfold vR3 rngC
  induction List.range n with
  | nil => exact .nil
  | cons m r ih => exact .cons (.int _) ih
theorem sim_lstR3 {K : PySem.W.Frag} {m : MrA} (h : SimA K E ta m) : Sim K E (tLstR3 ta) (eLstR3 m) := by
  intro S F H σ Γ Q e en p
  refine h.bind e en p fun rs vs F1 H1 fp q st ro nw p1 => ?_
  have p2 : Post K S E Q F H (lrOf3 rs) := p1
  unfold lrOf3 at p2
  split at p2
  · rename_i f1 i f2 j f3 k
    cases ro with
    | cons r1 t1 =>
      cases t1 with
      | cons r2 t2 =>
        cases t2 with
        | cons r3 t3 =>
          cases t3
          have e1 := rok_int r1
          have e2 := rok_int r2
          have e3 := rok_int r3
          subst e1 e2 e3
          unfold lr3 at p2
          split at p2
          · rename_i hc
            refine ⟨i, j, k, _, rfl, hc.1, hc.2.1, hc.2.2.1, by omega, fun b hb => ?_⟩
            obtain ⟨s1, s2, s3⟩ := new_list (K := K) st.fh hb (r3_dq i k (Builtin.Range.rangeSize i j k).toNat)
            exact p2 _ _ _ _ (st.trans s1) s2 ⟨s3.nd, s3.nf, fun a m => st.hh.free (s3.nh a m)⟩
          · exact p2.elim
  · exact p2.elim
theorem px_lstR3 {me : MrA} (hc : X.calm = true) (hg : Gl X "list") (hm : X.mg "list" = none) (hg2 : Gl X "range") (hm2 : X.mg "range" = none) (ha : PxA X E [a, b, c] me ta)
    (hs : starEach [a, b, c] X.env = (false, eval a X.env) :: starEach [b, c] X.env := by rfl) (hpl : (backTo q (starEach [b, c] X.env)).any (·.1) = false := by rfl)
    (na : starEach [.Call (.Name "range" p2) [a, b, c] [] q] X.env = (false, eval (.Call (.Name "range" p2) [a, b, c] [] q) X.env) :: starEach [] X.env := by rfl) :
    Px X E (.Call (.Name "list" p) [.Call (.Name "range" p2) [a, b, c] [] q] [] pos) (eLstR3 me) (tLstR3 ta) := ⟨pe_listR3 hc hg hm hg2 hm2 ha.pa hs hpl na, sim_lstR3 ha.sim⟩
end
end Pf

/-! Pf42: places, effects, dicts evaluated by simp. -/
namespace Pf
open PySem L2
section
variable {α β : Type} {Γ Γ' : Gm} {m m' m2 m3 : Mr} {ma : MrA} {c c' : MrT} {a b : MrS} {r : Rv} {s t : Sl} {d : PyData} {p : Prop} [Decidable p] {fl : Fl} {i j : Nat} {pa : List Nat} {xs : List Sl} {k : Nk} {pl : MrP}
def gL : List Sl → Nat → Option Sl
  | [], _ => none
  | x :: _, 0 => some x
  | _ :: r, n + 1 => gL r n
theorem gL_eq : ∀ (xs : List Sl) (i : Nat), xs[i]? = gL xs i
  | [], _ => rfl
  | x :: xs, 0 => rfl
  | x :: xs, n + 1 => gL_eq xs n
@[simp] theorem gL_z {x : Sl} : gL (x :: xs) 0 = some x := rfl
@[simp] theorem gL_s {x : Sl} {n : Nat} : gL (x :: xs) (n + 1) = gL xs n := rfl
@[simp] theorem ev_slot : pSlot i Γ = some (i, []) := rfl
@[simp] theorem ev_pFld {cs : List Str} {f : Str} : pFld cs f pl Γ = pf1 cs f (pl Γ) (atG Γ (pl Γ)) := rfl
@[simp] theorem ev_pKey {x : Key} : pKey x pl Γ = pk1 x (pl Γ) (atG Γ (pl Γ)) := rfl
@[simp] theorem ev_pf1 {cs : List Str} {f cl : Str} {ns : List Str} : pf1 cs f (some (i, pa)) (some ⟨fl, .node (.O cl ns) xs⟩) = if cl ∈ cs then (idxS ns f).map fun j => (i, pa ++ [j]) else none := rfl
@[simp] theorem ev_pk1 {x : Key} {ks : List Key} : pk1 x (some (i, pa)) (some ⟨fl, .node (.D ks) xs⟩) = (idxK ks x).map fun j => (i, pa ++ [j]) := rfl
def at2 (o : Option (Option Rv)) (p : List Nat) : Option Rv := match o with
  | some (some r) => (subT r.s p).map fun s => ⟨r.fl, s⟩
  | _ => none
@[simp] theorem ev_atG : atG Γ (some (i, pa)) = at2 (gt Γ i) pa := rfl
@[simp] theorem ev_at2 : at2 (some (some ⟨fl, s⟩)) pa = (subT s pa).map fun s => ⟨fl, s⟩ := rfl
@[simp] theorem ev_sub0 : subT s [] = some s := by unfold subT; rfl
@[simp] theorem ev_sub1 : subT (.node k xs) (j :: pa) = (gL xs j).bind fun x => subT x pa := by
  rw [subT, ← gL_eq]
  all_goals (cases xs[j]? <;> rfl)
@[simp] theorem ev_put0 : putT s [] t = t := by unfold putT; rfl
@[simp] theorem ev_put1 : putT (.node k xs) (j :: pa) t = (match gL xs j with | some x => .node k (xs.set j (putT x pa t)) | none => .node k xs) := by
  rw [putT, ← gL_eq]
  all_goals (cases xs[j]? <;> rfl)
@[simp] theorem ev_idx0 {f : Str} : idxS [] f = none := rfl
@[simp] theorem ev_idx1 {n f : Str} {ns : List Str} : idxS (n :: ns) f = if f = n then some 0 else (idxS ns f).map (· + 1) := rfl
@[simp] theorem ev_idk0 {f : Key} : idxK [] f = none := rfl
@[simp] theorem ev_idk1 {n f : Key} {ns : List Key} : idxK (n :: ns) f = if n = f then some 0 else (idxK ns f).map (· + 1) := rfl
@[simp] theorem ev_at : eAt pl Γ = at1 (atG Γ (pl Γ)) := rfl
@[simp] theorem ev_at1d : at1 (some ⟨fl, .dat d⟩) = .ok ⟨.own, .dat d⟩ := by cases fl <;> rfl
@[simp] theorem ev_at1p : at1 (some ⟨.par, .node k xs⟩) = .ok ⟨.par, .node k xs⟩ := rfl
@[simp] theorem ev_at1o : at1 (some ⟨.own, .node k xs⟩) = .ok ⟨.bor, .node k xs⟩ := rfl
def setO (Γ : Gm) (i : Nat) (p : List Nat) (t : Sl) (o : Option (Option Rv)) : Gm := match o with
  | some (some r) => Γ.set i (some ⟨r.fl, putT r.s p t⟩)
  | _ => Γ
@[simp] theorem ev_setG : setG Γ i pa t = setO Γ i pa t (gt Γ i) := rfl
@[simp] theorem ev_setO : setO Γ i pa t (some (some ⟨fl, s⟩)) = Γ.set i (some ⟨fl, putT s pa t⟩) := rfl
/-! fields -/
@[simp] theorem ev_fld {cs : List Str} {f : Str} : eFld cs f m Γ = (m Γ).bind fun r => match r.s with
  | .node (.O c ns) xs => if c ∈ cs then (match getF ns xs f with
    | some s => .ok (child r.fl s)
    | none => .no) else .no
  | _ => .no := rfl
@[simp] theorem ev_getF {n f : Str} {ns : List Str} {x : Sl} : getF (n :: ns) (x :: xs) f = if f = n then some x else getF ns xs f := rfl
@[simp] theorem ev_chd : child fl (.dat d) = ⟨.own, .dat d⟩ := rfl
@[simp] theorem ev_chn : child fl (.node k xs) = ⟨fl, .node k xs⟩ := rfl
def fldO (i : Nat) (cs : List Str) (f : Str) (Γ : Gm) (z : Rz Rv) (o : Option (Option Rv)) : Oz := match z with
  | .ok ⟨.own, s⟩ => (match o with
    | some (some ⟨.own, .node (.O c ns) xs⟩) => if c ∈ cs ∧ ns.length < 900 ∧ ns.length = xs.length then .nx (Γ.set i (some ⟨.own, .node (.O c (putN f s ns xs).1) (putN f s ns xs).2⟩)) else .no
    | _ => .no)
  | .er c => .er c Γ
  | _ => .no
@[simp] theorem ev_fldS {cs : List Str} {f : Str} : sFldS i cs f m Γ = fldO i cs f Γ (m Γ) (gt Γ i) := by
  rw [← gt_eq]
  rfl
@[simp] theorem ev_fldO {cs : List Str} {f cl : Str} {ns : List Str} : fldO i cs f Γ (.ok ⟨.own, s⟩) (some (some ⟨.own, .node (.O cl ns) xs⟩)) = if cl ∈ cs ∧ ns.length < 900 ∧ ns.length = xs.length then .nx (Γ.set i (some ⟨.own, .node (.O cl (putN f s ns xs).1) (putN f s ns xs).2⟩)) else .no := rfl
@[simp] theorem ev_fldE {cs : List Str} {f e : Str} {o : Option (Option Rv)} : fldO i cs f Γ (.er e) o = .er e Γ := rfl
@[simp] theorem ev_putN0 {f : Str} : putN f s [] [] = ([f], [s]) := rfl
@[simp] theorem ev_putN1 {n f : Str} {ns : List Str} {x : Sl} : putN f s (n :: ns) (x :: xs) = if n = f then (n :: ns, s :: xs) else (n :: (putN f s ns xs).1, x :: (putN f s ns xs).2) := rfl
@[simp] theorem ev_make {cl : Str} {f : Fi} : eMake cl f ma Γ = (ma Γ).bind fun rs => mk1 (f [.node (.O cl []) []] (rs.map Rv.s)) := rfl
@[simp] theorem ev_mk1 {fl : Fl} : mk1 (.ok ⟨fl, .dat .none⟩ [s]) = .ok ⟨.own, s⟩ := rfl
@[simp] theorem ev_mk1e {e : Str} {ss : List Sl} : mk1 (.er e ss) = .er e := rfl
@[simp] theorem ev_makeO {cl : Str} : eMakeO cl Γ = .ok ⟨.own, .node (.O cl []) []⟩ := rfl
@[simp] theorem ev_dnew : eDNew Γ = .ok ⟨.own, .node (.D []) []⟩ := rfl
@[simp] theorem ev_disp2 {k1 k2 : Str} : eDisp2 k1 k2 m m' Γ = (m Γ).bind fun x => (m' Γ).bind fun y => disp1 k1 k2 x y := rfl
@[simp] theorem ev_disp1 {k1 k2 : Str} {s1 s2 : Sl} : disp1 k1 k2 ⟨.own, s1⟩ ⟨.own, s2⟩ = .ok ⟨.own, .node (.D [.inr k1, .inr k2]) [s1, s2]⟩ := rfl
@[simp] theorem ev_meth {cl n : Str} {f : Fm} : eMeth cl n f m ma Γ = (m Γ).bind fun r => match r.s with
  | .node (.O c' ns) xs => if c' = cl ∧ (getF ns xs n).isNone then (ma Γ).bind fun rs => (f (r.s :: rs.map Rv.s)).bind fun r => .ok (out r) else .no
  | _ => .no := rfl
@[simp] theorem ev_getF0 {f : Str} : getF [] xs f = none := rfl
/-! effects -/
def ebi (z : Ez) (f : Rv → Gm → Ez) : Ez := match z with
  | .ok r Γ => f r Γ
  | .er c Γ => .er c Γ
  | .no => .no
@[simp] theorem ev_eE : eE m Γ = ez1 (m Γ) Γ := rfl
@[simp] theorem ev_ez1o : ez1 (.ok ⟨.own, s⟩) Γ = .ok ⟨.own, s⟩ Γ := rfl
@[simp] theorem ev_ez1e {e : Str} : ez1 (.er e) Γ = .er e Γ := rfl
@[simp] theorem ev_io {f : Fi} : eIo f pl ma Γ = io3 Γ f (ma Γ) (pl Γ) (atG Γ (pl Γ)) := rfl
@[simp] theorem ev_ioM {cl n : Str} {f : Fi} : eIoM cl n f pl ma Γ = io3 Γ f (ma Γ) (pl Γ) (chkM cl n (atG Γ (pl Γ))) := rfl
@[simp] theorem ev_chkM {cl n : Str} : chkM cl n (some r) = if isObj cl n r.s = true then some r else none := rfl
@[simp] theorem ev_isObj {cl c' n : Str} {ns : List Str} : isObj cl n (.node (.O c' ns) xs) = (decide (c' = cl) && (idxS ns n).isNone) := rfl
@[simp] theorem ev_io3 {f : Fi} {z : Rz (List Rv)} : io3 Γ f z (some (i, pa)) (some ⟨.own, s⟩) = io2 Γ i pa (fun bs => f [s] bs) z := rfl
@[simp] theorem ev_io2 {f : List Sl → Oi} {rs : List Rv} : io2 Γ i pa f (.ok rs) = if nbor rs = true then io1 Γ i pa (f (rs.map Rv.s)) else .no := rfl
@[simp] theorem ev_io2e {f : List Sl → Oi} {e : Str} : io2 Γ i pa f (.er e) = .er e Γ := rfl
@[simp] theorem ev_io1d : io1 Γ i pa (.ok ⟨fl, .dat d⟩ [t]) = .ok ⟨.own, .dat d⟩ (setG Γ i pa t) := by cases fl <;> rfl
@[simp] theorem ev_io1e {e : Str} : io1 Γ i pa (.er e [t]) = .er e (setG Γ i pa t) := rfl
@[simp] theorem ev_opE {f : List Sl → Option Sl} {me : MrE} : eOpE f me m Γ = op4 f (me Γ) m := rfl
@[simp] theorem ev_op4 {f : List Sl → Option Sl} : op4 f (.ok r Γ) m = op3 f r (m Γ) Γ := rfl
@[simp] theorem ev_op4e {f : List Sl → Option Sl} {e : Str} : op4 f (.er e Γ) m = .er e Γ := rfl
@[simp] theorem ev_op3 {f : List Sl → Option Sl} {r' : Rv} : op3 f r (.ok r') Γ = (match f [r.s, r'.s] with
    | some s => .ok ⟨.own, s⟩ Γ
    | none => .no) := rfl
@[simp] theorem ev_ifE {x y : MrE} : eIfE c x y Γ = if3 (c Γ) x y Γ := rfl
@[simp] theorem ev_if3 {x y : MrE} {q : Bool} : if3 (.ok q) x y Γ = if q = true then x Γ else y Γ := by cases q <;> rfl
@[simp] theorem ev_tE {me : MrE} : eTE me Γ = te1 (me Γ) := rfl
@[simp] theorem ev_te1 {q : Bool} : te1 (.ok ⟨fl, .dat (.bool q)⟩ Γ) = .ok q Γ := by cases fl <;> rfl
@[simp] theorem ev_te1e {e : Str} : te1 (.er e Γ) = .er e Γ := rfl
@[simp] theorem ev_tP : eTP c Γ = tp1 (c Γ) Γ := rfl
@[simp] theorem ev_tp1 {q : Bool} : tp1 (.ok q) Γ = .ok q Γ := rfl
@[simp] theorem ev_notE {me : MrTE} : eNotE me Γ = not1 (me Γ) := rfl
@[simp] theorem ev_not1 {q : Bool} : not1 (.ok q Γ) = .ok (!q) Γ := rfl
@[simp] theorem ev_sIfE {me : MrTE} : sIfE me a b Γ = oz4 (me Γ) a b := rfl
@[simp] theorem ev_oz4 {q : Bool} : oz4 (.ok q Γ) a b = if q = true then a Γ else b Γ := by cases q <;> rfl
@[simp] theorem ev_sExpE {me : MrE} : sExpE me Γ = oz1 (me Γ) := rfl
@[simp] theorem ev_oz1 : oz1 (.ok r Γ) = .nx Γ := rfl
@[simp] theorem ev_oz1e {e : Str} : oz1 (.er e Γ) = .er e Γ := rfl
@[simp] theorem ev_sAsgE {me : MrE} : sAsgE i me Γ = oz2 i (me Γ) := rfl
@[simp] theorem ev_oz2 : oz2 i (.ok r Γ) = .nx (Γ.set i (some r)) := rfl
@[simp] theorem ev_oz2e {e : Str} : oz2 i (.er e Γ) = .er e Γ := rfl
@[simp] theorem ev_sRetE {me : MrE} : sRetE me Γ = oz3 (me Γ) := rfl
@[simp] theorem ev_oz3 : oz3 (.ok r Γ) = .rt r Γ := rfl
@[simp] theorem ev_oz3e {e : Str} : oz3 (.er e Γ) = .er e Γ := rfl
/-! io runs -/
theorem runI_eq {np nb nN : Nat} {ss bs : List Sl} {z : Oi} (h : fin3 np (a (initI nN ss bs)) = z) (hl : ss.length = np ∧ bs.length = nb := by exact ⟨rfl, rfl⟩) : runI np nb nN a ss bs = z := by
  unfold runI
  rw [if_pos hl, h]
@[simp] theorem ev_initI {nN : Nat} {ss bs : List Sl} : initI nN ss bs = ss.map (fun s => some ⟨.own, s⟩) ++ bs.map (fun s => some (parR s)) ++ List.replicate (nN - (ss.length + bs.length)) none := rfl
@[simp] theorem ev_f3r {n : Nat} : fin3 n (.rt r Γ) = oOk r (outs n Γ) := rfl
@[simp] theorem ev_f3n {n : Nat} : fin3 n (.nx Γ) = oOk ⟨.own, .dat .none⟩ (outs n Γ) := rfl
@[simp] theorem ev_f3e {n : Nat} {e : Str} : fin3 n (.er e Γ) = oEr e (outs n Γ) := rfl
@[simp] theorem ev_f3i {n : Nat} {x y : Oz} : fin3 n (if p then x else y) = if p then fin3 n x else fin3 n y := by split <;> rfl
@[simp] theorem ev_outs0 : outs 0 Γ = some [] := by cases Γ <;> rfl
@[simp] theorem ev_outs1 {n : Nat} : outs (n + 1) (some ⟨.own, s⟩ :: Γ) = (outs n Γ).map (s :: ·) := rfl
@[simp] theorem ev_oOk {ss : List Sl} : oOk r (some ss) = .ok r ss := rfl
@[simp] theorem ev_oEr {e : Str} {ss : List Sl} : oEr e (some ss) = .er e ss := rfl
/-! stores -/
@[simp] theorem ev_appP : sAppP pl m Γ = appP Γ (pl Γ) (atG Γ (pl Γ)) (m Γ) := rfl
@[simp] theorem ev_appPo (h : xs.length < 1000000) : appP Γ (some (i, pa)) (some ⟨.own, .node .L xs⟩) (.ok ⟨.own, s⟩) = .nx (setG Γ i pa (.node .L (xs ++ [s]))) := by
  show (if xs.length < most then _ else _) = _
  exact if_pos h
@[simp] theorem ev_aug {cs : List Str} {f : Str} : sAugF i cs f m Γ = aug1 i cs f Γ (gt Γ i) (m Γ) := rfl
@[simp] theorem ev_aug1 {cs : List Str} {f cl : Str} {ns : List Str} {z : Rz Rv} : aug1 i cs f Γ (some (some ⟨.own, .node (.O cl ns) xs⟩)) z = if cl ∈ cs ∧ ns.length < 900 ∧ ns.length = xs.length then aug3 i cl f ns xs (getF ns xs f) Γ z else .no := rfl
@[simp] theorem ev_aug3 {f cl : Str} {ns : List Str} {z : Rz Rv} {n : Int} : aug3 i cl f ns xs (some (.dat (.int n))) Γ z = aug2 i cl f ns xs n Γ z := rfl
@[simp] theorem ev_aug2 {f cl : Str} {ns : List Str} {n kk : Int} : aug2 i cl f ns xs n Γ (.ok ⟨fl, .dat (.int kk)⟩) = .nx (Γ.set i (some ⟨.own, .node (.O cl (putN f (.dat (.int (n + kk))) ns xs).1) (putN f (.dat (.int (n + kk))) ns xs).2⟩)) := rfl
@[simp] theorem ev_retT {is : List Nat} : sRetT is Γ = ret2 (takeS is Γ) := rfl
@[simp] theorem ev_isB {x y : Bool} : pIsB [db x, db y] = some (db (decide (x = y))) := rfl
@[simp] theorem ev_notB {x y : Bool} : pNotB [db x, db y] = some (db (!decide (x = y))) := rfl
theorem ofStr_inj {a b : String} : Str.ofString a = Str.ofString b ↔ a = b := by
  constructor
  · intro h
    rw [Str.ofString_eq_toList, Str.ofString_eq_toList] at h
    injection h with h
    have h2 : a.toList.map Char.toNat = b.toList.map Char.toNat := by simpa using h
    have h3 : a.toList = b.toList := List.map_inj_right (fun x y e => Char.toNat_inj.mp e) |>.mp h2
    exact String.toList_inj.mp h3
  · intro h
    rw [h]
theorem strOk_of (a : String) : PyData.strOk (Str.ofString a) = true := by
  unfold PyData.strOk
  rw [Str.ofString_eq_toList]
  simp only [List.all_toArray, List.all_map, List.all_eq_true, Function.comp_apply]
  intro x _
  have := x.valid
  unfold UInt32.isValidChar Nat.isValidChar at this
  show decide (x.val.toNat < 0x110000) = true
  rw [decide_eq_true_eq]
  omega
theorem shp_str (a : String) : shp (.str (Str.ofString a)) = true := by
  unfold shp SeqAt.shaped
  have : PyData.canLay0 (.str (Str.ofString a)) = true := by
    unfold PyData.canLay0
    exact strOk_of a
  rw [this]
  rfl
theorem eqv_str (a b : String) : PyData.eqv (.str (Str.ofString a)) (.str (Str.ofString b)) = decide (a = b) := by
  show (Str.ofString a == Str.ofString b) = _
  by_cases h : a = b
  · subst h; simp
  · have : ¬ Str.ofString a = Str.ofString b := fun e => h (ofStr_inj.mp e)
    simp [h, this]
@[simp] theorem ev_eqS {a b : String} : pEq [.dat (.str (Str.ofString a)), .dat (.str (Str.ofString b))] = some (db (decide (a = b))) := by
  show (if shp (.str (Str.ofString a)) = true ∧ shp (.str (Str.ofString b)) = true then some (Sl.dat (.bool (PyData.eqv (.str (Str.ofString a)) (.str (Str.ofString b))))) else none) = _
  rw [if_pos ⟨shp_str a, shp_str b⟩, eqv_str]
@[simp] theorem ev_neS {a b : String} : pNe [.dat (.str (Str.ofString a)), .dat (.str (Str.ofString b))] = some (db (!decide (a = b))) := by
  show (if shp (.str (Str.ofString a)) = true ∧ shp (.str (Str.ofString b)) = true then some (Sl.dat (.bool (!PyData.eqv (.str (Str.ofString a)) (.str (Str.ofString b))))) else none) = _
  rw [if_pos ⟨shp_str a, shp_str b⟩, eqv_str]
end
end Pf

/-! Pf43: a dict from ints to parts, desks, films, lines as typed values. -/
namespace Pf
open PySem L2
abbrev Pt := Int × (Int × Int) × String
def enP (x : Pt) : PyData := .tuple [.int x.1, prD x.2.1, .str (Str.ofString x.2.2)]
def ptS (ps : List (Int × Pt)) : Sl := .node (.D (ps.map fun p => .inl p.1)) (ps.map fun p => .dat (enP p.2))
def ptZ (ps : List (Int × Pt)) : Sl := .node (.Z (ps.map fun p => .inl p.1)) (ps.map fun p => .dat (enP p.2))
def lk : List (Int × Pt) → Int → Option Pt
  | [], _ => none
  | p :: ps, n => if p.1 = n then some p.2 else lk ps n
def putL (ps : List (Int × Pt)) (n : Int) (x : Pt) : List (Int × Pt) := if (lk ps n).isSome = true then ps.map (fun p => if p.1 = n then (p.1, x) else p) else ps ++ [(n, x)]
def delL (ps : List (Int × Pt)) (n : Int) : List (Int × Pt) := ps.filter fun p => !decide (p.1 = n)
theorem idx_lk (n : Int) : ∀ ps : List (Int × Pt), (idxK (ps.map fun p => (Sum.inl p.1 : Key)) (.inl n)).isSome = (lk ps n).isSome
  | [] => rfl
  | p :: ps => by
    rw [List.map_cons, ev_idk1]
    show Option.isSome (if (Sum.inl p.1 : Key) = Sum.inl n then _ else _) = Option.isSome (if p.1 = n then _ else _ : Option Pt)
    by_cases h : p.1 = n
    · rw [if_pos (by rw [h]), if_pos h]
      rfl
    · rw [if_neg (fun e => h (Sum.inl.inj e)), if_neg h, Option.isSome_map, idx_lk n ps]
theorem idx_get (n : Int) : ∀ ps : List (Int × Pt), (idxK (ps.map fun p => (Sum.inl p.1 : Key)) (.inl n)).bind (fun j => (ps.map fun p => Sl.dat (enP p.2))[j]?) = (lk ps n).map fun x => Sl.dat (enP x)
  | [] => rfl
  | p :: ps => by
    rw [List.map_cons, List.map_cons, ev_idk1]
    show Option.bind (if (Sum.inl p.1 : Key) = Sum.inl n then _ else _) _ = Option.map _ (if p.1 = n then _ else _ : Option Pt)
    by_cases h : p.1 = n
    · rw [if_pos (by rw [h]), if_pos h]
      rfl
    · rw [if_neg (fun e => h (Sum.inl.inj e)), if_neg h, ← idx_get n ps]
      cases idxK (ps.map fun p => (Sum.inl p.1 : Key)) (.inl n) <;> rfl
theorem any_lk (n : Int) : ∀ ps : List (Int × Pt), ((ps.map fun p => (Sum.inl p.1 : Key)).any fun q => decide (q = (.inl n : Key))) = (lk ps n).isSome
  | [] => rfl
  | p :: ps => by
    rw [List.map_cons, List.any_cons, any_lk n ps]
    show _ = (if p.1 = n then _ else _ : Option Pt).isSome
    by_cases h : p.1 = n
    · rw [if_pos h, h, decide_eq_true rfl]
      rfl
    · rw [if_neg h, decide_eq_false (fun e => h (Sum.inl.inj e)), Bool.false_or]
theorem repl_lk (n : Int) (x : Pt) : ∀ ps : List (Int × Pt), replK (.inl n) (.dat (enP x)) (ps.map fun p => (Sum.inl p.1 : Key)) (ps.map fun p => Sl.dat (enP p.2)) = (ps.map fun p => if p.1 = n then (p.1, x) else p).map fun p => Sl.dat (enP p.2)
  | [] => rfl
  | p :: ps => by
    rw [List.map_cons, List.map_cons, replK, repl_lk n x ps, List.map_cons, List.map_cons]
    congr 1
    by_cases h : p.1 = n
    · rw [if_pos (by rw [h]), if_pos h]
    · rw [if_neg (fun e => h (Sum.inl.inj e)), if_neg h]
theorem keys_repl (n : Int) (x : Pt) (ps : List (Int × Pt)) : (ps.map fun p => if p.1 = n then (p.1, x) else p).map (fun p => p.1) = ps.map fun p => p.1 := by
  rw [List.map_map]
  refine List.map_congr_left fun p _ => ?_
  show (if p.1 = n then (p.1, x) else p).1 = p.1
  split <;> rfl
theorem put_pt (ps : List (Int × Pt)) (n : Int) (x : Pt) : putKs (ps.map fun p => (Sum.inl p.1 : Key)) (ps.map fun p => Sl.dat (enP p.2)) (.inl n) (.dat (enP x)) = ((putL ps n x).map fun p => (Sum.inl p.1 : Key), (putL ps n x).map fun p => Sl.dat (enP p.2)) := by
  unfold putKs putL
  rw [any_lk]
  by_cases h : (lk ps n).isSome = true
  · rw [if_pos h, if_pos h, repl_lk]
    congr 1
    rw [List.map_map]
    refine List.map_congr_left fun p _ => ?_
    show (Sum.inl p.1 : Key) = Sum.inl (if p.1 = n then (p.1, x) else p).1
    split <;> rfl
  · rw [if_neg h, if_neg h, List.map_append, List.map_append]
    rfl
theorem drop_pt (n : Int) : ∀ ps : List (Int × Pt), dropKs (.inl n) (ps.map fun p => (Sum.inl p.1 : Key)) (ps.map fun p => Sl.dat (enP p.2)) = ((delL ps n).map fun p => (Sum.inl p.1 : Key), (delL ps n).map fun p => Sl.dat (enP p.2))
  | [] => rfl
  | p :: ps => by
    rw [List.map_cons, List.map_cons, dropKs, drop_pt n ps]
    unfold delL
    by_cases h : p.1 = n
    · rw [if_pos (by rw [h]), List.filter_cons_of_neg (by simp [h])]
    · rw [if_neg (fun e => h (Sum.inl.inj e)), List.filter_cons_of_pos (by simp [h])]
      rfl
section
variable {a b c d e : PyData} {r : List PyData}
theorem at_n {ds : List PyData} {k : Nat} (h : k < ds.length) : L2.atI ds k = ds[k]? := by
  unfold L2.atI L2.ixN
  rw [if_pos (by omega), if_pos (by omega)]
  show ds[((k : Int)).toNat]? = _
  rw [Int.toNat_natCast]
@[simp] theorem ev_eqB {x y : Bool} : pEq [db x, db y] = some (db (decide (x = y))) := by cases x <;> cases y <;> rfl
@[simp] theorem ev_neBB {x y : Bool} : pNe [db x, db y] = some (db (!decide (x = y))) := by cases x <;> cases y <;> rfl
@[simp] theorem at_0 : L2.atI (a :: r) 0 = some a := at_n (k := 0) (by simp)
@[simp] theorem at_1 : L2.atI (a :: b :: r) 1 = some b := at_n (k := 1) (by simp)
@[simp] theorem at_2 : L2.atI (a :: b :: c :: r) 2 = some c := at_n (k := 2) (by simp)
@[simp] theorem at_3 : L2.atI (a :: b :: c :: d :: r) 3 = some d := at_n (k := 3) (by simp)
@[simp] theorem at_4 : L2.atI (a :: b :: c :: d :: e :: r) 4 = some e := at_n (k := 4) (by simp)
end
section
variable {Γ : Gm} {m m' : Mr} {pl : MrP} {ps : List (Int × Pt)} {i : Nat} {pa : List Nat} {fl fl' : Fl} {n : Int} {r : Rv}
@[simp] theorem pt_get : pGetD [ptS ps, di n] = (lk ps n).map fun x => Sl.dat (enP x) := by
  show ((idxK (ps.map fun p => (Sum.inl p.1 : Key)) (.inl n)).bind fun j => match (ps.map fun p => Sl.dat (enP p.2))[j]? with | some (.dat d) => some (Sl.dat d) | _ => none) = _
  rw [← idx_get]
  cases idxK (ps.map fun p => (Sum.inl p.1 : Key)) (.inl n) with
  | none => rfl
  | some j =>
    show (match (ps.map fun p => Sl.dat (enP p.2))[j]? with | some (.dat d) => some (Sl.dat d) | _ => none) = (ps.map fun p => Sl.dat (enP p.2))[j]?
    rw [List.getElem?_map]
    cases ps[j]? <;> rfl
@[simp] theorem pt_in : pInD [di n, ptS ps] = some (db (lk ps n).isSome) := by
  show some (Sl.dat (.bool (idxK (ps.map fun p => (Sum.inl p.1 : Key)) (.inl n)).isSome)) = _
  rw [idx_lk]
@[simp] theorem pt_notin : pNotInD [di n, ptS ps] = some (db (!(lk ps n).isSome)) := by
  show some (Sl.dat (.bool (!(idxK (ps.map fun p => (Sum.inl p.1 : Key)) (.inl n)).isSome))) = _
  rw [idx_lk]
@[simp] theorem pt_len : pLenD [ptS ps] = some (di ps.length) := by
  show some (Sl.dat (.int (ps.map fun p => (Sum.inl p.1 : Key)).length)) = _
  rw [List.length_map]
@[simp] theorem pt_list : pListD [ptS ps] = some (newL (ps.map fun p => .int p.1)) := by
  show some (newL ((ps.map fun p => (Sum.inl p.1 : Key)).map keyD)) = _
  rw [List.map_map]
  rfl
theorem datAll_pt {α : Type} (f : α → PyData) : ∀ ps : List α, datAll (ps.map fun p => Sl.dat (f p)) = some (ps.map f) := fun ps => by
  induction ps with
  | nil => rfl
  | cons p ps ih =>
    rw [List.map_cons, List.map_cons]
    unfold datAll
    rw [ih]
    rfl
@[simp] theorem pt_vals : pValsD [ptS ps] = some (newL (ps.map fun p => enP p.2)) := by
  show (datAll (ps.map fun p => Sl.dat (enP p.2))).map newL = _
  rw [datAll_pt]
  rfl
@[simp] theorem ev_dputP {mk mv : Mr} : sDPutP pl mk mv Γ = dput1 Γ (pl Γ) (atG Γ (pl Γ)) (mv Γ) (mk Γ) := rfl
theorem pt_put0 {x : Pt} (h : ps.length < 1000000) : dput1 Γ (some (i, pa)) (some ⟨.own, ptS ps⟩) (.ok ⟨fl, .dat (enP x)⟩) (.ok ⟨fl', di n⟩) = .nx (setG Γ i pa (ptS (putL ps n x))) := by
  show (if (ps.map fun p => (Sum.inl p.1 : Key)).length < most then Oz.nx (setG Γ i pa (.node (.D (putKs (ps.map fun p => (Sum.inl p.1 : Key)) (ps.map fun p => Sl.dat (enP p.2)) (.inl n) (.dat (enP x))).1) (putKs (ps.map fun p => (Sum.inl p.1 : Key)) (ps.map fun p => Sl.dat (enP p.2)) (.inl n) (.dat (enP x))).2)) else .no) = _
  rw [if_pos (by rw [List.length_map]; exact h), put_pt]
  rfl
@[simp] theorem pt_put {hd : Int} {q : Int × Int} {s : String} (h : ps.length < 1000000) : dput1 Γ (some (i, pa)) (some ⟨.own, ptS ps⟩) (.ok ⟨fl, .dat (.tuple [.int hd, prD q, .str (Str.ofString s)])⟩) (.ok ⟨fl', di n⟩) = .nx (setG Γ i pa (ptS (putL ps n (hd, q, s)))) := pt_put0 (x := (hd, q, s)) h
@[simp] theorem pt_put' {hd b e : Int} {s : String} (h : ps.length < 1000000) : dput1 Γ (some (i, pa)) (some ⟨.own, ptS ps⟩) (.ok ⟨fl, .dat (.tuple [.int hd, .tuple [.int b, .int e], .str (Str.ofString s)])⟩) (.ok ⟨fl', di n⟩) = .nx (setG Γ i pa (ptS (putL ps n (hd, (b, e), s)))) := pt_put0 (x := (hd, (b, e), s)) h
@[simp] theorem ev_dpop {mk : Mr} : eDPop pl mk Γ = dpop2 Γ (pl Γ) (atG Γ (pl Γ)) (mk Γ) := rfl
@[simp] theorem pt_pop {x : Pt} (h : lk ps n = some x) : dpop2 Γ (some (i, pa)) (some ⟨.own, ptS ps⟩) (.ok ⟨fl, di n⟩) = .ok ⟨.own, .dat (enP x)⟩ (setG Γ i pa (ptS (delL ps n))) := by
  show (match (idxK (ps.map fun p => (Sum.inl p.1 : Key)) (.inl n)).bind (fun j => (ps.map fun p => Sl.dat (enP p.2))[j]?) with
    | some (.dat d) => Ez.ok ⟨.own, .dat d⟩ (setG Γ i pa (.node (.D (dropKs (.inl n) (ps.map fun p : Int × Pt => (Sum.inl p.1 : Key)) (ps.map fun p : Int × Pt => Sl.dat (enP p.2))).1) (dropKs (.inl n) (ps.map fun p : Int × Pt => (Sum.inl p.1 : Key)) (ps.map fun p : Int × Pt => Sl.dat (enP p.2))).2))
    | _ => .no) = _
  rw [idx_get, h, drop_pt]
  rfl
@[simp] theorem pt_at1p : at1 (some ⟨.par, ptS ps⟩) = .ok ⟨.par, ptS ps⟩ := rfl
@[simp] theorem pt_at1o : at1 (some ⟨.own, ptS ps⟩) = .ok ⟨.bor, ptS ps⟩ := rfl
@[simp] theorem pt_child : child fl (ptS ps) = ⟨fl, ptS ps⟩ := rfl
@[simp] theorem pt_childZ : child fl (ptZ ps) = ⟨fl, ptZ ps⟩ := rfl
@[simp] theorem pt_iv1 : iv1 ⟨fl, ptZ ps⟩ = .ok (false, ps.map fun p => enP p.2) := by
  show (match datAll (ps.map fun p => Sl.dat (enP p.2)) with | some ds => (Rz.ok (false, ds) : Rz (Bool × List PyData)) | none => .no) = _
  rw [datAll_pt]
@[simp] theorem ev_iV : iV m Γ = (m Γ).bind iv1 := rfl
theorem cntDs_dat {α : Type} (f : α → PyData) : ∀ xs : List α, cntDs (xs.map fun x => Sl.dat (f x)) = 0
  | [] => rfl
  | x :: xs => by
    rw [List.map_cons, cntDs, cntDs_dat f xs]
    rfl
theorem cntD_pt : cntD (ptS ps) = 1 := by
  unfold ptS
  rw [cntD, cntDs_dat]
  rfl
/-! desks, films, what is held, lines -/
abbrev deskS (l h s g : Int) (ps : List (Int × Pt)) : Sl := .node (.O "Desk" ["length", "hands", "seam", "given", "parts"]) [di l, di h, di s, di g, ptS ps]
abbrev deskZ (l h s g : Int) (ps : List (Int × Pt)) : Sl := .node (.O "Desk" ["length", "hands", "seam", "given", "parts"]) [di l, di h, di s, di g, ptZ ps]
abbrev heldS (g : Int) (ps : List (Int × Pt)) : Sl := .node (.D [.inr "parts", .inr "given"]) [ptS ps, di g]
inductive Ln where
  | take (h b e n : Int)
  | op (w : String) (n h : Int)
def lnD : Ln → PyData
  | .take h b e n => .tuple [.str (Str.ofString "take"), .int h, .int b, .int e, .int n]
  | .op w n h => .tuple [.str (Str.ofString w), .int n, .int h]
abbrev lnsD (t : List Ln) : PyData := .list (t.map lnD)
abbrev filmS (d : Sl) (t : List Ln) : Sl := .node (.O "Film" ["desk", "lines"]) [d, .node .L (t.map fun x => .dat (lnD x))]
theorem lock_desk {m : Mr} {cs : List Str} {l h s g : Int} {Δ : Gm} (hc : ("Desk" : Str) ∈ cs) : eLock (pFld cs "parts" (pSlot 0)) m (some ⟨fl, deskS l h s g ps⟩ :: Δ) = lk3 (m (some ⟨fl, deskZ l h s g ps⟩ :: Δ.map fun o => o.bind lockO)) := by
  have e1 : pFld cs "parts" (pSlot 0) (some ⟨fl, deskS l h s g ps⟩ :: Δ) = some (0, [4]) := by
    simp [hc, ofStr_inj]
  show lk1 _ m (pFld cs "parts" (pSlot 0) _) = _
  rw [e1]
  show (if cntD (deskS l h s g ps) = 1 then lk3 (m (some ⟨fl, deskZ l h s g ps⟩ :: Δ.map fun o => o.bind lockO)) else .no) = _
  rw [if_pos]
  show 0 + (0 + (0 + (0 + (0 + (cntD (ptS ps) + 0))))) = 1
  rw [cntD_pt]
end
end Pf

/-! Pf44: TAB.get(key, d), TAB a dict of the module from texts to ints. -/
namespace Pf
open PySem PySem.Spec PyProof.Rows L2
/-- the table at a, as written -/
structure TabK (K : PySem.W.Frag) (w : World) (a : Addr) (kvs : List (Str × Int)) : Prop where
  ex : ∃ es n, KDict K w a es n ∧ ∀ x, match kvs.lookup x with
    | some i => ∃ t, findBy Value.isStrOf es x = some (.int i t)
    | none => findBy Value.isStrOf es x = none
def pTab (kvs : List (Str × Int)) : List Sl → Option Sl
  | [.dat (.str x), .dat (.int d)] => some (.dat (.int ((kvs.lookup x).getD d)))
  | _ => none
/-! what the hook sees -/
def kvOf (e : DictEntry) : Option (Str × Int) := match e.key, e.val with
  | .str x _, .int i _ => some (x, i)
  | _, _ => none
def eqKv (a b : List (Option (Str × Int))) : Bool := decide (a = b)
def tabB (K : PySem.W.Frag) (a : Addr) (kvs : List (Str × Int)) : Bool := match K.lookup a with
  | some ⟨_, _, .dict es _, _⟩ => eqKv (es.toList.map kvOf) (kvs.map some)
  | _ => false
theorem find_kv (x : Str) : ∀ {l : List DictEntry} {kvs : List (Str × Int)}, l.map kvOf = kvs.map some → match kvs.lookup x with
    | some i => ∃ e t, l.find? (fun e => Value.isStrOf x e.key) = some e ∧ e.val = .int i t
    | none => l.find? (fun e => Value.isStrOf x e.key) = none
  | [], [], _ => rfl
  | [], _ :: _, h => by cases h
  | _ :: _, [], h => by cases h
  | e :: l, (k, i) :: kvs, h => by
    rw [List.map_cons, List.map_cons] at h
    injection h with h1 h2
    have ih := find_kv x (l := l) (kvs := kvs) h2
    unfold kvOf at h1
    split at h1
    · rename_i y t j u e1 e2
      cases h1
      rw [List.lookup_cons]
      by_cases hx : x = k
      · subst hx
        rw [beq_self_eq_true]
        dsimp only
        refine ⟨e, u, ?_, e2⟩
        rw [List.find?_cons_of_pos]
        rw [e1]
        simp [Value.isStrOf]
      · have hb : (x == k) = false := beq_eq_false_iff_ne.mpr hx
        rw [hb]
        dsimp only
        have hn : ¬ (Value.isStrOf x e.key) = true := by
          rw [e1]
          simp [Value.isStrOf]
          intro z
          exact hx z.symm
        rw [List.find?_cons_of_neg (p := fun e : DictEntry => Value.isStrOf x e.key) (a := e) hn]
        exact ih
    · cases h1
theorem tab_of {K : PySem.W.Frag} {w : World} {a : Addr} {kvs : List (Str × Int)} (hd : ∃ es n, KDict K w a es n) (hb : tabB K a kvs = true) : TabK K w a kvs := by
  obtain ⟨es, n, D⟩ := hd
  refine ⟨es, n, D, fun x => ?_⟩
  unfold tabB at hb
  rw [D.at_] at hb
  have h : es.toList.map kvOf = kvs.map some := of_decide_eq_true hb
  have f := find_kv x h
  unfold findBy
  rw [← Array.find?_toList]
  cases q : kvs.lookup x with
  | some i =>
    rw [q] at f
    obtain ⟨e, t, e1, e2⟩ := f
    exact ⟨t, by rw [e1, Option.map_some, e2]⟩
  | none =>
    rw [q] at f
    dsimp only at f ⊢
    rw [f]
    rfl
section
variable {X : Cx} {E : XK} {a b : Expr} {ma mb : Mr} {ta tb : TE} {x : Str} {p apos cpos : Pos} {kvs : List (Str × Int)}
theorem pe_tab (T : TabK X.K X.w (He.ga X.K x) kvs) (hg : Gl X x) (hm : X.mg x = some (.ref (He.ga X.K x))) (ha : PE X a ta) (hb : PE X b tb) (m : M2 X (.Name x p) "get" apos a b cpos) (hdb : (x == ("__debug__" : Str)) = false := by decide) :
    PE X (.Call (.Attribute (.Name x p) "get" apos) [a, b] [] cpos) (tOp (fun y z H Q => Prm X.K (pTab kvs) [y, z] H Q) ta tb) := by
  obtain ⟨es, n, D, hf⟩ := T.ex
  have ho : PE X (.Name x p) (tC (.ref (He.ga X.K x))) := pe_glob hg hm rfl hdb
  refine ⟨fun pins s σ H Q I h => ?_⟩
  refine wpAny_Call_method m.base m.few m.line PySem.F.plainAttrs_dict PySem.F.slot_dict_get PySem.F.type_dict_get (thn (ho.run pins s σ H (fun v H' => v = .ref (He.ga X.K x) ∧ H' = H) I ⟨rfl, rfl⟩) fun u s1 ⟨y, H1, I1, rx, ex, eh⟩ => ?_)
  subst ex
  subst eh
  obtain rfl : u = Value.ref (He.ga X.K x) := rx
  have mo := PySem.W.mapOf_K (prog := X.prog) (w := X.w) I1.kIn D.at_ D.lit
  refine ⟨mo.typeIs, mo.noDict, ?_⟩
  rw [m.trees]
  refine Calls.callWith_builtin rfl (Calls.evalArgs_plain (Calls.spliced_cons (thn (ha.run pins s1 σ H1 _ I1 h) fun iv s2 ⟨y, H2, I2, ry, q2⟩ =>
    Calls.spliced_cons (thn (hb.run pins s2 σ H2 _ I2 q2) fun fv s3 ⟨z, H3, I3, rz, q3⟩ => Calls.spliced_nil ?_))))
  obtain ⟨F, ss, s', e, ol, fs, k⟩ := q3
  unfold pTab at fs
  split at fs
  · rename_i kx d
    cases fs
    obtain ⟨s1', s2', fa, fb, e1, oa, ob⟩ := owL_2 ol
    cases e1
    cases oa with
    | dat ha' =>
      cases ob with
      | dat hb' =>
        cases ha' with
        | str =>
          cases hb' with
          | int =>
            obtain ⟨t, rfl⟩ := ry
            have mo := PySem.W.mapOf_K (prog := X.prog) (w := X.w) I3.kIn D.at_ D.lit
            refine call_meetsIn PySem.F.slot_dict_get mo.typeIs PySem.F.entry_dict_get (PySem.F.args_dict_get_3 _ _ _) (meets_dict_get_default (PySem.strKind X.prog X.w) _ (PySem.strKind_is X.prog X.w kx t) D.low fv) ⟨_, mo, ?_⟩
            have hx := hf kx
            cases q : kvs.lookup kx with
            | some i =>
              rw [q] at hx
              obtain ⟨t', hx⟩ := hx
              refine ⟨.int i, H3, I3.tok _, ?_, ?_⟩
              · rw [hx]
                exact ⟨t', rfl⟩
              · refine k _ F H3 [] (Step.refl e) (.dat ?_) New.nil
                rw [q]
                exact .int i
            | none =>
              rw [q] at hx
              refine ⟨.int d, H3, I3.tok _, ?_, ?_⟩
              · dsimp only at hx
                rw [hx]
                exact rz
              · refine k _ F H3 [] (Step.refl e) (.dat ?_) New.nil
                rw [q]
                exact .int d
  · cases fs
theorem px_tab (T : TabK X.K X.w (He.ga X.K x) kvs) (hg : Gl X x) (hm : X.mg x = some (.ref (He.ga X.K x))) (ha : Px X E a ma ta) (hb : Px X E b mb tb) (m : M2 X (.Name x p) "get" apos a b cpos := by exact ⟨rfl, rfl, rfl, rfl⟩) (hdb : (x == ("__debug__" : Str)) = false := by decide) :
    Px X E (.Call (.Attribute (.Name x p) "get" apos) [a, b] [] cpos) (eOp2 (pTab kvs) ma mb) (tOp (fun y z H Q => Prm X.K (pTab kvs) [y, z] H Q) ta tb) := ⟨pe_tab T hg hm ha.pe hb.pe m hdb, sim_op2 ha.sim hb.sim⟩
end
@[simp] theorem ev_tab {kvs : List (Str × Int)} {x : Str} {d : Int} : pTab kvs [.dat (.str x), di d] = some (di ((kvs.lookup x).getD d)) := rfl
/-! the head's run: whether a text's hash is asked in one way or the other -/
def setF (w : World) (b : Bool) : World := { w with params := { w.params with followText := fun s => bif s == "special-get-raises" then b else w.params.followText s } }
theorem setF_eq (w : World) : setF w (w.params.followText "special-get-raises") = w := by
  unfold setF
  have e : (fun s => bif s == "special-get-raises" then w.params.followText "special-get-raises" else w.params.followText s) = w.params.followText := by
    funext s
    by_cases h : s = "special-get-raises"
    · subst h
      rfl
    · have : (s == "special-get-raises") = false := beq_eq_false_iff_ne.mpr h
      rw [this]
      rfl
  rw [e]
end Pf

/-! Pf45: classes asked, tuples cut and joined, loops over written lists, by simp. -/
namespace Pf
open PySem L2
section
variable {Γ : Gm} {m m' : Mr} {a : MrS} {d : PyData} {ds es : List PyData} {fl : Fl} {r : Rv}
def isi1 (tb : List (Tyn × Bool)) (s : Sl) : Rz Rv := match tb.lookup (tyS s) with
  | some b => .ok ⟨.own, .dat (.bool b)⟩
  | none => .no
@[simp] theorem ev_isi {tb : List (Tyn × Bool)} : eIsi tb m Γ = (m Γ).bind fun r => isi1 tb r.s := rfl
@[simp] theorem isi_tt : isi1 tTuple (.dat (.tuple ds)) = ob1 true := rfl
@[simp] theorem isi_ss {x : Str} : isi1 tStr (.dat (.str x)) = ob1 true := rfl
@[simp] theorem isi_ll : isi1 tList (.dat (.list ds)) = ob1 true := rfl
@[simp] theorem isi_ii {n : Int} : isi1 tInt (di n) = ob1 true := rfl
@[simp] theorem isi_bi {n : Int} : isi1 tBool (di n) = ob1 false := rfl
@[simp] theorem isi_bb {n : Bool} : isi1 tBool (db n) = ob1 true := rfl
@[simp] theorem ev_cutT {lo hi : MrO} : eCutT m lo hi Γ = (m Γ).bind fun r => (lo Γ).bind fun l => (hi Γ).bind fun h => cutT r l h := rfl
@[simp] theorem ev_cutT1 {lo hi : Option Int} : cutT ⟨fl, .dat (.tuple ds)⟩ lo hi = .ok ⟨.own, .dat (.tuple (cutD ds lo hi))⟩ := rfl
@[simp] theorem ev_addT (h : ds.length + es.length ≤ 1000000) : pAddT [.dat (.tuple ds), .dat (.tuple es)] = some (.dat (.tuple (ds ++ es))) := by
  show (if ds.length + es.length ≤ most then _ else _) = _
  exact if_pos h
def fnx (z : Oz) (k : Gm → Oz) : Oz := match z with
  | .nx Γ => k Γ
  | .ct Γ => k Γ
  | .bk Γ => .nx Γ
  | z => z
theorem fl_nil {un : PyData → Option (List PyData)} {is : List Nat} : floop un is a [] Γ = .nx Γ := rfl
theorem fl_cons {is : List Nat} : floop unN is a (d :: ds) Γ = fnx (a (asgG is [d] Γ)) (floop unN is a ds) := by
  show (match a (asgG is [d] Γ) with
    | .nx Γ' => floop unN is a ds Γ'
    | .ct Γ' => floop unN is a ds Γ'
    | .bk Γ' => .nx Γ'
    | .rt r Γ' => .rt r Γ'
    | .er c Γ' => .er c Γ'
    | .no => .no) = _
  cases a (asgG is [d] Γ) <;> rfl
@[simp] theorem fnx_nx {k : Gm → Oz} : fnx (.nx Γ) k = k Γ := rfl
@[simp] theorem fnx_rt {k : Gm → Oz} : fnx (.rt r Γ) k = .rt r Γ := rfl
end
end Pf

/-! Pf46: xs.extend(frozen list), xs.reverse(). -/
namespace Pf
open PySem L2
def ext1 (i : Nat) (Γ : Gm) (z : Rz Rv) : Oz := match Γ[i]? with
  | some (some ⟨.own, .node .L xs⟩) => (match z with
    | .ok ⟨_, .dat (.list ds)⟩ => if xs.length + ds.length ≤ most then .nx (Γ.set i (some ⟨.own, .node .L (xs ++ ds.map .dat)⟩)) else .no
    | .er c => .er c Γ
    | _ => .no)
  | _ => .no
def sExt (i : Nat) (m : Mr) : MrS := fun Γ => ext1 i Γ (m Γ)
def rev1 (i : Nat) (Γ : Gm) : Oz := match Γ[i]? with
  | some (some ⟨.own, .node .L xs⟩) => .nx (Γ.set i (some ⟨.own, .node .L xs.reverse⟩))
  | _ => .no
def sRev (i : Nat) : MrS := fun Γ => rev1 i Γ
section
variable {K : PySem.W.Frag} {E : XK} {np : Nat} {F H : Hp}
theorem owAll_dqs : ∀ {zs : List V} {ds : List PyData}, DqAll F zs ds → OwAll K F H zs (ds.map .dat) []
  | _, _, .nil => .nil
  | _, _, .cons h t => by
    have z := OwAll.cons (K := K) (H := H) (.dat h) (owAll_dqs t)
    exact z
theorem dqAll_len : ∀ {zs : List V} {ds : List PyData}, DqAll F zs ds → zs.length = ds.length
  | _, _, .nil => rfl
  | _, _, .cons h t => by rw [List.length_cons, List.length_cons, dqAll_len t]
theorem owAll_rev : ∀ {vs : List V} {xs : List Sl} {fp : List Addr}, OwAll K F H vs xs fp → fp.Nodup → ∃ fq, OwAll K F H vs.reverse xs.reverse fq ∧ fq.Nodup ∧ ∀ b, b ∈ fq ↔ b ∈ fp
  | _, _, _, .nil, nd => ⟨[], .nil, nd, fun _ => Iff.rfl⟩
  | _, _, _, .cons (v := v) (s := s) (fp := f1) (fps := f2) h t, nd => by
    obtain ⟨n1, n2, n3⟩ := List.nodup_append.mp nd
    obtain ⟨fq, o, nq, mq⟩ := owAll_rev t n2
    refine ⟨fq ++ f1, ?_, List.nodup_append.mpr ⟨nq, n1, fun a ha b hb z => n3 b hb a ((mq a).mp ha) z.symm⟩, fun b => ?_⟩
    · rw [List.reverse_cons, List.reverse_cons]
      exact owAll_snoc o h
    · rw [List.mem_append, List.mem_append, mq b]
      exact Or.comm
theorem simS_ext {i : Nat} {te : TE} {me : Mr} (h : Sim K E te me) : SimS K E np (tDrop (tBM K "list" rExtend (tVar i) (tCons te tNil))) (sExt i me) := by
  intro B F H σ Γ D hp en p
  have p0 : PostS K B E D (ext1 i Γ (me Γ)) := p
  unfold ext1 at p0
  split at p0
  · rename_i xs hs
    obtain ⟨a, o, vs, fp, hv, ha, sh, t, nd, k⟩ := en.own_slot hs
    have sh : o = .lst vs := sh
    subst sh
    refine ⟨_, hv, Or.inl ⟨rfl, _, SqL.of ha⟩, ?_⟩
    refine h.stm en (fun c q => by rw [q] at p0; exact fun F' H' en' => p0 F' H' σ en') (fun q => by rw [q] at p0; exact p0) fun r v F' H' fq q st ro nw => ?_
    rw [q] at p0
    obtain ⟨fl, s⟩ := r
    cases s with
    | node kk ys => exact p0.elim
    | dat d =>
      have hd := dat_dq ro
      cases d with
      | list ds =>
        have p1 : PostS K B E D (if xs.length + ds.length ≤ most then .nx (Γ.set i (some ⟨.own, .node .L (xs ++ ds.map .dat)⟩)) else .no) := p0
        by_cases hl : xs.length + ds.length ≤ most
        · rw [if_pos hl] at p1
          cases hd with
          | @lst b zs _ hb hz =>
            refine ⟨a, b, vs, zs, rfl, rfl, st.hh _ _ ha, ?_, ?_, p1 F' _ σ ?_⟩
            · exact st.fh _ _ hb
            · rw [owAll_len t, dqAll_len hz]
              exact Nat.le_trans hl (most_ok (Nat.le_refl _))
            · have oz : OwAll K F' H' (vs ++ zs) (xs ++ ds.map .dat) (fp ++ []) := owAll_append (owAll_mono st.ff t fun b _ o z => st.hh _ _ z) (owAll_dqs hz)
              rw [List.append_nil] at oz
              exact k F' H' (.lst (vs ++ zs)) .L (vs ++ zs) (xs ++ ds.map .dat) fp [] st New.nil rfl oz nd (fun b m => .inl m)
        · rw [if_neg hl] at p1
          exact p1.elim
      | _ => exact p0.elim
  · exact p0.elim
theorem simS_rev {i : Nat} : SimS K E np (tDrop (tBM0 K "list" rReverse (tVar i))) (sRev i) := by
  intro B F H σ Γ D hp en p
  have p0 : PostS K B E D (rev1 i Γ) := p
  unfold rev1 at p0
  split at p0
  · rename_i xs hs
    obtain ⟨a, o, vs, fp, hv, ha, sh, t, nd, k⟩ := en.own_slot hs
    have sh : o = .lst vs := sh
    subst sh
    obtain ⟨fq, oq, nq, mq⟩ := owAll_rev t nd
    refine ⟨_, hv, Or.inl ⟨rfl, _, SqL.of ha⟩, ?_⟩
    refine ⟨a, vs, rfl, rfl, ha, p0 F _ σ ?_⟩
    exact k F H (.lst vs.reverse) .L vs.reverse xs.reverse fq [] (Step.refl en.st.fh) New.nil rfl oq nq (fun b m => .inl ((mq b).mp m))
  · exact p0.elim
end
section
variable {X : Cx} {E : XK} {np : Nat} {e : Expr} {me : Mr} {te : TE} {pos pos' apos cpos : Pos} {x : Str}
theorem pxs_ext {i : Nat} (hN : X.N[i]? = some x) (hv : Vis X.env.scope x) (he : Px X E e me te) (hline : (apos.endLine == cpos.line) = true := by rfl) (hs : starEach [e] X.env = (false, eval e X.env) :: starEach [] X.env := by rfl)
    (hfew : ((backTo cpos (starEach [e] X.env)).all (fun x => !x.1) && (backToKw cpos (keywordEach [] X.env)).all (fun x => x.1.isSome)
      && decide ([e].length + ([] : List Keyword).length + (if ([] : List Keyword).isEmpty then 0 else 1) < 30)) = true := by rfl)
    (hsw : swapsWith (.Call (.Attribute (.Name x pos') "extend" apos) [e] [] cpos) none pos.line X.env = pure false := by rfl)
    (hbase : attributeBase (.Name x pos') "extend" X.env (eval (.Name x pos') X.env) = eval (.Name x pos') X.env := by rfl) (hd : (x == ("__debug__" : Str)) = false := by decide) (hcd : (x == ("__classdict__" : Str)) = false := by decide) :
    PxS X E np (.Expr (.Call (.Attribute (.Name x pos') "extend" apos) [e] [] cpos) pos) (sExt i me) (tDrop (tBM X.K "list" rExtend (tVar i) (tCons te tNil))) :=
  ⟨ps_expr (pe_bm PySem.F.plainAttrs_list PySem.F.slot_list_extend PySem.F.type_list_extend mt_extend (pe_var hN hv hd hcd) (pa_cons he.pe pa_nil hs) hbase hfew hline hs) hsw, simS_ext he.sim⟩
theorem pxs_rev {i : Nat} (hN : X.N[i]? = some x) (hv : Vis X.env.scope x) (hline : (apos.endLine == cpos.line) = true := by rfl)
    (hsw : swapsWith (.Call (.Attribute (.Name x pos') "reverse" apos) [] [] cpos) none pos.line X.env = pure false := by rfl)
    (hbase : attributeBase (.Name x pos') "reverse" X.env (eval (.Name x pos') X.env) = eval (.Name x pos') X.env := by rfl) (hd : (x == ("__debug__" : Str)) = false := by decide) (hcd : (x == ("__classdict__" : Str)) = false := by decide) :
    PxS X E np (.Expr (.Call (.Attribute (.Name x pos') "reverse" apos) [] [] cpos) pos) (sRev i) (tDrop (tBM0 X.K "list" rReverse (tVar i))) :=
  ⟨ps_expr (pe_bm0 PySem.F.plainAttrs_list PySem.F.slot_list_reverse PySem.F.type_list_reverse mt_reverse (pe_var hN hv hd hcd) hbase hline) hsw, simS_rev⟩
end
end Pf

/-! Pf47: calls of defs that change nothing, the lists handed in taken as data while they run. -/
namespace Pf
open PySem L2
mutual
def zl : Sl → Sl
  | .dat d => .dat d
  | .node .L xs => (match datAll (zls xs) with
    | some ds => .dat (.list ds)
    | none => .node .L (zls xs))
  | .node k xs => .node k (zls xs)
def zls : List Sl → List Sl
  | [] => []
  | x :: r => zl x :: zls r
end
mutual
/-- data without lists -/
def nolD : PyData → Bool
  | .list _ => false
  | .tuple ds => nolDs ds
  | _ => true
def nolDs : List PyData → Bool
  | [] => true
  | d :: ds => nolD d && nolDs ds
end
mutual
def nolS : Sl → Bool
  | .dat d => nolD d
  | .node _ xs => nolSs xs
def nolSs : List Sl → Bool
  | [] => true
  | x :: xs => nolS x && nolSs xs
end
/-- all lists of the heap frozen -/
def lz (F H : Hp) : Hp := fun a => match H a with
  | some (.lst xs) => some (.lst xs)
  | _ => F a
/-- what is new as F' says, the rest as F -/
def bk (F H F' : Hp) : Hp := fun a => match H a with
  | none => F' a
  | some _ => F a
section
variable {K : PySem.W.Frag} {S : Addr → Prop} {E : XK} {F H F1 H1 F2 H2 F' H' : Hp} {Q : VK} {σ : L2.St} {Γ : Gm}
theorem lz_lst {a : Addr} {xs : List V} (h : H a = some (.lst xs)) : lz F H a = some (.lst xs) := by
  unfold lz
  rw [h]
theorem lz_ff (e : Same F H) : Same F (lz F H) := fun a o q => by
  have h := e a o q
  unfold lz
  rw [h]
  cases o <;> first | rfl | exact q
theorem lz_fh (e : Same F H) : Same (lz F H) H := fun a o q => by
  unfold lz at q
  cases h : H a with
  | none =>
    rw [h] at q
    have := e a o q
    rw [h] at this
    exact this
  | some u =>
    rw [h] at q
    cases u with
    | lst xs => exact q
    | _ =>
      have := e a o q
      rw [h] at this
      exact this
theorem zl_dat {d : PyData} : zl (.dat d) = .dat d := by rw [zl]
mutual
theorem zl_ow (e : Same F H) : ∀ {v : V} {s : Sl} {fp : List Addr}, Ow K F H v s fp → ∃ fq, Ow K (lz F H) H v (zl s) fq
  | _, _, _, .dat h => ⟨[], by rw [zl]; exact .dat (dp_mono (lz_ff e) h)⟩
  | _, _, _, .node (k := .L) (xs := xs) ha sh t => by
    obtain ⟨fq, t'⟩ := zl_owAll e t
    rw [zl]
    have sh' : _ = HO.lst _ := sh
    subst sh'
    cases q : datAll (zls xs) with
    | some ds => exact ⟨[], .dat (.lst (lz_lst ha) (datAll_dp t' q))⟩
    | none => exact ⟨_, .node ha rfl t'⟩
  | _, _, _, .node (k := .T) ha sh t => by
    obtain ⟨fq, t'⟩ := zl_owAll e t
    rw [zl]
    exact ⟨_, .node ha sh t'⟩
    all_goals (intro z; cases z)
  | _, _, _, .node (k := .S) ha sh t => by
    obtain ⟨fq, t'⟩ := zl_owAll e t
    rw [zl]
    exact ⟨_, .node ha sh t'⟩
    all_goals (intro z; cases z)
  | _, _, _, .node (k := .D ks) ha sh t => by
    obtain ⟨fq, t'⟩ := zl_owAll e t
    rw [zl]
    exact ⟨_, .node ha sh t'⟩
    all_goals (intro z; cases z)
  | _, _, _, .node (k := .O c fs) ha sh t => by
    obtain ⟨fq, t'⟩ := zl_owAll e t
    rw [zl]
    exact ⟨_, .node ha sh t'⟩
    all_goals (intro z; cases z)
  | _, _, _, .node (k := .Z ks) ha sh t => by
    obtain ⟨fq, t'⟩ := zl_owAll e t
    rw [zl]
    exact ⟨_, .node ha sh t'⟩
    all_goals (intro z; cases z)
theorem zl_owAll (e : Same F H) : ∀ {vs : List V} {ss : List Sl} {fp : List Addr}, OwAll K F H vs ss fp → ∃ fq, OwAll K (lz F H) H vs (zls ss) fq
  | _, _, _, .nil => ⟨[], by rw [zls]; exact .nil⟩
  | _, _, _, .cons h t => by
    obtain ⟨f1, o1⟩ := zl_ow e h
    obtain ⟨f2, o2⟩ := zl_owAll e t
    rw [zls]
    exact ⟨_, .cons o1 o2⟩
end
theorem zl_owL (e : Same F H) : ∀ {vs : List V} {ss : List Sl}, OwL K F H vs ss → OwL K (lz F H) H vs (ss.map zl)
  | _, _, .nil => .nil
  | _, _, .cons fp h t => by
    obtain ⟨fq, o⟩ := zl_ow e h
    exact .cons fq o (zl_owL e t)
theorem bk_step (st : Step (lz F H) H F' H') (e : Same F H) : Step F H (bk F H F') H' := by
  refine ⟨fun a o q => ?_, fun a o q => ?_, st.hh, fun a ha q => ?_⟩
  · unfold bk
    rw [e a o q]
    exact q
  · unfold bk at q
    cases h : H a with
    | none =>
      rw [h] at q
      exact st.fh a o q
    | some u =>
      rw [h] at q
      exact st.hh a o (e a o q)
  · unfold bk
    cases h : H a with
    | none => exact absurd h ha
    | some u => exact q
theorem bk_tup {a : Addr} {xs : List V} (st : Step (lz F H) H F' H') (q : F' a = some (.tup xs)) : bk F H F' a = some (.tup xs) := by
  unfold bk
  cases h : H a with
  | none => exact q
  | some u =>
    dsimp only
    cases h2 : lz F H a with
    | none =>
      have := st.nw a (by rw [h]; exact fun z => by cases z) h2
      rw [this] at q
      cases q
    | some o =>
      have h3 := st.ff a o h2
      rw [q] at h3
      cases h3
      unfold lz at h2
      rw [h] at h2
      cases u with
      | lst ys => cases h2
      | _ => exact h2
mutual
theorem bk_dq (st : Step (lz F H) H F' H') : ∀ {v : V} {d : PyData}, Dq F' v d → nolD d = true → Dq (bk F H F') v d
  | _, _, .non, _ => .non
  | _, _, .bl b, _ => .bl b
  | _, _, .int i, _ => .int i
  | _, _, .str x, _ => .str x
  | _, _, .lst h a, z => by
    rw [nolD] at z
    cases z
  | _, _, .tup h a, z => by
    rw [nolD] at z
    exact .tup (bk_tup st h) (bk_dqAll st a z)
theorem bk_dqAll (st : Step (lz F H) H F' H') : ∀ {vs : List V} {ds : List PyData}, DqAll F' vs ds → nolDs ds = true → DqAll (bk F H F') vs ds
  | _, _, .nil, _ => .nil
  | _, _, .cons h t, z => by
    rw [nolDs, Bool.and_eq_true] at z
    exact .cons (bk_dq st h z.1) (bk_dqAll st t z.2)
end
mutual
theorem bk_ow (st : Step (lz F H) H F' H') : ∀ {v : V} {s : Sl} {fp : List Addr}, Ow K F' H' v s fp → nolS s = true → Ow K (bk F H F') H' v s fp
  | _, _, _, .dat h, z => by
    rw [nolS] at z
    exact .dat (bk_dq st h z)
  | _, _, _, .node ha sh t, z => by
    rw [nolS] at z
    exact .node ha sh (bk_owAll st t z)
theorem bk_owAll (st : Step (lz F H) H F' H') : ∀ {vs : List V} {ss : List Sl} {fp : List Addr}, OwAll K F' H' vs ss fp → nolSs ss = true → OwAll K (bk F H F') H' vs ss fp
  | _, _, _, .nil, _ => .nil
  | _, _, _, .cons h t, z => by
    rw [nolSs, Bool.and_eq_true] at z
    exact .cons (bk_ow st h z.1) (bk_owAll st t z.2)
end
theorem bk_new {fp : List Addr} (nw : New F' H fp) : New (bk F H F') H fp := ⟨nw.nd, fun a m => by
  unfold bk
  rw [nw.nh a m]
  exact nw.nf a m, nw.nh⟩
def outZ (r : Rv) : Rz Rv := match r with
  | ⟨.own, s⟩ => if nolS s = true then .ok ⟨.own, s⟩ else .no
  | _ => .no
theorem post_fnZ {z : Rz Rv} {S' : Addr → Prop} (e : Same F H) (p : Post K S E Q F H (z.bind outZ)) : Post K S' E Q (lz F H) H z := by
  cases z with
  | ok r =>
    intro v F' H' fp st ro nw
    obtain ⟨fl, s⟩ := r
    cases fl with
    | own =>
      have p1 : Post K S E Q F H (if nolS s = true then .ok ⟨.own, s⟩ else .no) := p
      by_cases hn : nolS s = true
      · rw [if_pos hn] at p1
        exact p1 v _ H' fp (bk_step st e) (bk_ow st ro hn) (bk_new nw)
      · rw [if_neg hn] at p1
        exact p1.elim
    | _ => exact p.elim
  | er c => exact fun F' H' st => p _ H' (bk_step st e)
  | no => exact p
def eFnZ (m : Fm) (as : MrA) : Mr := fun Γ => (as Γ).bind fun rs => (m (rs.map fun r => zl r.s)).bind outZ
theorem map_zl (rs : List Rv) : rs.map (fun r => zl r.s) = (rs.map Rv.s).map zl := by
  rw [List.map_map]
  rfl
theorem sim_fnZ {f : Fm} {t : TA} {m : MrA} (h : SimA K E t m) : Sim K E (tCall (spM K f) [] E t) (eFnZ f m) := by
  intro S F H σ Γ Q e en p
  refine h.bind e en p fun rs vs F1 H1 fp q st ro nw p1 => ?_
  rw [List.append_nil]
  rw [map_zl] at p1
  exact ⟨lz F1 H1, _, lz_fh st.fh, zl_owL st.fh ro.owL, post_fnZ st.fh (Post.up st p1)⟩
def eMethZ (c m : Str) (f : Fm) (a : Mr) (as : MrA) : Mr := fun Γ => (a Γ).bind fun r => match r.s with
  | .node (.O c' ns) xs => if c' = c ∧ (getF ns xs m).isNone then (as Γ).bind fun rs => (f (zl r.s :: rs.map fun r => zl r.s)).bind outZ else .no
  | _ => .no
theorem sim_methZ {c n : Str} {f : Fm} {ta : TE} {ma : Mr} {t : TA} {m : MrA} (ha : Sim K E ta ma) (h : SimA K E t m) : Sim K E (tMeth (He.ga K c) n (spM K f) [] E ta t) (eMethZ c n f ma m) := by
  intro S F H σ Γ Q e en p
  refine ha.bind e en p fun r v F1 H1 fp q st ro nw => ?_
  have p := (show Post K S E Q F H ((ma Γ).bind _) from p)
  rw [q] at p
  obtain ⟨fl, s⟩ := r
  cases s with
  | dat d => exact p.elim
  | node k xs =>
    cases k with
    | O c' ns =>
      have p2 : Post K S E Q F H (if c' = c ∧ (getF ns xs n).isNone then (m Γ).bind fun rs => (f (zl (.node (.O c' ns) xs) :: rs.map fun r => zl r.s)).bind outZ else .no) := p
      by_cases hm : c' = c ∧ (getF ns xs n).isNone
      · rw [if_pos hm] at p2
        obtain ⟨rfl, hn⟩ := hm
        obtain ⟨fq, o⟩ := ro.ow
        have o' : Ow K F1 H1 v (.node (.O c' ns) xs) fq := o
        obtain ⟨v', ev⟩ : ∃ v', v' = v := ⟨_, rfl⟩
        cases o' with
        | node ha sh t' =>
          obtain ⟨hl, dx, rfl⟩ := sh
          refine ⟨_, dx, _, rfl, ha, zip_lookup_none t' hn hl, ?_⟩
          refine h.bind st.fh (en.step st.ff st.hh) (Post.up st p2) fun rs vs F2 H2 fp2 q2 st2 ro2 nw2 p3 => ?_
          rw [List.append_nil]
          rw [map_zl] at p3
          obtain ⟨fz, oz⟩ := zl_ow st2.fh (ow_step st2.ff st2.hh o)
          exact ⟨lz F2 H2, _, lz_fh st2.fh, .cons _ oz (zl_owL st2.fh ro2.owL), post_fnZ st2.fh (Post.up st2 p3)⟩
      · rw [if_neg hm] at p2
        exact p2.elim
    | _ => exact p.elim
end
section
variable {X : Cx} {E : XK} {a e : Expr} {ma : Mr} {ta : TE} {pos p apos : Pos} {es : List Expr} {me : MrA} {te : TA} {CX : CXT} {k : Nat} {f : Addr} {fd : FuncData} {ps : List Str} {m : Fm} {x c n : Str}
theorem px_fnZ (F : FnOk X.prog X.w X.K X.mg X.base CX k f fd ps (spM X.K m)) (hr : Room k X.A) (hg : Gl X x) (hm : X.mg x = some (.ref f)) (hk : PySem.W.keepIn X.K (.ref f) = true) (hb : Binds X.K fd ps []) (hx : Passes CX X E)
    (ha : PxA X E (e :: es) me te) (hdb : (x == ("__debug__" : Str)) = false := by decide) (he : starEach (e :: es) X.env = (false, eval e X.env) :: starEach es X.env := by rfl) (hpl : (backTo pos (starEach es X.env)).any (·.1) = false := by rfl) :
    Px X E (.Call (.Name x p) (e :: es) [] pos) (eFnZ m me) (tCall (spM X.K m) [] E te) := ⟨pe_call F hr hg hm hk hb .nil hx ha.pa hdb he hpl, sim_fnZ ha.sim⟩
theorem px_methZ {pl : Sem Bool} (ha : Px X E a ma ta) (cc : Cls X.K (He.ga X.K c)) (hm : Meth X.K (He.ga X.K c) n f) (F : FnOk X.prog X.w X.K X.mg X.base CX k f fd ps (spM X.K m)) (hr : Room k X.A) (hb : Binds X.K fd ps []) (hx : Passes CX X E)
    (hh : PxA X E (e :: es) me te)
    (hst : starEach (e :: es) X.env = (false, eval e X.env) :: starEach es X.env := by rfl) (hpl : (backTo pos (starEach es X.env)).any (·.1) = false := by rfl)
    (ht : eval (.Call (.Attribute a n apos) (e :: es) [] pos) X.env = (do
      let ov ← eval a X.env
      standAt apos.atName
      let (f, first) ← holding [ov] (getMethod ov n pl)
      callWith pos f first (backTo pos (starEach (e :: es) X.env)) (backToKw pos (keywordEach [] X.env))) := by rfl) :
    Px X E (.Call (.Attribute a n apos) (e :: es) [] pos) (eMethZ c n m ma me) (tMeth (He.ga X.K c) n (spM X.K m) [] E ta te) := ⟨pe_meth (pl := pl) ha.pe cc hm F hr hb .nil hx hh.pa hst hpl ht, sim_methZ ha.sim hh.sim⟩
end
section
variable {Γ : Gm} {m : Mr} {ma : MrA} {s : Sl} {d : PyData} {xs : List Sl} {r : Rv}
@[simp] theorem ev_fnZ {f : Fm} : eFnZ f ma Γ = (ma Γ).bind fun rs => (f (rs.map fun r => zl r.s)).bind outZ := rfl
@[simp] theorem ev_methZ {cl n : Str} {f : Fm} : eMethZ cl n f m ma Γ = (m Γ).bind fun r => match r.s with
  | .node (.O c' ns) xs => if c' = cl ∧ (getF ns xs n).isNone then (ma Γ).bind fun rs => (f (zl r.s :: rs.map fun r => zl r.s)).bind outZ else .no
  | _ => .no := rfl
@[simp] theorem ev_zld : zl (.dat d) = .dat d := zl_dat
@[simp] theorem ev_zls0 : zls [] = [] := by rw [zls]
@[simp] theorem ev_zls1 {x : Sl} : zls (x :: xs) = zl x :: zls xs := by rw [zls]
theorem zls_dat {α : Type} (f : α → PyData) : ∀ xs : List α, zls (xs.map fun x => Sl.dat (f x)) = xs.map fun x => Sl.dat (f x)
  | [] => by rw [List.map_nil, zls]
  | x :: xs => by rw [List.map_cons, zls, zl_dat, zls_dat f xs]
@[simp] theorem ev_zlL {α : Type} {f : α → PyData} {xs : List α} : zl (.node .L (xs.map fun x => Sl.dat (f x))) = .dat (.list (xs.map f)) := by
  rw [zl, zls_dat, datAll_pt]
@[simp] theorem ev_zlL' {ds : List PyData} : zl (.node .L (ds.map Sl.dat)) = .dat (.list ds) := by
  have := ev_zlL (f := fun d => d) (xs := ds)
  simpa using this
@[simp] theorem ev_zlO {c : Str} {fs : List Str} : zl (.node (.O c fs) xs) = .node (.O c fs) (zls xs) := by
  rw [zl]
  all_goals (intro z; cases z)
@[simp] theorem ev_outZ (h : nolS s = true) : outZ ⟨.own, s⟩ = .ok ⟨.own, s⟩ := by
  show (if nolS s = true then _ else _) = _
  rw [if_pos h]
@[simp] theorem nol_i {i : Int} : nolS (.dat (.int i)) = true := rfl
@[simp] theorem nol_b {i : Bool} : nolS (.dat (.bool i)) = true := rfl
@[simp] theorem nol_n : nolS (.dat .none) = true := rfl
end
end Pf

/-! Pf48: xs[a::k], k a written number. -/
namespace Pf
open PySem PySem.Calls PyProof.Rows L2
/-- the places that xs[a::k] takes -/
def stIx (n : Nat) (a k : Int) : List Nat := sliceRange (sliceBounds (some a) none (some k) n).1 (sliceBounds (some a) none (some k) n).2.1 (sliceBounds (some a) none (some k) n).2.2
def stX {α : Type} (xs : List α) (a k : Int) : List α := (stIx xs.length a k).filterMap (xs[·]?)
theorem stX_mem {α : Type} {xs : List α} {a k : Int} {x : α} (h : x ∈ stX xs a k) : x ∈ xs := by
  obtain ⟨i, _, e⟩ := List.mem_filterMap.mp h
  exact List.mem_of_getElem? e
theorem stX_map {α β : Type} (f : α → β) (xs : List α) (a k : Int) : stX (xs.map f) a k = (stX xs a k).map f := by
  unfold stX
  rw [List.length_map, List.map_filterMap]
  congr 1
  funext i
  rw [List.getElem?_map]
theorem st_pick (its : List Value) (a k : Int) : slicePick its.toArray (some a) none (some k) = (stX its a k).toArray := by
  unfold slicePick stX stIx
  simp only [List.size_toArray, List.getElem?_toArray]
theorem stX_len {α : Type} (xs : List α) (a k : Int) : (stX xs a k).length ≤ xs.length := by
  have h := slicePick_size_le ((xs.map fun _ => Value.none).toArray) (some a) none (some k)
  rw [st_pick, stX_map, List.size_toArray, List.size_toArray, List.length_map, List.length_map] at h
  exact h
theorem vals_fm {xs : List V} {us : List Value} (r : Vals xs us) : ∀ ix : List Nat, Vals (ix.filterMap (xs[·]?)) (ix.filterMap (us[·]?))
  | [] => .nil
  | i :: ix => by
    cases h : xs[i]? with
    | none =>
      rw [List.filterMap_cons_none h, List.filterMap_cons_none (r.none_of h)]
      exact vals_fm r ix
    | some x =>
      obtain ⟨u, h2, ru⟩ := r.get h
      rw [List.filterMap_cons_some h, List.filterMap_cons_some h2]
      exact .cons ru (vals_fm r ix)
theorem vals_st {xs : List V} {us : List Value} (r : Vals xs us) (a k : Int) : Vals (stX xs a k) (stX us a k) := by
  unfold stX
  rw [r.length]
  exact vals_fm r _
theorem dqAll_fm {F : Hp} {xs : List V} {ds : List PyData} (r : DqAll F xs ds) : ∀ ix : List Nat, DqAll F (ix.filterMap (xs[·]?)) (ix.filterMap (ds[·]?))
  | [] => .nil
  | i :: ix => by
    cases h : xs[i]? with
    | none =>
      have h2 : ds[i]? = none := by
        rw [List.getElem?_eq_none_iff] at h ⊢
        rw [← dpAll_len r]
        exact h
      rw [List.filterMap_cons_none h, List.filterMap_cons_none h2]
      exact dqAll_fm r ix
    | some x =>
      obtain ⟨u, h2, ru⟩ := dpAll_get r h
      rw [List.filterMap_cons_some h, List.filterMap_cons_some h2]
      exact .cons ru (dqAll_fm r ix)
theorem dqAll_st {F : Hp} {xs : List V} {ds : List PyData} (r : DqAll F xs ds) (a k : Int) : DqAll F (stX xs a k) (stX ds a k) := by
  unfold stX
  rw [dpAll_len r]
  exact dqAll_fm r _
def tStp (K : PySem.W.Frag) (k : Int) (te : TE) (ta : TO) : TE := fun σ H Q => te σ H fun x H1 => ta σ H1 fun o H2 => ∃ a xs i, x = .ref a ∧ o = some i ∧ SqL K H2 a xs ∧ ∀ p, H2 p = none → Q (.ref p) (upd H2 p (.lst (stX xs i k)))
section
variable {X : Cx}
theorem pe_stp {e lo : Expr} {te : TE} {tl : TO} {c : Int} {k : Nat} {p1 p3 pos : Pos} (he : PE X e te) (hl : PO X (some lo) tl) (hc : c ≠ 0) : PE X (.Subscript e (.Slice (some lo) none (some (.Constant (.int c) k p1)) p3) pos) (tStp X.K c te tl) := by
  refine ⟨fun pins s σ H Q I h => ?_⟩
  refine Subscript_ (thn (he.run pins s σ H _ I h) fun v s1 ⟨x, H1, I1, r1, q1⟩ => ?_)
  have hst : PO X (some (.Constant (.int c) k p1)) (tPart (tC (.int c))) := po_some pe_int
  refine wpAny_Slice (thn (hl.run pins s1 σ H1 _ I1 q1) fun vl s2 ⟨l, H2, I2, pl, q2⟩ => ?_)
  obtain ⟨a, xs, i, ex, el, hx, q⟩ := q2
  subst ex el
  cases r1
  refine thn (po_none.run pins s2 σ H2 (fun o H3 => o = none ∧ H3 = H2) I2 ⟨rfl, rfl⟩) fun vu s3 ⟨u, H3, I3, pu, eu, e3⟩ => ?_
  subst eu e3
  refine thn (hst.run pins s3 σ H3 (fun o H4 => o = some c ∧ H4 = H3) I3 ⟨c, rfl, rfl, rfl⟩) fun vs s4 ⟨o, H4, I4, ps, eo, e4⟩ => ?_
  subst eo e4
  have I5 : Inv X pins σ H4 { s4 with heap := s4.heap.push { cls := .type "slice", data := .fields #[vl, vu, vs] } } := I4.kept (t' := s4.toks) fun b ob q => Heap.get?_push_of_some _ q
  obtain ⟨its, r, ht, hz⟩ := I5.list hx
  have hlen := r.length
  show wpAny (model X.prog X.w) X.A (subscriptTail e (.Slice (some lo) none (some (.Constant (.int c) k p1)) p3) (.ref a) (.ref s4.heap.objs.size)) (EP X pins σ Q) X.xe { s4 with heap := s4.heap.push { cls := .type "slice", data := .fields #[vl, vu, vs] } }
  refine tail_any (ops := [.ref a, .ref s4.heap.objs.size]) ht.isList.typeIs (PySem.slot_list_getitem.lookup) ?_ (by with_unfolding_all rfl)
  refine wpAny_getItem_list_slice ht.isList (Heap.IsSliceOf.new _ vl vu vs) pl pu ps (fun z => hc (Option.some.inj z)) ?_ (by rw [List.size_toArray]; omega)
  rw [st_pick]
  refine ⟨.ref _, _, I5.laid (t' := s4.toks) (o := .lst (stX xs i c)) (fun b ob q => Heap.get?_push_of_some _ q) (Nat.le_refl _) ?_, rfl, q _ (I5.hok.fresh (Nat.le_refl _))⟩
  exact ⟨Nat.le_trans (stX_len xs i c) hz, _, 0, vals_st r i c, Heap.get?_push_size _ rfl⟩
def eStp (k : Int) (a : Mr) (lo : MrO) : Mr := fun Γ => (a Γ).bind fun r => (lo Γ).bind fun l => match itsS r.s, l with
  | some ds, some i => .ok ⟨.own, newL (stX ds i k)⟩
  | _, _ => .no
theorem sim_stp {K : PySem.W.Frag} {E : XK} {ta : TE} {ma : Mr} {tl : TO} {ml : MrO} {k : Int} (ha : Sim K E ta ma) (hl : SimO K E tl ml) : Sim K E (tStp K k ta tl) (eStp k ma ml) := by
  intro S F H σ Γ Q e en p
  refine ha.bind e en p fun r x F1 H1 fp q st ro nw => ?_
  have p := (show Post K S E Q F H ((ma Γ).bind _) from p)
  rw [q] at p
  have p1 : Post K S E Q F1 H1 ((ml Γ).bind fun l => match itsS r.s, l with | some ds, some i => .ok ⟨.own, newL (stX ds i k)⟩ | _, _ => .no) := Post.up st p
  refine hl.bind st.fh (en.step st.ff st.hh) p1 fun l F2 H2 st2 p2 => ?_
  obtain ⟨fz, o⟩ := (ro.step st2.ff st2.hh).ow
  cases q4 : itsS r.s with
  | none =>
    rw [q4] at p2
    exact p2.elim
  | some ds =>
    rw [q4] at p2
    cases l with
    | none => exact p2.elim
    | some i =>
      obtain ⟨a, xs, rfl, sq, all⟩ := itsS_ow st2.fh o q4
      refine ⟨a, xs, i, rfl, rfl, sq, fun b hb => ?_⟩
      obtain ⟨s1, s2, s3⟩ := new_list (K := K) st2.fh hb (dqAll_st all i k)
      exact p2 _ _ _ _ s1 s2 s3
theorem px_stp {E : XK} {a lo : Expr} {ma : Mr} {ml : MrO} {ta : TE} {tl : TO} {c : Int} {k : Nat} {p1 p3 pos : Pos} (ha : Px X E a ma ta) (hl : PxO X E (some lo) ml tl) (hc : c ≠ 0 := by decide) : Px X E (.Subscript a (.Slice (some lo) none (some (.Constant (.int c) k p1)) p3) pos) (eStp c ma ml) (tStp X.K c ta tl) := ⟨pe_stp ha.pe hl.po hc, sim_stp ha.sim hl.sim⟩
end
@[simp] theorem ev_stp {k : Int} {m : Mr} {lo : MrO} {Γ : Gm} : eStp k m lo Γ = (m Γ).bind fun r => (lo Γ).bind fun l => match itsS r.s, l with
  | some ds, some i => .ok ⟨.own, newL (stX ds i k)⟩
  | _, _ => .no := rfl
end Pf

/-! Pf49: by classes, changed lists, lists of lines compared, by simp. -/
namespace Pf
open PySem L2
section
variable {α : Type} {Γ : Gm} {m m' m1 m2 : Mr} {a : MrS} {d : PyData} {ds es : List PyData} {fl : Fl} {r : Rv} {xs : List Sl} {i : Nat} {s : Sl} {e : Str}
@[simp] theorem ev_byC {c : Str} : eByC c m m1 m2 Γ = if clsOf (m Γ) = some c then m1 Γ else m2 Γ := rfl
@[simp] theorem ev_clsO {c : Str} {ns : List Str} : clsOf (.ok ⟨fl, .node (.O c ns) xs⟩) = some c := rfl
def extG (o : Option (Option Rv)) (z : Rz Rv) (i : Nat) (Γ : Gm) : Oz := match o with
  | some (some ⟨.own, .node .L xs⟩) => (match z with
    | .ok ⟨_, .dat (.list ds)⟩ => if xs.length + ds.length ≤ most then .nx (Γ.set i (some ⟨.own, .node .L (xs ++ ds.map .dat)⟩)) else .no
    | .er c => .er c Γ
    | _ => .no)
  | _ => .no
@[simp] theorem ev_ext : sExt i m Γ = extG (gt Γ i) (m Γ) i Γ := by
  rw [← gt_eq]
  rfl
@[simp] theorem ev_extG (h : xs.length + ds.length ≤ 1000000) : extG (some (some ⟨.own, .node .L xs⟩)) (.ok ⟨fl, .dat (.list ds)⟩) i Γ = .nx (Γ.set i (some ⟨.own, .node .L (xs ++ ds.map .dat)⟩)) := by
  show (if xs.length + ds.length ≤ most then _ else _) = _
  exact if_pos h
def revG (o : Option (Option Rv)) (i : Nat) (Γ : Gm) : Oz := match o with
  | some (some ⟨.own, .node .L xs⟩) => .nx (Γ.set i (some ⟨.own, .node .L xs.reverse⟩))
  | _ => .no
@[simp] theorem ev_revS : sRev i Γ = revG (gt Γ i) i Γ := by
  rw [← gt_eq]
  rfl
@[simp] theorem ev_revG : revG (some (some ⟨.own, .node .L xs⟩)) i Γ = .nx (Γ.set i (some ⟨.own, .node .L xs.reverse⟩)) := rfl
def putG (o : Option (Option Rv)) (z : Rz (List Rv)) (i : Nat) (Γ : Gm) : Oz := match o with
  | some (some ⟨.own, .node .L xs⟩) => (match z with
    | .ok [⟨.own, s⟩, ⟨_, .dat (.int k)⟩] => (match ixN xs.length k with
      | some j => .nx (Γ.set i (some ⟨.own, .node .L (xs.take j ++ [s] ++ xs.drop (j + 1))⟩))
      | none => .no)
    | .er c => .er c Γ
    | _ => .no)
  | _ => .no
@[simp] theorem ev_putS : sPut i m m' Γ = putG (gt Γ i) (eCons m (eCons m' eNil) Γ) i Γ := by
  rw [← gt_eq]
  rfl
@[simp] theorem ev_putG {k : Int} : putG (some (some ⟨.own, .node .L xs⟩)) (.ok [⟨.own, s⟩, ⟨fl, di k⟩]) i Γ = (match ixN xs.length k with
      | some j => .nx (Γ.set i (some ⟨.own, .node .L (xs.take j ++ [s] ++ xs.drop (j + 1))⟩))
      | none => .no) := rfl
/-! lists of one's own -/
@[simp] theorem its_own {f : α → PyData} {xs : List α} : itsS (.node .L (xs.map fun x => Sl.dat (f x))) = some (xs.map f) := datAll_pt f xs
@[simp] theorem itd_own {f : α → PyData} {xs : List α} : itsD (.node .L (xs.map fun x => Sl.dat (f x))) = some (xs.map f) := datAll_pt f xs
theorem toWs_dat (f : α → PyData) : ∀ xs : List α, toWs (xs.map fun x => Sl.dat (f x)) = some (xs.map f)
  | [] => by rw [List.map_nil, List.map_nil, toWs]
  | x :: xs => by rw [List.map_cons, List.map_cons, toWs, toW, toWs_dat f xs]
@[simp] theorem toW_own {f : α → PyData} {xs : List α} : toW (.node .L (xs.map fun x => Sl.dat (f x))) = some (.list (xs.map f)) := by
  rw [toW, toWs_dat]
  rfl
theorem toW_d : toW (.dat d) = some d := by rw [toW]
theorem new_own {f : α → PyData} {xs : List α} : newL (xs.map f) = .node .L (xs.map fun x => Sl.dat (f x)) := by
  unfold newL
  rw [List.map_map]
  rfl
@[simp] theorem ev_listD : pList [.dat (.list ds)] = some (newL ds) := rfl
@[simp] theorem itsL_d : itsL ⟨fl, .dat (.list ds)⟩ = .ok (true, ds) := rfl
@[simp] theorem itsL_b {f : α → PyData} {xs : List α} : itsL ⟨.bor, .node .L (xs.map fun x => Sl.dat (f x))⟩ = .ok (false, xs.map f) := by
  show itsN (datAll (xs.map fun x => Sl.dat (f x))) .bor = _
  rw [datAll_pt]
  rfl
@[simp] theorem itsL_p {f : α → PyData} {xs : List α} : itsL ⟨.par, .node .L (xs.map fun x => Sl.dat (f x))⟩ = .ok (true, xs.map f) := by
  show itsN (datAll (xs.map fun x => Sl.dat (f x))) .par = _
  rw [datAll_pt]
  rfl
/-! lines -/
theorem lay_s (w : String) : PyData.canLay0 (.str (Str.ofString w)) = true := by
  unfold PyData.canLay0
  exact strOk_of w
theorem lay_ln (x : Ln) : PyData.canLay0 (lnD x) = true ∧ PyData.depth (lnD x) = 1 := by
  cases x with
  | take h b e n =>
    refine ⟨?_, rfl⟩
    show (PyData.canLay0 (.str (Str.ofString "take")) && (true && (true && (true && (true && true))))) = true
    rw [lay_s]
    rfl
  | op w n h =>
    refine ⟨?_, rfl⟩
    show (PyData.canLay0 (.str (Str.ofString w)) && (true && (true && true))) = true
    rw [lay_s]
    rfl
theorem lay_lns : ∀ t : List Ln, PyData.canLayAll0 (t.map lnD) = true ∧ PyData.depthAll (t.map lnD) ≤ 1
  | [] => ⟨rfl, Nat.zero_le _⟩
  | x :: t => by
    obtain ⟨h1, h2⟩ := lay_lns t
    obtain ⟨h3, h4⟩ := lay_ln x
    constructor
    · show (PyData.canLay0 (lnD x) && PyData.canLayAll0 (t.map lnD)) = true
      rw [h1, h3]
      rfl
    · show max (PyData.depth (lnD x)) (PyData.depthAll (t.map lnD)) ≤ 1
      rw [h4]
      omega
theorem shp_lns (t : List Ln) : shp (lnsD t) = true := by
  show (PyData.canLayAll0 (t.map lnD) && decide (PyData.depthAll (t.map lnD) + 1 ≤ 64)) = true
  have h := lay_lns t
  rw [h.1, decide_eq_true (by omega)]
  rfl
theorem eqv_ln (x : Ln) : PyData.eqv (lnD x) (lnD x) = true := by
  cases x with
  | take h b e n =>
    show (PyData.eqv (.str (Str.ofString "take")) (.str (Str.ofString "take")) && ((h == h) && ((b == b) && ((e == e) && ((n == n) && true))))) = true
    rw [eqv_str]
    simp
  | op w n h =>
    show (PyData.eqv (.str (Str.ofString w)) (.str (Str.ofString w)) && ((n == n) && ((h == h) && true))) = true
    rw [eqv_str]
    simp
theorem eqv_lns : ∀ t : List Ln, PyData.eqvAll (t.map lnD) (t.map lnD) = true
  | [] => rfl
  | x :: t => by
    show (PyData.eqv (lnD x) (lnD x) && PyData.eqvAll (t.map lnD) (t.map lnD)) = true
    rw [eqv_ln, eqv_lns t]
    rfl
theorem ne_lns {s s' : Sl} {t : List Ln} (h : toW s = some (lnsD t)) (h' : toW s' = some (lnsD t)) : pNe [s, s'] = some (db false) := by
  show (match toW s, toW s' with
    | some d, some e => if shp d = true ∧ shp e = true then some (Sl.dat (.bool (!PyData.eqv d e))) else none
    | _, _ => none) = _
  rw [h, h']
  show (if shp (lnsD t) = true ∧ shp (lnsD t) = true then some (Sl.dat (.bool (!PyData.eqvAll (t.map lnD) (t.map lnD)))) else none) = _
  rw [if_pos ⟨shp_lns t, shp_lns t⟩, eqv_lns]
  rfl
end
end Pf

/-! Pf50: zip of three lists. -/
namespace Pf
open PySem PySem.Calls PyProof.Rows L2
/-- the lists at a, b, c as they stand at each turn, the items in new tuples -/
def Itz3 (K : PySem.W.Frag) (a b c : Addr) : It :=
  ⟨fun i H => ∃ (xs ys zs : List V) (x y z : V), SqL K H a xs ∧ SqL K H b ys ∧ SqL K H c zs ∧ xs[i]? = some x ∧ ys[i]? = some y ∧ zs[i]? = some z,
    fun i H v H' => ∃ T x y z, v = .ref T ∧ H T = none ∧ H' = upd H T (.tup [x, y, z]) ∧ (∀ xs, SqL K H a xs → xs[i]? = some x) ∧ (∀ ys, SqL K H b ys → ys[i]? = some y) ∧ ∀ zs, SqL K H c zs → zs[i]? = some z,
    fun i H => ∃ xs ys zs : List V, SqL K H a xs ∧ SqL K H b ys ∧ SqL K H c zs ∧ (xs.length ≤ i ∨ ys.length ≤ i ∨ zs.length ≤ i)⟩
theorem draws_end {prog : Program} {w : World} {A : Around} (hh : A.handled = none) (it l : Addr) (hne : l ≠ it) (items : Array Value) (i : Nat) (hi : items.size ≤ i) :
    Draws prog w A it [it, l] i (fun _ _ => False) (fun j h => j = i ∧ h.IsListIter it l i ∧ h.IsList l items) where
  live := fun _ _ st => let ⟨o, ho, _⟩ := st.2.1; ⟨o, ho⟩
  frame := fun _ _ _ st hk => ⟨st.1, st.2.1.at fun o e => hk it (by simp) o e, st.2.2.at fun o e => hk l (by simp) o e⟩
  item := fun j s Q E hj st hQ => absurd hj (by rw [st.1]; exact Nat.lt_irrefl _)
  done := fun s Q E st hE => wpAny_nextOf_list_end hh st.2.1 st.2.2 (Array.getElem?_eq_none hi) hE
/-- what an iterator of a list draws at turn i, at its end or ahead of it -/
theorem draws_at {prog : Program} {w : World} {A : Around} (hh : A.handled = none) {it l : Addr} (hne : l ≠ it) {items : Array Value} {i : Nat} {h : Heap} (h1 : h.IsListIter it l i) (h2 : h.IsList l items) :
    ∃ (n : Nat) (P : Nat → Value → Prop) (St : Nat → Heap → Prop), Draws prog w A it [it, l] n P St ∧ St i h ∧ i ≤ n ∧ (items.size ≤ i → i = n) := by
  by_cases hi : items.size ≤ i
  · exact ⟨i, _, _, draws_end hh it l hne items i hi, ⟨rfl, h1, h2⟩, Nat.le_refl _, fun _ => rfl⟩
  · exact ⟨items.size, _, _, Draws.list hh it l hne items, ⟨h1, h2⟩, by omega, fun z => absurd z hi⟩
theorem turn_zip3 {P : Program} {w : World} {K : PySem.W.Frag} {elts : List Expr} {kk : Nat} {tpos : Pos} {a b c z TI TO i1 i2 i3 : Addr} (D : ZipSep3 z TI TO i1 i2 i3 [i1, a] [i2, b] [i3, c]) (n1 : a ≠ i1) (n2 : b ≠ i2) (n3 : c ≠ i3) :
    Turn P w K (.Tuple elts kk tpos) (Itz3 K a b c) [z, TI, TO, i1, i2, i3] z (fun i h => IsZip h z TI TO .none ∧ IsTupOf3 h TI (.ref i1) (.ref i2) (.ref i3) ∧ (∃ x y u, IsTupOf3 h TO x y u) ∧ h.IsListIter i1 a i ∧ h.IsListIter i2 b i ∧ h.IsListIter i3 c i) where
  mem := by simp
  obj := fun i h st e he => by
    obtain ⟨hz, hTI, ⟨x, y, u, hTO⟩, ⟨o1, e1, _, d1⟩, ⟨o2, e2, _, d2⟩, ⟨o3, e3, _, d3⟩⟩ := st
    have e' : e = z ∨ e = TI ∨ e = TO ∨ e = i1 ∨ e = i2 ∨ e = i3 := by simpa using he
    rcases e' with q | q | q | q | q | q
    · rw [q]; exact ⟨_, hz, fun v q => nomatch q⟩
    · rw [q]; exact ⟨_, hTI, fun v q => nomatch q⟩
    · rw [q]; exact ⟨_, hTO, fun v q => nomatch q⟩
    · rw [q]; exact ⟨o1, e1, fun v q => by rw [d1] at q; cases q⟩
    · rw [q]; exact ⟨o2, e2, fun v q => by rw [d2] at q; cases q⟩
    · rw [q]; exact ⟨o3, e3, fun v q => by rw [d3] at q; cases q⟩
  keep := fun i h h' st k => by
    obtain ⟨hz, hTI, ⟨x, y, u, hTO⟩, h1, h2, h3⟩ := st
    exact ⟨k z (by simp) _ hz, k TI (by simp) _ hTI, ⟨x, y, u, k TO (by simp) _ hTO⟩, h1.at fun o q => k i1 (by simp) o q, h2.at fun o q => k i2 (by simp) o q, h3.at fun o q => k i3 (by simp) o q⟩
  item := by
    intro X hP hw hK hc i pins s σ H E I hf st hg
    subst hP hw hK
    obtain ⟨hz, hTI, ⟨x0, y0, u0, hTO⟩, h1, h2, h3⟩ := st
    obtain ⟨xs, ys, zs, x, y, v, hqx, hqy, hqz, hx, hy, hv⟩ := hg
    obtain ⟨its, rv, p, _⟩ := I.list hqx
    obtain ⟨its2, rv2, p2, _⟩ := I.list hqy
    obtain ⟨its3, rv3, p3, _⟩ := I.list hqz
    obtain ⟨u, hu, ru⟩ := rv.get hx
    obtain ⟨u2, hu2, ru2⟩ := rv2.get hy
    obtain ⟨u3, hu3, ru3⟩ := rv3.get hv
    have hzl : z < s.heap.objs.size := Heap.lt_size hz
    have hh : X.A.in1.handled = none := I.ok.hd hc
    have l1 : i < its.toArray.size := by
      rw [List.size_toArray]
      exact (List.getElem?_eq_some_iff.mp hu).1
    have l2 : i < its2.toArray.size := by
      rw [List.size_toArray]
      exact (List.getElem?_eq_some_iff.mp hu2).1
    have l3 : i < its3.toArray.size := by
      rw [List.size_toArray]
      exact (List.getElem?_eq_some_iff.mp hu3).1
    refine wpAny_pyNext_zipD3_item D (Draws.list hh i1 a n1 its.toArray) (Draws.list hh i2 b n2 its2.toArray) (Draws.list hh i3 c n3 its3.toArray) hz hTI hTO ⟨h1, p.isList⟩ ⟨h2, p2.isList⟩ ⟨h3, p3.isList⟩ l1 l2 l3 fun w1 w2 w3 h' tk q1 q2 q3 z' TO' d1 d2 d3 hT hsz hk => ?_
    have e1 : w1 = u := by
      rw [List.getElem?_toArray, hu] at q1
      exact (Option.some.inj q1).symm
    have e2 : w2 = u2 := by
      rw [List.getElem?_toArray, hu2] at q2
      exact (Option.some.inj q2).symm
    have e3 : w3 = u3 := by
      rw [List.getElem?_toArray, hu3] at q3
      exact (Option.some.inj q3).symm
    subst e1 e2 e3
    refine ⟨_, rfl, wpAny_letOwnedTupleGo_zip (s := { s with heap := h', toks := tk }) z' fun h'' z'' sb => ?_⟩
    have hT2 : h''.get? s.heap.objs.size = some { cls := .type "tuple", data := .seq #[w1, w2, w3] } := (sb.2 _ (Nat.ne_of_gt hzl)).trans hT
    have new : ObjOk X.prog X.w (upd H s.heap.objs.size (.tup [x, y, v])) h'' s.heap.objs.size (.tup [x, y, v]) :=
      ⟨by show 3 ≤ sizeLine; decide, [w1, w2, w3], .cons ru (.cons ru2 (.cons ru3 .nil)), ⟨_, hT2, rfl, _, rfl⟩⟩
    have I1 : Inv X pins σ (upd H s.heap.objs.size (.tup [x, y, v])) { s with heap := h'', toks := tk } :=
      I.turnedNew (t' := tk) (ch := [z, TI, TO, i1, i2, i3]) (fun e o hb q => (sb.2 e (fun q' => hb (by simp [q']))).trans (hk e o (fun q' => hb (by simp [q'])) (fun q' => hb (by simp [q'])) (fun q' => hb (by simp [q'])) (fun q' => hb (by simp [q'])) (fun q' => hb (by simp [q'])) q)) hf (Nat.le_refl _) new
    have z1 : i1 ≠ z := fun q => D.zf1 (by rw [← q]; exact List.mem_cons_self)
    have z2 : i2 ≠ z := fun q => D.zf2 (by rw [← q]; exact List.mem_cons_self)
    have z3 : i3 ≠ z := fun q => D.zf3 (by rw [← q]; exact List.mem_cons_self)
    refine ⟨.ref s.heap.objs.size, _, I1, rfl, ⟨_, x, y, v, rfl, I.hok.fresh (Nat.le_refl _), rfl, fun l hl => by rw [I.list_inj hl hqx]; exact hx, fun l hl => by rw [I.list_inj hl hqy]; exact hy, fun l hl => by rw [I.list_inj hl hqz]; exact hv⟩, ⟨z'', ?_, ⟨w1, w2, w3, ?_⟩, ?_, ?_, ?_⟩, fun e he => ?_⟩
    · exact (sb.2 _ D.TIz).trans (hk _ _ D.TIz D.TITO D.TIi1 D.TIi2 D.TIi3 hTI)
    · exact (sb.2 _ D.TOz).trans TO'
    · exact d1.1.at fun o q => (sb.2 _ z1).trans q
    · exact d2.1.at fun o q => (sb.2 _ z2).trans q
    · exact d3.1.at fun o q => (sb.2 _ z3).trans q
    · have hlt : e < s.heap.objs.size := by
        have e' : e = z ∨ e = TI ∨ e = TO ∨ e = i1 ∨ e = i2 ∨ e = i3 := by simpa using he
        rcases e' with q | q | q | q | q | q
        · rw [q]; exact hzl
        · rw [q]; exact Heap.lt_size hTI
        · rw [q]; exact Heap.lt_size hTO
        · rw [q]; obtain ⟨_, e1, _⟩ := h1; exact Heap.lt_size e1
        · rw [q]; obtain ⟨_, e2, _⟩ := h2; exact Heap.lt_size e2
        · rw [q]; obtain ⟨_, e3, _⟩ := h3; exact Heap.lt_size e3
      rw [upd_ne (Nat.ne_of_lt hlt)]
      exact (hf e he).1
  done := by
    intro X hP hw hK hc i pins s σ H E I hf st hg
    subst hP hw hK
    obtain ⟨hz, hTI, ⟨x0, y0, u0, hTO⟩, h1, h2, h3⟩ := st
    obtain ⟨xs, ys, zs, hqx, hqy, hqz, hend⟩ := hg
    obtain ⟨its, rv, p, _⟩ := I.list hqx
    obtain ⟨its2, rv2, p2, _⟩ := I.list hqy
    obtain ⟨its3, rv3, p3, _⟩ := I.list hqz
    have l1 := rv.length
    have l2 := rv2.length
    have l3 := rv3.length
    have hh : X.A.in1.handled = none := I.ok.hd hc
    obtain ⟨m1, P1, S1, D1, s1, g1, t1⟩ := draws_at (prog := X.prog) (w := X.w) hh n1 h1 p.isList
    obtain ⟨m2, P2, S2, D2, s2, g2, t2⟩ := draws_at (prog := X.prog) (w := X.w) hh n2 h2 p2.isList
    obtain ⟨m3, P3, S3, D3, s3, g3, t3⟩ := draws_at (prog := X.prog) (w := X.w) hh n3 h3 p3.isList
    have he : i = m1 ∨ i = m2 ∨ i = m3 := by
      rcases hend with q | q | q
      · exact .inl (t1 (by rw [List.size_toArray]; omega))
      · exact .inr (.inl (t2 (by rw [List.size_toArray]; omega)))
      · exact .inr (.inr (t3 (by rw [List.size_toArray]; omega)))
    exact wpAny_pyNext_zipD3_end D D1 D2 D3 hz hTI hTO s1 s2 s3 g1 g2 g3 he fun h' tk hk => ⟨rfl, I.turnedL (t' := tk) (ch := [z, TI, TO, i1, i2, i3]) (fun e o hb q =>
      hk e o (fun q' => hb (by simp [q'])) (fun q' => hb (by simp [q'])) (fun q' => hb (by simp [q'])) (fun q' => hb (by simp [q'])) (fun q' => hb (by simp [q'])) q) hf⟩
  self := fun A i s Q E st h => wpAny_pyIter_zip st.1 h
def iZip3 (K : PySem.W.Frag) (ta : TA) : TI := fun σ H R => ta σ H fun vs H1 => ∃ a b c xs ys zs, vs = [.ref a, .ref b, .ref c] ∧ SqL K H1 a xs ∧ SqL K H1 b ys ∧ SqL K H1 c zs ∧ R (Itz3 K a b c) H1
theorem pi_zip3 {X : Cx} {e e2 e3 : Expr} {ta : TA} {p pos tpos : Pos} {elts : List Expr} {kk : Nat} (hg : Gl X "zip") (hm : X.mg "zip" = none) (ha : PA X [e, e2, e3] ta)
    (hs : starEach [e, e2, e3] X.env = (false, eval e X.env) :: starEach [e2, e3] X.env := by rfl) (hpl : (backTo pos (starEach [e2, e3] X.env)).any (·.1) = false := by rfl) :
    PI X (.Tuple elts kk tpos) (.Call (.Name "zip" p) [e, e2, e3] [] pos) (iZip3 X.K ta) := by
  refine ⟨fun pins s σ H R I h => ?_⟩
  refine Call_ (ld_blt I hg hm PyProof.Rows.boot_zip (PyProof.Rows.callWith_type1 (thn (ha.run pos pins s σ H _ I h) fun us s1 ⟨vs, H1, I1, r1, q1⟩ => ?_) hs hpl))
  obtain ⟨a, b, c, xs, ys, zs, ex, hqx, hqy, hqz, q⟩ := q1
  subst ex
  cases r1 with
  | cons r rr =>
    cases rr with
    | cons r' rr =>
      cases rr with
      | cons r'' rr =>
        cases rr
        cases r
        cases r'
        cases r''
        obtain ⟨its, rv, p1, _⟩ := I1.list hqx
        obtain ⟨its2, rv2, p2, _⟩ := I1.list hqy
        obtain ⟨its3, rv3, p3, _⟩ := I1.list hqz
        have la : a < s1.heap.objs.size := p1.lt
        have lb : b < s1.heap.objs.size := p2.lt
        have lc : c < s1.heap.objs.size := p3.lt
        refine zip_begins3 (begins_list a its.toArray) (begins_list b its2.toArray) (begins_list c its3.toArray) p1.isList p2.isList p3.isList fun h' hz hTI hTO h1 h2 h3 hsz hk => wpAny_pyIter_zip hz ?_
        have I2 : Inv X pins σ H1 { s1 with heap := h' } := I1.kept (t' := s1.toks) hk
        have D := zip_sep3 (N := s1.heap.objs.size) (fp1 := [a]) (fp2 := [b]) (fp3 := [c]) (fun d m => by cases List.mem_singleton.mp m; exact la) (fun d m => by cases List.mem_singleton.mp m; exact lb) (fun d m => by cases List.mem_singleton.mp m; exact lc)
        refine ⟨s1.heap.objs.size + 5, [s1.heap.objs.size + 5, s1.heap.objs.size + 3, s1.heap.objs.size + 4, s1.heap.objs.size, s1.heap.objs.size + 1, s1.heap.objs.size + 2], _, _, H1, rfl, I2, turn_zip3 D (Nat.ne_of_lt la) (Nat.ne_of_lt (Nat.lt_succ_of_lt lb)) (Nat.ne_of_lt (Nat.lt_succ_of_lt (Nat.lt_succ_of_lt lc))), ⟨hz, hTI, ⟨_, _, _, hTO⟩, ⟨_, h1, rfl, rfl⟩, ⟨_, h2, rfl, rfl⟩, ⟨_, h3, rfl, rfl⟩⟩, fun d hd => ?_, q⟩
        have e' : d = s1.heap.objs.size + 5 ∨ d = s1.heap.objs.size + 3 ∨ d = s1.heap.objs.size + 4 ∨ d = s1.heap.objs.size ∨ d = s1.heap.objs.size + 1 ∨ d = s1.heap.objs.size + 2 := by simpa using hd
        have hle : s1.heap.objs.size ≤ d := by
          rcases e' with z | z | z | z | z | z
          · rw [z]; exact Nat.le_add_right _ _
          · rw [z]; exact Nat.le_add_right _ _
          · rw [z]; exact Nat.le_add_right _ _
          · rw [z]; exact Nat.le_refl _
          · rw [z]; exact Nat.le_add_right _ _
          · rw [z]; exact Nat.le_add_right _ _
        exact I1.fpOk hle (I1.hok.fresh hle)
end Pf

/-! Pf51: zip of three lists, its mirror. -/
namespace Pf
open PySem PySem.Calls PyProof.Rows L2
def z3D : List PyData → List PyData → List PyData → List PyData
  | a :: as, b :: bs, c :: cs => .tuple [a, b, c] :: z3D as bs cs
  | _, _, _ => []
theorem z3D_get : ∀ (as bs cs : List PyData) (i : Nat), (z3D as bs cs)[i]? = (as[i]?).bind fun a => (bs[i]?).bind fun b => (cs[i]?).map fun c => .tuple [a, b, c]
  | [], _, _, i => by cases i <;> rfl
  | _ :: _, [], _, i => by
    rw [z3D]
    all_goals (first | (cases i <;> simp; done) | (intros; simp_all; done))
  | _ :: _, _ :: _, [], i => by
    rw [z3D]
    all_goals (first | (cases i <;> simp; done) | (intros; simp_all; done))
  | a :: as, b :: bs, c :: cs, 0 => rfl
  | a :: as, b :: bs, c :: cs, i + 1 => z3D_get as bs cs i
theorem z3D_len (as bs cs : List PyData) (i : Nat) : i < (z3D as bs cs).length ↔ i < as.length ∧ i < bs.length ∧ i < cs.length := by
  have h := z3D_get as bs cs i
  constructor
  · intro hi
    rw [List.getElem?_eq_getElem hi] at h
    refine ⟨?_, ?_, ?_⟩
    · apply Classical.byContradiction
      intro z
      rw [List.getElem?_eq_none (by omega : as.length ≤ i)] at h
      cases h
    · apply Classical.byContradiction
      intro z
      rw [List.getElem?_eq_none (by omega : bs.length ≤ i)] at h
      cases q : as[i]? with
      | none =>
        rw [q] at h
        cases h
      | some a =>
        rw [q] at h
        cases h
    · apply Classical.byContradiction
      intro z
      rw [List.getElem?_eq_none (by omega : cs.length ≤ i)] at h
      cases q : as[i]? with
      | none =>
        rw [q] at h
        cases h
      | some a =>
        rw [q] at h
        cases q2 : bs[i]? with
        | none =>
          rw [q2] at h
          cases h
        | some b =>
          rw [q2] at h
          cases h
  · rintro ⟨h1, h2, h3⟩
    rw [List.getElem?_eq_getElem h1, List.getElem?_eq_getElem h2, List.getElem?_eq_getElem h3] at h
    exact (List.getElem?_eq_some_iff.mp h).1
section
variable {K : PySem.W.Frag} {S : Addr → Prop} {E : XK} {F H : Hp} {X : Cx}
theorem itd_zip3 {a b c : Addr} {xs ys zs : List V} {ds es fs : List PyData} {C : List (Addr × HO)} (sa : ∀ F' H', Same F F' → Same F' H' → (∀ c ∈ C, H' c.1 = some c.2) → SqL K H' a xs) (sb : ∀ F' H', Same F F' → Same F' H' → (∀ c ∈ C, H' c.1 = some c.2) → SqL K H' b ys) (sc : ∀ F' H', Same F F' → Same F' H' → (∀ c ∈ C, H' c.1 = some c.2) → SqL K H' c zs)
    (aa : DqAll F xs ds) (ab : DqAll F ys es) (ac : DqAll F zs fs) : ItD K (Itz3 K a b c) F C (z3D ds es fs) := by
  have l1 := dpAll_len aa
  have l2 := dpAll_len ab
  have l3 := dpAll_len ac
  refine ⟨fun i F' H ff fh cc hi => ?_, fun i F' H ff fh cc hi => ?_, fun i F' H x H' ff fh cc hi y => ?_⟩
  · obtain ⟨h1, h2, h3⟩ := (z3D_len ds es fs i).mp hi
    exact ⟨xs, ys, zs, xs[i]'(by omega), ys[i]'(by omega), zs[i]'(by omega), sa F' H ff fh cc, sb F' H ff fh cc, sc F' H ff fh cc, by simp, by simp, by simp⟩
  · refine ⟨xs, ys, zs, sa F' H ff fh cc, sb F' H ff fh cc, sc F' H ff fh cc, ?_⟩
    apply Classical.byContradiction
    intro z
    have := (z3D_len ds es fs i).mpr ⟨by omega, by omega, by omega⟩
    omega
  · obtain ⟨T, v1, v2, v3, rfl, hT, rfl, g1, g2, g3⟩ := y
    obtain ⟨d1, p1, q1⟩ := dpAll_get aa (g1 xs (sa F' H ff fh cc))
    obtain ⟨d2, p2, q2⟩ := dpAll_get ab (g2 ys (sb F' H ff fh cc))
    obtain ⟨d3, p3, q3⟩ := dpAll_get ac (g3 zs (sc F' H ff fh cc))
    have e : (z3D ds es fs)[i]? = some (.tuple [d1, d2, d3]) := by
      rw [z3D_get, p1, p2, p3]
      rfl
    have g : Same F' (upd F' T (.tup [v1, v2, v3])) := fun b u w => by
      rw [upd_ne (ne_of_none w (fh.free hT))]
      exact w
    refine ⟨_, upd F' T (.tup [v1, v2, v3]), e, ⟨g, fun b u w => ?_, fun b u w => ?_, fun b w1 w2 => ?_⟩, .tup upd_same (.cons (dp_mono (ff.trans g) q1) (.cons (dp_mono (ff.trans g) q2) (.cons (dp_mono (ff.trans g) q3) .nil)))⟩
    · by_cases hb : b = T
      · rw [hb, upd_same] at w
        rw [hb, upd_same]
        exact w
      · rw [upd_ne hb] at w ⊢
        exact fh _ _ w
    · rw [upd_ne (ne_of_none w hT)]
      exact w
    · have hb : b ≠ T := fun q => w1 (by rw [q]; exact hT)
      rw [upd_ne hb]
      exact w2
/-- a list that is walked: where it stands, its cell if it isn't frozen -/
theorem itsL_ok {v : V} {r : Rv} {fp : List Addr} {b : Bool} {ds : List PyData} (fh : Same F H) (ro : Rok K S F H v r fp) (q : itsL r = .ok (b, ds)) :
    ∃ (a : Addr) (xs : List V) (C : List (Addr × HO)), v = .ref a ∧ (∀ c ∈ C, H c.1 = some c.2) ∧ (b = true → ∀ c ∈ C, S c.1) ∧ DqAll F xs ds ∧ ∀ F' H', Same F F' → Same F' H' → (∀ c ∈ C, H' c.1 = some c.2) → SqL K H' a xs := by
  obtain ⟨fl, s⟩ := r
  cases s with
  | dat d =>
    obtain ⟨fq, o⟩ := ro.ow
    cases o with
    | dat hd =>
      cases hd with
      | lst sq all =>
        cases q
        exact ⟨_, _, [], rfl, (fun _ m => nomatch m), (fun _ _ m => nomatch m), all, fun F' H' ff fh' _ => SqL.of (fh' _ _ (ff _ _ sq))⟩
      | _ => cases q
  | node k xs =>
    cases k with
    | L =>
      have q' : itsN (datAll xs) fl = .ok (b, ds) := q
      cases q1 : datAll xs with
      | none =>
        rw [q1] at q'
        cases q'
      | some es =>
        rw [q1] at q'
        cases fl with
        | own => cases q'
        | par =>
          cases q'
          obtain ⟨_, fq, o, hs⟩ := ro
          have o' : Ow K F H _ (.node .L xs) fq := o
          cases o' with
          | node ha sh t =>
            have sh' : _ = HO.lst _ := sh
            subst sh'
            refine ⟨_, _, [(_, _)], rfl, fun c m => ?_, fun _ c m => ?_, datAll_dp t q1, fun F' H' _ _ c => SqL.of (c _ (List.mem_singleton.mpr rfl))⟩
            · cases List.mem_singleton.mp m
              exact ha
            · cases List.mem_singleton.mp m
              exact hs _ List.mem_cons_self
        | bor =>
          cases q'
          obtain ⟨_, fq, o⟩ := ro
          have o' : Ow K F H _ (.node .L xs) fq := o
          cases o' with
          | node ha sh t =>
            have sh' : _ = HO.lst _ := sh
            subst sh'
            refine ⟨_, _, [(_, _)], rfl, fun c m => ?_, (fun z => by cases z), datAll_dp t q1, fun F' H' _ _ c => SqL.of (c _ (List.mem_singleton.mpr rfl))⟩
            cases List.mem_singleton.mp m
            exact ha
    | _ => cases q
def z3L (rs : List Rv) : Rz (Bool × List PyData) := match rs with
  | [r1, r2, r3] => (itsL r1).bind fun a => (itsL r2).bind fun b => (itsL r3).bind fun c => .ok (a.1 && (b.1 && c.1), z3D a.2 b.2 c.2)
  | _ => .no
def iZ3 (as : MrA) : MrI := fun Γ => (as Γ).bind z3L
theorem itsL_ner {r : Rv} {c : Str} : itsL r ≠ .er c := by
  obtain ⟨fl, s⟩ := r
  intro h
  cases s with
  | dat d => cases d <;> cases h
  | node k xs =>
    cases k with
    | L =>
      have h' : itsN (datAll xs) fl = .er c := h
      cases q1 : datAll xs with
      | none =>
        rw [q1] at h'
        cases h'
      | some es =>
        rw [q1] at h'
        cases fl <;> cases h'
    | _ => cases h
theorem simI_zip3 {t : TA} {m : MrA} (h : SimA K E t m) : SimI K E (iZip3 K t) (iZ3 m) := by
  intro S F H σ Γ R e en p
  refine h.bindI e en p fun rs vs F1 H1 fp q st ro nw p1 => ?_
  unfold z3L at p1
  split at p1
  · rename_i r1 r2 r3
    cases ro with
    | cons h1 h2 =>
      cases h2 with
      | cons h2 h3 =>
        cases h3 with
        | cons h3 h4 =>
          cases h4
          cases e1 : itsL r1 with
          | no =>
            rw [e1] at p1
            exact p1.elim
          | er c => exact absurd e1 itsL_ner
          | ok a =>
            rw [e1] at p1
            cases e2 : itsL r2 with
            | no =>
              have p1 : PostI K S E R F H ((itsL r2).bind fun b => (itsL r3).bind fun c => .ok (a.1 && (b.1 && c.1), z3D a.2 b.2 c.2)) := p1
              rw [e2] at p1
              exact p1.elim
            | er c => exact absurd e2 itsL_ner
            | ok b =>
              have p1 : PostI K S E R F H ((itsL r2).bind fun b => (itsL r3).bind fun c => .ok (a.1 && (b.1 && c.1), z3D a.2 b.2 c.2)) := p1
              rw [e2] at p1
              cases e3 : itsL r3 with
              | no =>
                have p1 : PostI K S E R F H ((itsL r3).bind fun c => .ok (a.1 && (b.1 && c.1), z3D a.2 b.2 c.2)) := p1
                rw [e3] at p1
                exact p1.elim
              | er c => exact absurd e3 itsL_ner
              | ok c =>
                have p1 : PostI K S E R F H ((itsL r3).bind fun c => .ok (a.1 && (b.1 && c.1), z3D a.2 b.2 c.2)) := p1
                rw [e3] at p1
                obtain ⟨b1, d1⟩ := a
                obtain ⟨b2, d2⟩ := b
                obtain ⟨b3, d3⟩ := c
                obtain ⟨a1, xs1, C1, rfl, hC1, hS1, q1, s1⟩ := itsL_ok st.fh h1 e1
                obtain ⟨a2, xs2, C2, rfl, hC2, hS2, q2, s2⟩ := itsL_ok st.fh h2 e2
                obtain ⟨a3, xs3, C3, rfl, hC3, hS3, q3, s3⟩ := itsL_ok st.fh h3 e3
                refine ⟨a1, a2, a3, xs1, xs2, xs3, rfl, s1 _ _ (Same.refl _) st.fh hC1, s2 _ _ (Same.refl _) st.fh hC2, s3 _ _ (Same.refl _) st.fh hC3, p1 _ F1 H1 (C1 ++ (C2 ++ C3)) st (fun c m => ?_) (fun hb c m => ?_) (itd_zip3 (fun F' H' ff fh c => s1 F' H' ff fh fun d m => c d (List.mem_append_left _ m)) (fun F' H' ff fh c => s2 F' H' ff fh fun d m => c d (List.mem_append_right _ (List.mem_append_left _ m))) (fun F' H' ff fh c => s3 F' H' ff fh fun d m => c d (List.mem_append_right _ (List.mem_append_right _ m))) q1 q2 q3)⟩
                · rcases List.mem_append.mp m with m | m
                  · exact hC1 c m
                  · rcases List.mem_append.mp m with m | m
                    · exact hC2 c m
                    · exact hC3 c m
                · rw [Bool.and_eq_true, Bool.and_eq_true] at hb
                  rcases List.mem_append.mp m with m | m
                  · exact hS1 hb.1 c m
                  · rcases List.mem_append.mp m with m | m
                    · exact hS2 hb.2.1 c m
                    · exact hS3 hb.2.2 c m
  · exact p1.elim
theorem pxi_zip3 {e e2 e3 : Expr} {me : MrA} {te : TA} {p pos tpos : Pos} {elts : List Expr} {kk : Nat} (hg : Gl X "zip") (hm : X.mg "zip" = none) (h : PxA X E [e, e2, e3] me te)
    (hs : starEach [e, e2, e3] X.env = (false, eval e X.env) :: starEach [e2, e3] X.env := by rfl) (hpl : (backTo pos (starEach [e2, e3] X.env)).any (·.1) = false := by rfl) :
    PxI X E (.Tuple elts kk tpos) (.Call (.Name "zip" p) [e, e2, e3] [] pos) (iZ3 me) (iZip3 X.K te) := ⟨pi_zip3 hg hm h.pa hs hpl, simI_zip3 h.sim⟩
end
section
variable {Γ : Gm} {ma : MrA} {r1 r2 r3 : Rv}
@[simp] theorem ev_iZ3 : iZ3 ma Γ = (ma Γ).bind z3L := rfl
@[simp] theorem ev_z3L : z3L [r1, r2, r3] = (itsL r1).bind fun a => (itsL r2).bind fun b => (itsL r3).bind fun c => .ok (a.1 && (b.1 && c.1), z3D a.2 b.2 c.2) := rfl
end
end Pf

/-! Pf52: try: return o.m(..) except X: .., o changed by m. -/
namespace Pf
open PySem L2
/-- a suite raises nothing -/
def calmS (m : MrS) : MrS := fun Γ => match m Γ with
  | .er _ _ => .no
  | z => z
theorem calm_ner {m : MrS} {Γ : Gm} {c : Str} {Γ' : Gm} : calmS m Γ ≠ .er c Γ' := by
  unfold calmS
  intro h
  split at h
  · cases h
  · rename_i z
    exact z _ _ h
/-- the clauses, in turn: which refusals each takes, its suite -/
def hsel : List (List (Str × Bool) × MrS) → Str → Gm → Oz
  | [], c, Γ => .er c Γ
  | (tb, m) :: r, c, Γ => match tb.lookup c with
    | some true => calmS m Γ
    | some false => hsel r c Γ
    | none => .no
def tryR (hs : List (List (Str × Bool) × MrS)) : Ez → Oz
  | .ok r Γ => .rt r Γ
  | .er c Γ => hsel hs c Γ
  | .no => .no
def sTryR (me : MrE) (hs : List (List (Str × Bool) × MrS)) : MrS := fun Γ => tryR hs (me Γ)
/-- which refusals the clause 'except x' takes -/
def ExmT (K : PySem.W.Frag) (x : Str) (tb : List (Str × Bool)) : Prop := ∀ p ∈ tb, PySem.W.exmOne K (.ref (He.ga K p.1)) (.ref (He.ga K x)) = some p.2
def exmB (K : PySem.W.Frag) (x : Str) (tb : List (Str × Bool)) : Bool := tb.all fun p => match PySem.W.exmOne K (.ref (He.ga K p.1)) (.ref (He.ga K x)) with
  | some b => b == p.2
  | none => false
theorem exmB_ok {K : PySem.W.Frag} {x : Str} {tb : List (Str × Bool)} (h : exmB K x tb = true) : ExmT K x tb := by
  intro p m
  have := List.all_eq_true.mp h p m
  split at this
  · rename_i b e
    rw [e]
    congr 1
    exact beq_iff_eq.mp this
  · cases this
theorem lookup_mem {c : Str} {b : Bool} : ∀ {tb : List (Str × Bool)}, tb.lookup c = some b → (c, b) ∈ tb
  | [], h => by cases h
  | (x, y) :: tb, h => by
    rw [List.lookup_cons] at h
    by_cases e : c = x
    · subst e
      rw [beq_self_eq_true] at h
      cases h
      exact List.mem_cons_self
    · rw [beq_eq_false_iff_ne.mpr e] at h
      exact List.mem_cons_of_mem _ (lookup_mem h)
section
variable {K : PySem.W.Frag} {np : Nat}
/-- a call whose refusals are wished by the slots -/
def SimEs (K : PySem.W.Frag) (Es : L2.St → XK) (np : Nat) (t : TE) (m : MrE) : Prop := ∀ (B : Bs) (F H : Hp) (σ : L2.St) (Γ : Gm) (Q : VK), B.pin.length ≤ np → EnvS K B F H σ Γ → PostE K B (Es σ) σ Q (m Γ) → t σ H Q
theorem SimE.es {Es : L2.St → XK} {t : XK → TE} {m : MrE} (h : ∀ E, SimE K E np (t E) m) : SimEs K Es np (fun σ H Q => t (Es σ) σ H Q) m := fun B F H σ Γ Q hp en p => h (Es σ) B F H σ Γ Q hp en p
/-- the suites, their readings -/
inductive SimHs (K : PySem.W.Frag) (np : Nat) : List (Value × (Addr → Value → Option Addr → TS)) → List (List (Str × Bool) × MrS) → Prop
  | nil : SimHs K np [] []
  | cons {x : Str} {tb : List (Str × Bool)} {t : TS} {m : MrS} {l : List (Value × (Addr → Value → Option Addr → TS))} {hs : List (List (Str × Bool) × MrS)} {E' : XK} : ExmT K x tb → SimS K E' np t m → SimHs K np l hs → SimHs K np ((.ref (He.ga K x), fun _ _ _ => t) :: l) ((tb, m) :: hs)
theorem PostS.e0 {B : Bs} {E : XK} {D : Ends} {z : Oz} (p : PostS K B E D z) (h : ∀ c Γ, z ≠ .er c Γ) : PostS K B E0 D z := by
  cases z with
  | er c Γ => exact absurd rfl (h c Γ)
  | _ => exact p
theorem simS_calm {E : XK} {t : TS} {m : MrS} (h : SimS K E np t m) : SimS K E0 np t (calmS m) := by
  intro B F H σ Γ D hp en p
  refine h B F H σ Γ D hp en ?_
  have p : PostS K B E0 D (match m Γ with | .er _ _ => .no | z => z) := p
  cases q : m Γ with
  | er c Γ' =>
    rw [q] at p
    exact p.elim
  | _ =>
    rw [q] at p
    exact p
theorem hs_post {E : XK} {D : Ends} {B : Bs} {σ : L2.St} {c : Str} {Γ : Gm} {F H : Hp} (hp : B.pin.length ≤ np) (en : EnvS K B F H σ Γ) : ∀ {l : List (Value × (Addr → Value → Option Addr → TS))} {hs : List (List (Str × Bool) × MrS)}, SimHs K np l hs → PostS K B E D (hsel hs c Γ) →
    wMany K (fun cls d _ H => E cls d H) D l (.ref (He.ga K c)) none σ H
  | _, _, .nil, p => p F H σ en
  | _, _, .cons (x := x) (tb := tb) (t := t) (m := m) (l := l) (hs := hs) hx hm hr, p => by
    have p : PostS K B E D (match tb.lookup c with | some true => calmS m Γ | some false => hsel hs c Γ | none => .no) := p
    cases q : tb.lookup c with
    | none =>
      rw [q] at p
      exact p.elim
    | some b =>
      rw [q] at p
      refine ⟨b, hx _ (lookup_mem q), fun hb a ha => ?_, fun hb => ?_⟩
      · subst hb
        exact simS_calm hm B F H σ Γ D hp en (PostS.e0 p fun c' Γ' => calm_ner)
      · subst hb
        exact hs_post hp en hr p
theorem simS_tryR {E : XK} {te : WX → TE} {me : MrE} {l : List (Value × (Addr → Value → Option Addr → TS))} {hs : List (List (Str × Bool) × MrS)} (hb : ∀ W : WX, SimEs K (WE W) np (te W) me) (hh : SimHs K np l hs) :
    SimS K E np (fun D σ H => tRet (te (wMany K (fun cls d _ H => E cls d H) D l)) D σ H) (sTryR me hs) := by
  intro B F H σ Γ D hp en p
  have p : PostS K B E D (tryR hs (me Γ)) := p
  refine hb _ B F H σ Γ _ hp en ?_
  cases q : me Γ with
  | no =>
    rw [q] at p
    exact p
  | ok r Γ' =>
    rw [q] at p
    exact fun v F' H' fq er so => p v F' H' σ (er.push so)
  | er c Γ' =>
    rw [q] at p
    exact fun F' H' es => hs_post hp es hh p
end
section
variable {X : Cx} {CX : CXT} {k : Nat} {f C : Addr} {fd : FuncData} {ps : List Str} {sp : Sp} {Es : L2.St → XK} {m : Str} {pos apos : Pos} {e o : Expr} {es : List Expr} {ta : TE} {t : TA}
theorem pe_methEs {pl : Sem Bool} (he : PE X o ta) (c : Cls X.K C) (hm : Meth X.K C m f) (F : FnOk X.prog X.w X.K X.mg X.base CX k f fd ps sp) (hr : Room k X.A) (hb : Binds X.K fd ps []) (hx : ∀ σ, PassesAt CX X σ (Es σ)) (ha : PA X (e :: es) t)
    (hst : starEach (e :: es) X.env = (false, eval e X.env) :: starEach es X.env := by rfl) (hpl : (backTo pos (starEach es X.env)).any (·.1) = false := by rfl)
    (ht : eval (.Call (.Attribute o m apos) (e :: es) [] pos) X.env = (do
      let ov ← eval o X.env
      standAt apos.atName
      let (f, first) ← holding [ov] (getMethod ov m pl)
      callWith pos f first (backTo pos (starEach (e :: es) X.env)) (backToKw pos (keywordEach [] X.env))) := by rfl) :
    PE X (.Call (.Attribute o m apos) (e :: es) [] pos) (fun σ H Q => tMeth C m sp [] (Es σ) ta t σ H Q) := by
  refine ⟨fun pins s σ H Q I h => ?_⟩
  refine PySem.W.methodCall_KW (pl := pl) (thn (he.run pins s σ H _ I h) fun u s1 ⟨x, H1, I1, rx, a, dx, fs, ex, ea, l, q⟩ => ?_) ht
  subst ex
  obtain rfl : u = Value.ref a := rx
  refine getmeth_ok I1 ea c hm l ?_
  refine PySem.W.callWith_K (first := [.ref a]) (h₀ := X.base) I.ok.mod.kin hm.kp (thn (ha.run pos pins s1 σ H1 _ I1 q) fun us s2 ⟨vs, H2, I2, r, q2⟩ => ⟨I2.kIn, ?_⟩) hst hpl
  have q2 : sp (.ref a :: (vs ++ [])) H2 Q (Es σ) := q2
  rw [List.append_nil] at q2
  exact run_fnS (us := .ref a :: us) (vs := .ref a :: vs) (E := Es) F hr hb (hx σ) I2 (.cons rfl r) q2
end
/-! the rule -/
inductive PxHs (X : Cx) (np : Nat) : List ExceptHandler → List (Value × (Addr → Value → Option Addr → TS)) → List (List (Str × Bool) × MrS) → Prop
  | nil : PxHs X np [] [] []
  | cons {x : Str} {tb : List (Str × Bool)} {t : TS} {m : MrS} {E' : XK} {b₀ : Stmt} {suite : List Stmt} {ep pos' : Pos} {hds : List ExceptHandler} {l : List (Value × (Addr → Value → Option Addr → TS))} {hs : List (List (Str × Bool) × MrS)} (hc : Names X x (.ref (He.ga X.K x))) (hx : ExmT X.K x tb)
      (hsu : ∀ (a : Addr) (oe : Obj) (pn : List (Addr × Obj)), PxSs (X.suite a ((a, oe) :: pn)) E' np (b₀ :: suite) m t) (r : PxHs X np hds l hs) :
      PxHs X np (.ExceptHandler (some (.Name x ep)) none (b₀ :: suite) pos' :: hds) ((.ref (He.ga X.K x), fun _ _ _ => t) :: l) ((tb, m) :: hs)
theorem PxHs.hds {X : Cx} {np : Nat} {h : List ExceptHandler} {l : List (Value × (Addr → Value → Option Addr → TS))} {hs : List (List (Str × Bool) × MrS)} (p : PxHs X np h l hs) : HdsOk X h l := by
  induction p with
  | nil => exact .nil
  | cons hc hx hsu r ih => exact .cons hc (fun a oe cls d pn _ _ => (hsu a oe pn).ps) ih
theorem PxHs.sim {X : Cx} {np : Nat} {h : List ExceptHandler} {l : List (Value × (Addr → Value → Option Addr → TS))} {hs : List (List (Str × Bool) × MrS)} (p : PxHs X np h l hs) : SimHs X.K np l hs := by
  induction p with
  | nil => exact .nil
  | cons hc hx hsu r ih => exact .cons hx (hsu 0 default []).sim ih
section
variable {X : Cx} {E : XK} {np : Nat} {a e : Expr} {es : List Expr} {pos apos p2 p3 : Pos} {mp : MrP} {tp : TE} {me : MrA} {te : TA} {k : Nat} {f : Addr} {fd : FuncData} {ps : List Str} {g : Fi} {cl n : Str} {h₀ : ExceptHandler} {hds : List ExceptHandler} {l : List (Value × (Addr → Value → Option Addr → TS))} {hs : List (List (Str × Bool) × MrS)}
theorem pxs_tryM {pl : Sem Bool} (hS : X.stack = X.env :: X.outer) (hF : X.env.frame = some X.env.locals) (tk : Takes X (fun cls d _ H => E cls d H)) (hP : ∀ pn xe, PxP (X.tr pn xe) a mp tp) (cc : Cls X.K (He.ga X.K cl)) (hm : Meth X.K (He.ga X.K cl) n f) (F : FnOk X.prog X.w X.K X.mg X.base (L2.CX X.prog X.w) k f fd ps (spI X.K 1 g)) (hr : Room k X.A) (hb : Binds X.K fd ps [])
    (hA : ∀ pn xe E', PxA (X.tr pn xe) E' (e :: es) me te) (hh : PxHs X np (h₀ :: hds) l hs)
    (hst : starEach (e :: es) X.env = (false, eval e X.env) :: starEach es X.env := by rfl) (hpl : (backTo pos (starEach es X.env)).any (·.1) = false := by rfl)
    (ht : eval (.Call (.Attribute a n apos) (e :: es) [] pos) X.env = (do
      let ov ← eval a X.env
      standAt apos.atName
      let (f, first) ← holding [ov] (getMethod ov n pl)
      callWith pos f first (backTo pos (starEach (e :: es) X.env)) (backToKw pos (keywordEach [] X.env))) := by rfl) :
    PxS X E np (.Try [.Return (some (.Call (.Attribute a n apos) (e :: es) [] pos)) p2] (h₀ :: hds) [] [] p3) (sTryR (eIoM cl n g mp me) hs) (fun D σ H => tRet (fun σ H Q => tMeth (He.ga X.K cl) n (spI X.K 1 g) [] (WE (wMany X.K (fun cls d _ H => E cls d H) D l) σ) tp te σ H Q) D σ H) :=
  ⟨ps_try_many (tb := fun W => tRet (fun σ H Q => tMeth (He.ga X.K cl) n (spI X.K 1 g) [] (WE W σ) tp te σ H Q)) hS hF tk
    (fun W pn xe tk' _ => pss_one (ps_ret (pe_methEs (X := X.tr pn xe) (pl := pl) (hP pn xe).pe cc hm F hr hb (fun σ => passAt tk' σ) (hA pn xe E0).pa hst hpl ht))) hh.hds,
   simS_tryR (te := fun W σ H Q => tMeth (He.ga X.K cl) n (spI X.K 1 g) [] (WE W σ) tp te σ H Q) (fun W => SimE.es (t := fun E' => tMeth (He.ga X.K cl) n (spI X.K 1 g) [] E' tp te) fun E' => simE_meth (hP [] (fun _ _ => False)).sim (hA [] (fun _ _ => False) E').sim) hh.sim⟩
end
end Pf

/-! Pf53: a and b, a or b as values where a and b change things. -/
namespace Pf
open PySem L2
def av1 (z : Ez) (b : MrE) : Ez := match z with
  | .ok r Γ => (match tru r with
    | .ok true => b Γ
    | .ok false => .ok ⟨.own, .dat (.bool false)⟩ Γ
    | _ => .no)
  | z => z
def eAndVE (a b : MrE) : MrE := fun Γ => av1 (a Γ) b
def ov1 (z : Ez) (b : MrE) : Ez := match z with
  | .ok r Γ => (match tru r with
    | .ok true => .ok ⟨.own, .dat (.bool true)⟩ Γ
    | .ok false => b Γ
    | _ => .no)
  | z => z
def eOrVE (a b : MrE) : MrE := fun Γ => ov1 (a Γ) b
section
variable {K : PySem.W.Frag} {E : XK} {np : Nat} {B : Bs} {F H : Hp} {σ : L2.St} {Γ : Gm}
theorem slot_bool {v : V} {r : Rv} {fq : List Addr} {b : Bool} (h : SlotOk K B F H v r fq) (e : tru r = .ok b) : v = .bl b := by
  obtain ⟨fp', o⟩ := h.ow
  obtain ⟨fl, s⟩ := r
  cases o with
  | dat hd =>
    cases hd with
    | bl c =>
      cases e
      rfl
    | _ => cases e
  | node => cases e
theorem simE_andV {ta tb : TE} {ma mb : MrE} (ha : SimE K E np ta ma) (hb : SimE K E np tb mb) : SimE K E np (tAndV ta tb) (eAndVE ma mb) := by
  intro B F H σ Γ Q hp en p
  have p : PostE K B E σ Q (av1 (ma Γ) mb) := p
  refine ha.bind hp en (fun c Γ' q => by rw [q] at p; exact p) (fun q => by rw [q] at p; exact p) fun r Γ' v F' H' fq q er so => ?_
  rw [q] at p
  have p : PostE K B E σ Q (match tru r with | .ok true => mb Γ' | .ok false => .ok ⟨.own, .dat (.bool false)⟩ Γ' | _ => .no) := p
  cases q2 : tru r with
  | no =>
    rw [q2] at p
    exact p.elim
  | er c => exact absurd q2 tru_ner
  | ok b =>
    rw [q2] at p
    refine ⟨b, slot_bool so q2, ?_⟩
    cases b with
    | true =>
      rw [if_pos rfl]
      exact hb B F' H' σ Γ' Q hp er.s p
    | false =>
      rw [if_neg (by decide)]
      exact p _ F' H' [] (er.s.r (Step.refl er.s.st.fh) New.nil) ⟨Ow.dat (.bl false), List.nodup_nil, fun _ m => nomatch m⟩
theorem simE_orV {ta tb : TE} {ma mb : MrE} (ha : SimE K E np ta ma) (hb : SimE K E np tb mb) : SimE K E np (tOrV ta tb) (eOrVE ma mb) := by
  intro B F H σ Γ Q hp en p
  have p : PostE K B E σ Q (ov1 (ma Γ) mb) := p
  refine ha.bind hp en (fun c Γ' q => by rw [q] at p; exact p) (fun q => by rw [q] at p; exact p) fun r Γ' v F' H' fq q er so => ?_
  rw [q] at p
  have p : PostE K B E σ Q (match tru r with | .ok true => .ok ⟨.own, .dat (.bool true)⟩ Γ' | .ok false => mb Γ' | _ => .no) := p
  cases q2 : tru r with
  | no =>
    rw [q2] at p
    exact p.elim
  | er c => exact absurd q2 tru_ner
  | ok b =>
    rw [q2] at p
    refine ⟨b, slot_bool so q2, ?_⟩
    cases b with
    | false =>
      rw [if_neg (by decide)]
      exact hb B F' H' σ Γ' Q hp er.s p
    | true =>
      rw [if_pos rfl]
      exact p _ F' H' [] (er.s.r (Step.refl er.s.st.fh) New.nil) ⟨Ow.dat (.bl true), List.nodup_nil, fun _ m => nomatch m⟩
end
section
variable {X : Cx} {E : XK} {np : Nat} {a b : Expr} {rest : List Expr} {pos : Pos} {ma mb : MrE} {ta tb : TE}
theorem pxe_one {op : BoolOp} (ha : PxE X E np a ma ta) : PxE X E np (.BoolOp op [a] pos) ma ta := ⟨pe_one ha.pe, ha.sim⟩
theorem pxe_and (ha : PxE X E np a ma ta) (hb : PxE X E np (.BoolOp .And (b :: rest) pos) mb tb) : PxE X E np (.BoolOp .And (a :: b :: rest) pos) (eAndVE ma mb) (tAndV ta tb) := ⟨pe_and ha.pe hb.pe, simE_andV ha.sim hb.sim⟩
theorem pxe_or (ha : PxE X E np a ma ta) (hb : PxE X E np (.BoolOp .Or (b :: rest) pos) mb tb) : PxE X E np (.BoolOp .Or (a :: b :: rest) pos) (eOrVE ma mb) (tOrV ta tb) := ⟨pe_or ha.pe hb.pe, simE_orV ha.sim hb.sim⟩
end
section
variable {Γ : Gm} {me mb : MrE} {fl : Fl} {hs : List (List (Str × Bool) × MrS)} {c e : Str} {r : Rv} {tb : List (Str × Bool)} {m : MrS}
@[simp] theorem ev_andVE : eAndVE me mb Γ = av1 (me Γ) mb := rfl
@[simp] theorem ev_av1 {q : Bool} : av1 (.ok ⟨fl, .dat (.bool q)⟩ Γ) mb = if q = true then mb Γ else .ok ⟨.own, .dat (.bool false)⟩ Γ := by cases q <;> rfl
@[simp] theorem ev_av1e : av1 (.er e Γ) mb = .er e Γ := rfl
@[simp] theorem ev_orVE : eOrVE me mb Γ = ov1 (me Γ) mb := rfl
@[simp] theorem ev_ov1 {q : Bool} : ov1 (.ok ⟨fl, .dat (.bool q)⟩ Γ) mb = if q = true then .ok ⟨.own, .dat (.bool true)⟩ Γ else mb Γ := by cases q <;> rfl
@[simp] theorem ev_ov1e : ov1 (.er e Γ) mb = .er e Γ := rfl
@[simp] theorem ev_tryR : sTryR me hs Γ = tryR hs (me Γ) := rfl
@[simp] theorem ev_tryo : tryR hs (.ok r Γ) = .rt r Γ := rfl
@[simp] theorem ev_trye : tryR hs (.er c Γ) = hsel hs c Γ := rfl
theorem ev_hsel0 : hsel [] c Γ = .er c Γ := rfl
theorem ev_hsel : hsel ((tb, m) :: hs) c Γ = (match tb.lookup c with
    | some true => calmS m Γ
    | some false => hsel hs c Γ
    | none => .no) := rfl
theorem ev_calm : calmS m Γ = (match m Γ with
  | .er _ _ => .no
  | z => z) := rfl
end
end Pf

/-! Pf54: for row in rows: row.append(e), rows an own list of own lists that is forgotten behind. -/
namespace Pf
open PySem L2
def rowsOk (xs : List Sl) : Bool := xs.all fun x => match x with
  | .node .L ys => decide (ys.length < most)
  | _ => false
def spl1 (Γ : Gm) (i j : Nat) (o : Option (Option Rv)) (z : Rz Rv) : Oz := match o with
  | some (some ⟨.own, .node .L xs⟩) => if rowsOk xs = true ∧ j < Γ.length then (match z with
    | .ok ⟨.own, .dat _⟩ => .nx ((Γ.set i none).set j none)
    | _ => .no) else .no
  | _ => .no
def sSpl (i j : Nat) (m : Mr) : MrS := fun Γ => spl1 Γ i j (Γ[i]?) (m ((Γ.set i none).set j none))
section
variable {K : PySem.W.Frag} {B : Bs} {E : XK} {np : Nat} {F H F' H' : Hp} {σ : L2.St} {Γ : Gm} {R : List Addr}
theorem EnvR.step2 (t : Step F H F' H') (h : EnvR K B F H σ Γ R) : EnvR K B F' H' σ Γ R := by
  obtain ⟨f, a, b, c⟩ := h.ex
  exact ⟨h.st.step t, h.len, h.pin, f, fun i r e => let ⟨v, x, y⟩ := a i r e; ⟨v, x, y.step t⟩, b, c⟩
/-- a thing that no slot tells of is changed -/
theorem EnvR.upd2 {a : Addr} {o : HO} (h : EnvR K B F H σ Γ R) (ha : a ∈ R) (hF : F a = none) (hB : B.H a = none ∨ B.M a) : EnvR K B F (upd H a o) σ Γ R := by
  obtain ⟨f, h1, h2, h3⟩ := h.ex
  refine ⟨⟨h.st.ff, fun b u z => ?_, fun b u m z => ?_, h.st.nw, h.st.hS⟩, h.len, h.pin, f, fun i r e => ?_, h2, h3⟩
  · have nb : b ≠ a := fun w => by
      rw [w, hF] at z
      cases z
    rw [upd_ne nb]
    exact h.st.fh _ _ z
  · have nb : b ≠ a := fun w => by
      rw [w] at z m
      rcases hB with y | y
      · rw [y] at z
        cases z
      · exact m y
    rw [upd_ne nb]
    exact h.st.hh b u m z
  · obtain ⟨v, hv, so⟩ := h1 i r e
    refine ⟨v, hv, ?_⟩
    have naf : ∀ b ∈ f i, b ≠ a := fun b m w => h3 i r b e m (by rw [w]; exact ha)
    obtain ⟨fl, s⟩ := r
    cases fl with
    | own =>
      obtain ⟨ow, nd, ft⟩ := so
      exact ⟨ow_mono (Same.refl F) ow fun b m u z => by rw [upd_ne (naf b m)]; exact z, nd, ft⟩
    | par =>
      obtain ⟨e1, fp', ow, hs⟩ := so
      refine ⟨e1, fp', ow_mono (Same.refl F) ow fun b m u z => ?_, hs⟩
      have nb : b ≠ a := fun w => by
        obtain ⟨s1, s2⟩ := h.st.hS b (hs b m)
        rw [w] at s1 s2
        rcases hB with y | y
        · exact s1 y
        · exact s2 y
      rw [upd_ne nb]
      exact z
    | bor => exact so
theorem EnvR.put2 {j : Nat} {x : V} (h : EnvR K B F H σ Γ R) (hj : ∀ r, Γ[j]? ≠ some (some r)) (hp : B.pin.length ≤ j) : EnvR K B F H (σ.set j (some x)) Γ R := by
  obtain ⟨f, h1, h2, h3⟩ := h.ex
  refine ⟨h.st, by rw [List.length_set]; exact h.len, fun i v e => ?_, f, fun i r e => ?_, h2, h3⟩
  · have hi : i < B.pin.length := (List.getElem?_eq_some_iff.mp e).1
    rw [List.getElem?_set_ne (by omega)]
    exact h.pin i v e
  · have nij : j ≠ i := fun w => hj r (by rw [w]; exact e)
    obtain ⟨v, hv, so⟩ := h1 i r e
    exact ⟨v, by rw [List.getElem?_set_ne nij]; exact hv, so⟩
theorem rows_ow : ∀ {vs : List V} {xs : List Sl} {fp : List Addr}, OwAll K F H vs xs fp → rowsOk xs = true → fp.Nodup → ∃ bs : List Addr, vs = bs.map V.ref ∧ bs.Nodup ∧ ∀ b ∈ bs, b ∈ fp ∧ ∃ ws, H b = some (.lst ws) ∧ ws.length < most
  | _, _, _, .nil, _, _ => ⟨[], rfl, List.nodup_nil, fun _ m => nomatch m⟩
  | _, _, _, .cons (s := s) (fp := f1) (fps := f2) h t, ok, nd => by
    unfold rowsOk at ok
    rw [List.all_cons, Bool.and_eq_true] at ok
    obtain ⟨n1, n2, n3⟩ := List.nodup_append.mp nd
    obtain ⟨bs, e, nb, hb⟩ := rows_ow t ok.2 n2
    cases h with
    | dat _ => cases ok.1
    | node ha sh tt =>
      rename_i a k o vs' xs' fp'
      cases k with
      | L =>
        have sh' : o = HO.lst vs' := sh
        subst sh'
        have hl : xs'.length < most := of_decide_eq_true ok.1
        refine ⟨a :: bs, by rw [e]; rfl, List.nodup_cons.mpr ⟨fun m => ?_, nb⟩, fun b m => ?_⟩
        · exact n3 a List.mem_cons_self a (hb a m).1 rfl
        · rcases List.mem_cons.mp m with rfl | m
          · exact ⟨List.mem_append_left _ List.mem_cons_self, _, ha, by rw [owAll_len tt]; exact hl⟩
          · exact ⟨List.mem_append_right _ (hb b m).1, (hb b m).2⟩
      | _ => cases ok.1
theorem simS_spl {i j : Nat} {te : TE} {me : Mr} (hj : np ≤ j) (h : Sim K E te me) : SimS K E np (tFor (iList K (tVar i)) (gName j) (tDrop (tBM K "list" rAppend (tVar j) (tCons te tNil)))) (sSpl i j me) := by
  intro B F H σ Γ D hp en p
  have p0 : PostS K B E D (spl1 Γ i j (Γ[i]?) (me ((Γ.set i none).set j none))) := p
  obtain ⟨Γ0, eΓ⟩ : ∃ Γ0, Γ0 = (Γ.set i none).set j none := ⟨_, rfl⟩
  rw [← eΓ] at p0
  cases hs : Γ[i]? with
  | none =>
    rw [hs] at p0
    exact p0.elim
  | some o =>
    rw [hs] at p0
    cases o with
    | none => exact p0.elim
    | some r =>
      obtain ⟨fl, s⟩ := r
      cases fl with
      | par => exact p0.elim
      | bor => exact p0.elim
      | own =>
        cases s with
        | dat d => exact p0.elim
        | node k xs =>
          cases k with
          | L =>
            have p1 : PostS K B E D (if rowsOk xs = true ∧ j < Γ.length then (match me Γ0 with | .ok ⟨.own, .dat _⟩ => .nx ((Γ.set i none).set j none) | _ => .no) else .no) := p0
            by_cases hro' : rowsOk xs = true ∧ j < Γ.length
            · rw [if_pos hro'] at p1
              obtain ⟨hro, hjl⟩ := hro'
              cases hm : me Γ0 with
              | no =>
                rw [hm] at p1
                exact p1.elim
              | er c =>
                rw [hm] at p1
                exact p1.elim
              | ok r =>
                rw [hm] at p1
                obtain ⟨fl, s⟩ := r
                cases fl with
                | par => exact p1.elim
                | bor => exact p1.elim
                | own =>
                  cases s with
                  | node => exact p1.elim
                  | dat d =>
                    have p2 : ∀ F H σ, EnvS K B F H σ Γ0 → D.nx σ H := by
                      rw [eΓ]
                      exact p1
                    -- the slot's own thing
                    obtain ⟨f, h1, h2⟩ := en.ex
                    obtain ⟨v, hv, so⟩ := h1 i _ hs
                    obtain ⟨ow, nd, ft⟩ := so
                    have ow : Ow K F H v (.node .L xs) (f i) := ow
                    obtain ⟨g, hg⟩ : ∃ g, g = f i := ⟨_, rfl⟩
                    rw [← hg] at ow nd ft
                    cases ow with
                    | node ha sh t =>
                      rename_i a o vs fp
                      have sh' : o = HO.lst vs := sh
                      subst sh'
                      obtain ⟨na, nf⟩ := List.nodup_cons.mp nd
                      obtain ⟨bs, ebs, nbs, hbs⟩ := rows_ow t hro nf
                      have back : ∀ (q : Nat) (r : Rv), Γ0[q]? = some (some r) → q ≠ i ∧ q ≠ j ∧ Γ[q]? = some (some r) := by
                        intro q r e
                        rw [eΓ, List.getElem?_set] at e
                        by_cases c1 : j = q
                        · rw [if_pos c1] at e
                          split at e <;> cases e
                        · rw [if_neg c1, List.getElem?_set] at e
                          by_cases c2 : i = q
                          · rw [if_pos c2] at e
                            split at e <;> cases e
                          · rw [if_neg c2] at e
                            exact ⟨fun z => c2 z.symm, fun z => c1 z.symm, e⟩
                      have hj0 : ∀ r, Γ0[j]? ≠ some (some r) := fun r e => (back j r e).2.1 rfl
                      have hp' : B.pin.length ≤ j := Nat.le_trans hp hj
                      have e0 : EnvR K B F H σ Γ0 (a :: fp) := ⟨en.st, by rw [eΓ, List.length_set, List.length_set]; exact en.len, en.pin, f, fun q r e => h1 q r (back q r e).2.2, fun q q' r r' b hne e1 e2 => h2 q q' r r' b hne (back q r e1).2.2 (back q' r' e2).2.2, fun q r b e m mr => by
                        have bk := back q r e
                        exact h2 q i r _ b bk.1 bk.2.2 hs m (by rw [← hg]; exact mr)⟩
                      refine ⟨_, hv, a, rfl, ⟨vs, SqL.of ha⟩, ?_⟩
                      refine ⟨fun k m σ' H' => m = bs.length - k ∧ k ≤ bs.length ∧ H' a = some (.lst vs) ∧ (∃ F', EnvR K B F' H' σ' Γ0 (a :: fp) ∧ ∀ b ∈ a :: fp, F' b = none ∧ H' b ≠ none) ∧ ∀ q b, k ≤ q → bs[q]? = some b → ∃ ws, H' b = some (.lst ws) ∧ ws.length < most, ⟨bs.length, by simp, Nat.zero_le _, ha, ⟨F, e0, fun b m => ⟨(ft b m).1, ow_dom (Ow.node ha rfl t : Ow K F H (.ref a) (.node .L xs) (a :: fp)) b m⟩⟩, fun q b _ e => (hbs b (List.mem_of_getElem? e)).2⟩, ?_⟩
                      rintro k m σ' H' ⟨rfl, hk, hA, ⟨F', eR, nF⟩, rest⟩
                      have lvs : vs.length = bs.length := by rw [ebs, List.length_map]
                      by_cases hlt : k < bs.length
                      · obtain ⟨b, hb⟩ : ∃ b, bs[k]? = some b := ⟨bs[k], List.getElem?_eq_getElem hlt⟩
                        have hvk : vs[k]? = some (.ref b) := by rw [ebs, List.getElem?_map, hb]; rfl
                        refine .inr ⟨⟨vs, .ref b, SqL.of hA, hvk⟩, _, fun _ _ z => z, ?_⟩
                        rintro x H2 ⟨e2, yx⟩
                        subst e2
                        have ex : x = .ref b := by
                          have := yx vs (SqL.of hA)
                          rw [hvk] at this
                          exact (Option.some.inj this).symm
                        subst ex
                        have eR2 := eR.put2 (x := V.ref b) hj0 hp'
                        obtain ⟨ws, hw, lw⟩ := rest k b (Nat.le_refl _) hb
                        have hjσ : j < σ'.length := by
                          rw [eR.len, eΓ, List.length_set, List.length_set]
                          exact hjl
                        refine ⟨.ref b, by rw [List.getElem?_set_self hjσ], Or.inl ⟨rfl, _, SqL.of hw⟩, ?_⟩
                        refine h (Sst B) F' H2 _ Γ0 _ eR2.s.st.fh eR2.s.e ?_
                        rw [hm]
                        intro v F3 H3 fq st ro nw
                        have mb := hbs b (List.mem_of_getElem? hb)
                        have nab : a ≠ b := fun z => na (by rw [z]; exact mb.1)
                        have n3 : ∀ c ∈ a :: fp, F3 c = none ∧ H3 c ≠ none := fun c mc => ⟨st.nw c (nF c mc).2 (nF c mc).1, same_ne st.hh (nF c mc).2⟩
                        refine ⟨b, ws, v, rfl, rfl, st.hh _ _ hw, Nat.lt_of_lt_of_le lw (most_ok (Nat.le_refl _)), _, by omega, rfl, hlt, ?_, ⟨F3, (eR2.step2 st).upd2 (List.mem_cons_of_mem _ mb.1) (n3 b (List.mem_cons_of_mem _ mb.1)).1 (ft b (List.mem_cons_of_mem _ mb.1)).2, fun c mc => ⟨(n3 c mc).1, ?_⟩⟩, fun q c hq hc => ?_⟩
                        · rw [upd_ne nab]
                          exact st.hh _ _ hA
                        · by_cases hcb : c = b
                          · rw [hcb, upd_same]
                            exact fun z => by cases z
                          · rw [upd_ne hcb]
                            exact (n3 c mc).2
                        · have ncb : c ≠ b := fun z => by
                            rw [z] at hc
                            have h1 := List.getElem?_eq_some_iff.mp hc
                            have h2 := List.getElem?_eq_some_iff.mp hb
                            obtain ⟨l1, e1⟩ := h1
                            obtain ⟨l2, e2⟩ := h2
                            have := (List.getElem_inj (h₀ := l1) (h₁ := l2) nbs).mp (e1.trans e2.symm)
                            omega
                          obtain ⟨ws', hw', lw'⟩ := rest q c (by omega) hc
                          exact ⟨ws', by rw [upd_ne ncb]; exact st.hh _ _ hw', lw'⟩
                      · have ek : k = bs.length := by omega
                        subst ek
                        exact .inl ⟨⟨vs, SqL.of hA, by omega⟩, p2 F' H' σ' eR.s⟩
            · rw [if_neg hro'] at p1
              exact p1.elim
          | _ => exact p0.elim
end
section
variable {X : Cx} {E : XK} {np : Nat} {e : Expr} {me : Mr} {te : TE} {pos pos' pos1 pos2 pos3 apos cpos : Pos} {x y : Str}
theorem pxs_spl {i j : Nat} (hp : PassesOwn (model X.prog X.w) X.A X.env X.xe) (hc : X.calm = true) (hNd : X.N.Nodup) (hN : X.N[i]? = some x) (hv : Vis X.env.scope x) (hj : X.N[j]? = some y) (hl : Loc X.env.scope y) (hvy : Vis X.env.scope y) (he : Px X E e me te) (hnp : np ≤ j := by decide)
    (hf : X.fn y = true ∨ X.env.scope.names.lookup y = some .local := by first | exact .inl rfl | exact .inr rfl | assumption)
    (hs0 : ∀ z, foldedSetIterable (.Name x pos1) X.env z = pure z := by intro _; rfl)
    (hline : (apos.endLine == cpos.line) = true := by rfl) (hs : starEach [e] X.env = (false, eval e X.env) :: starEach [] X.env := by rfl)
    (hfew : ((backTo cpos (starEach [e] X.env)).all (fun x => !x.1) && (backToKw cpos (keywordEach [] X.env)).all (fun x => x.1.isSome)
      && decide ([e].length + ([] : List Keyword).length + (if ([] : List Keyword).isEmpty then 0 else 1) < 30)) = true := by rfl)
    (hsw : swapsWith (.Call (.Attribute (.Name y pos') "append" apos) [e] [] cpos) none pos.line X.env = pure false := by rfl)
    (hbase : attributeBase (.Name y pos') "append" X.env (eval (.Name y pos') X.env) = eval (.Name y pos') X.env := by rfl) (hd : (x == ("__debug__" : Str)) = false := by decide) (hcd : (x == ("__classdict__" : Str)) = false := by decide) (hd' : (y == ("__debug__" : Str)) = false := by decide) (hcd' : (y == ("__classdict__" : Str)) = false := by decide) :
    PxS X E np (.For (.Name y pos2) (.Name x pos1) [.Expr (.Call (.Attribute (.Name y pos') "append" apos) [e] [] cpos) pos] [] pos3) (sSpl i j me) (tFor (iList X.K (tVar i)) (gName j) (tDrop (tBM X.K "list" rAppend (tVar j) (tCons te tNil)))) :=
  ⟨ps_for hp hc (pi_list (pe_var hN hv hd hcd)) (pg_name hNd hj hl hf) (pss_one (ps_expr (pe_bm PySem.F.plainAttrs_list PySem.F.slot_list_append PySem.F.type_list_append mt_append (pe_var hj hvy hd' hcd') (pa_cons he.pe pa_nil hs) hbase hfew hline hs) hsw)) hs0, simS_spl hnp he.sim⟩
end
/-! ### an item of a list of one's own things -/
def eIxN (k : Nat) (a : Mr) : Mr := fun Γ => (a Γ).bind fun r => match r.s with
  | .node .L xs => (match xs[k]? with
    | some s => .ok (child r.fl s)
    | none => .no)
  | _ => .no
section
variable {K : PySem.W.Frag} {S : Addr → Prop} {E : XK} {F H : Hp}
theorem get_ow {s : Sl} : ∀ {k : Nat} {vs : List V} {xs : List Sl} {fp : List Addr}, OwAll K F H vs xs fp → xs[k]? = some s → ∃ v fq, vs[k]? = some v ∧ Ow K F H v s fq ∧ fq.Sublist fp
  | 0, _, _, _, .cons h t, e => by
    cases e
    exact ⟨_, _, rfl, h, List.sublist_append_left _ _⟩
  | k + 1, _, _, _, .cons h t, e => by
    obtain ⟨v, fq, h1, h2, h3⟩ := get_ow (k := k) t e
    exact ⟨v, fq, h1, h2, h3.trans (List.sublist_append_right _ _)⟩
  | _, _, _, _, .nil, e => by cases e
theorem sim_ixN {k : Nat} {t : TE} {m : Mr} (h : Sim K E t m) : Sim K E (tOp (rIxL K) t (tC (.int k))) (eIxN k m) := by
  intro S F H σ Γ Q e en p
  refine h.bind e en p fun r v F1 H1 fp q st ro nw => ?_
  have p := (show Post K S E Q F H ((m Γ).bind _) from p)
  rw [q] at p
  obtain ⟨fl, s⟩ := r
  cases s with
  | dat d => exact p.elim
  | node kk xs =>
    cases kk with
    | L =>
      have p2 : Post K S E Q F H (match xs[k]? with | some s => .ok (child fl s) | none => .no) := p
      cases q2 : xs[k]? with
      | none =>
        rw [q2] at p2
        exact p2.elim
      | some s =>
        rw [q2] at p2
        obtain ⟨fq, o⟩ := ro.ow
        have o' : Ow K F1 H1 v (.node .L xs) fq := o
        cases o' with
        | node ha sh t =>
          have sh' : _ = HO.lst _ := sh
          subst sh'
          obtain ⟨w, fr, l1, l2, l3⟩ := get_ow t q2
          refine ⟨_, _, (k : Int), w, rfl, rfl, SqL.of ha, atI_nat l1, ?_⟩
          obtain ⟨fz, z1, z2⟩ := rok_child (v := w) (s := s) (fp' := fp) ro nw (fun fq o => by
            cases o with
            | node ha' sh' t' =>
              rw [ha] at ha'
              cases ha'
              have sh2 : HO.lst _ = HO.lst _ := sh'
              cases sh2
              obtain ⟨w', fr', l1', l2', l3'⟩ := get_ow t' q2
              rw [l1] at l1'
              cases l1'
              exact ⟨fr', l2', l3'.trans (List.sublist_cons_self _ _)⟩)
          exact p2 w F1 H1 fz st z1 z2
    | _ => exact p.elim
end
theorem px_ixN {X : Cx} {E : XK} {a : Expr} {ma : Mr} {ta : TE} {pos p1 : Pos} {k : Nat} {kk : Nat} (ha : Px X E a ma ta) : Px X E (.Subscript a (.Constant (.int (k : Int)) kk p1) pos) (eIxN k ma) (tOp (rIxL X.K) ta (tC (.int (k : Int)))) :=
  ⟨pe_ix ix_list ha.pe pe_int (fun _ _ => rfl), sim_ixN ha.sim⟩
/-! ### a new thing's lists frozen -/
mutual
/-- no list that is not data -/
def noL : Sl → Bool
  | .dat _ => true
  | .node .L _ => false
  | .node _ xs => noLs xs
def noLs : List Sl → Bool
  | [] => true
  | x :: xs => noL x && noLs xs
end
def frzO (r : Rv) : Rz Rv := match r with
  | ⟨.own, s⟩ => if noL (zl s) = true then .ok ⟨.own, zl s⟩ else .no
  | _ => .no
def eFrzO (a : Mr) : Mr := fun Γ => (a Γ).bind frzO
/-- the lists among fp frozen -/
def lzf (F H : Hp) (fp : List Addr) : Hp := fun a => if a ∈ fp then (match H a with
  | some (.lst xs) => some (.lst xs)
  | _ => F a) else F a
section
variable {K : PySem.W.Frag} {S : Addr → Prop} {E : XK} {F H F1 H1 : Hp} {fp : List Addr}
theorem lzf_in {a : Addr} {xs : List V} (m : a ∈ fp) (h : H a = some (.lst xs)) : lzf F H fp a = some (.lst xs) := by
  unfold lzf
  rw [if_pos m, h]
theorem lzf_ff (n : ∀ a ∈ fp, F a = none) : Same F (lzf F H fp) := fun a o q => by
  unfold lzf
  by_cases m : a ∈ fp
  · rw [n a m] at q
    cases q
  · rw [if_neg m]
    exact q
theorem lzf_fh (e : Same F H) : Same (lzf F H fp) H := fun a o q => by
  unfold lzf at q
  by_cases m : a ∈ fp
  · rw [if_pos m] at q
    cases h : H a with
    | none =>
      rw [h] at q
      have := e a o q
      rw [h] at this
      exact this
    | some u =>
      rw [h] at q
      cases u with
      | lst xs => exact q
      | _ =>
        have := e a o q
        rw [h] at this
        exact this
  · rw [if_neg m] at q
    exact e a o q
theorem lzf_not {a : Addr} (hF : F a = none) (hL : ∀ xs, H a ≠ some (.lst xs)) : lzf F H fp a = none := by
  unfold lzf
  by_cases m : a ∈ fp
  · rw [if_pos m]
    split
    · rename_i xs h
      exact absurd h (hL xs)
    · exact hF
  · rw [if_neg m]
    exact hF
theorem noLs_dat : ∀ {xs : List Sl} {ds : List PyData}, datAll xs = some ds → noLs xs = true
  | [], _, _ => by rw [noLs]
  | .dat d :: r, _, q => by
    rw [datAll] at q
    cases q2 : datAll r with
    | none =>
      rw [q2] at q
      cases q
    | some ds' =>
      rw [noLs, noL, noLs_dat q2]
      rfl
  | .node _ _ :: r, _, q => by
    rw [datAll] at q
    · cases q
    · intro d z
      cases z
mutual
theorem zlf_ow (ff : Same F (lzf F H fp)) : ∀ {v : V} {s : Sl} {fq : List Addr}, Ow K F H v s fq → (∀ a ∈ fq, a ∈ fp) → noL (zl s) = true → ∃ fr, Ow K (lzf F H fp) H v (zl s) fr ∧ fr.Sublist fq ∧ ∀ a ∈ fr, ∀ xs, H a ≠ some (.lst xs)
  | _, _, _, .dat h, _, _ => ⟨[], by rw [zl]; exact .dat (dp_mono ff h), List.Sublist.refl _, fun _ m => nomatch m⟩
  | _, _, _, .node (k := .L) (xs := xs) ha sh t, hm, ok => by
    have sh' : _ = HO.lst _ := sh
    subst sh'
    rw [zl] at ok ⊢
    cases q : datAll (zls xs) with
    | some ds =>
      rw [q] at ok
      have okx : noLs (zls xs) = true := noLs_dat q
      obtain ⟨fr, t', sl, _⟩ := zlf_owAll ff t (fun a m => hm a (List.mem_cons_of_mem _ m)) okx
      exact ⟨[], .dat (.lst (lzf_in (hm _ List.mem_cons_self) ha) (datAll_dp t' q)), List.nil_sublist _, fun _ m => nomatch m⟩
    | none =>
      rw [q] at ok
      cases ok
  | _, _, _, .node (k := .T) ha sh t, hm, ok => by
    rw [zl] at ok ⊢
    obtain ⟨fr, t', sl, nl⟩ := zlf_owAll ff t (fun a m => hm a (List.mem_cons_of_mem _ m)) ok
    refine ⟨_ :: fr, .node ha sh t', sl.cons_cons _, fun a m xs z => ?_⟩
    · rcases List.mem_cons.mp m with rfl | m
      · rw [ha] at z
        cases z
        have sh' : HO.lst xs = HO.tup _ := sh
        cases sh'
      · exact nl a m xs z
    all_goals (intro z; cases z)
  | _, _, _, .node (k := .S) ha sh t, hm, ok => by
    rw [zl] at ok ⊢
    obtain ⟨fr, t', sl, nl⟩ := zlf_owAll ff t (fun a m => hm a (List.mem_cons_of_mem _ m)) ok
    refine ⟨_ :: fr, .node ha sh t', sl.cons_cons _, fun a m xs z => ?_⟩
    · rcases List.mem_cons.mp m with rfl | m
      · rw [ha] at z
        cases z
        obtain ⟨ob, e⟩ := sh
        cases e
      · exact nl a m xs z
    all_goals (intro z; cases z)
  | _, _, _, .node (k := .D ks) ha sh t, hm, ok => by
    rw [zl] at ok ⊢
    obtain ⟨fr, t', sl, nl⟩ := zlf_owAll ff t (fun a m => hm a (List.mem_cons_of_mem _ m)) ok
    refine ⟨_ :: fr, .node ha sh t', sl.cons_cons _, fun a m xs z => ?_⟩
    · rcases List.mem_cons.mp m with rfl | m
      · rw [ha] at z
        cases z
        cases sh.2
      · exact nl a m xs z
    all_goals (intro z; cases z)
  | _, _, _, .node (k := .O c fs) ha sh t, hm, ok => by
    rw [zl] at ok ⊢
    obtain ⟨fr, t', sl, nl⟩ := zlf_owAll ff t (fun a m => hm a (List.mem_cons_of_mem _ m)) ok
    refine ⟨_ :: fr, .node ha sh t', sl.cons_cons _, fun a m xs z => ?_⟩
    · rcases List.mem_cons.mp m with rfl | m
      · rw [ha] at z
        cases z
        obtain ⟨_, dx, e⟩ := sh
        cases e
      · exact nl a m xs z
    all_goals (intro z; cases z)
  | _, _, _, .node (k := .Z ks) ha sh t, hm, ok => by
    rw [zl] at ok ⊢
    obtain ⟨fr, t', sl, nl⟩ := zlf_owAll ff t (fun a m => hm a (List.mem_cons_of_mem _ m)) ok
    refine ⟨_ :: fr, .node ha sh t', sl.cons_cons _, fun a m xs z => ?_⟩
    · rcases List.mem_cons.mp m with rfl | m
      · rw [ha] at z
        cases z
        obtain ⟨_, ob, e⟩ := sh
        cases e
      · exact nl a m xs z
    all_goals (intro z; cases z)
theorem zlf_owAll (ff : Same F (lzf F H fp)) : ∀ {vs : List V} {ss : List Sl} {fq : List Addr}, OwAll K F H vs ss fq → (∀ a ∈ fq, a ∈ fp) → noLs (zls ss) = true → ∃ fr, OwAll K (lzf F H fp) H vs (zls ss) fr ∧ fr.Sublist fq ∧ ∀ a ∈ fr, ∀ xs, H a ≠ some (.lst xs)
  | _, _, _, .nil, _, _ => ⟨[], by rw [zls]; exact .nil, List.Sublist.refl _, fun _ m => nomatch m⟩
  | _, _, _, .cons h t, hm, ok => by
    rw [zls] at ok ⊢
    rw [noLs, Bool.and_eq_true] at ok
    obtain ⟨f1, o1, s1, n1⟩ := zlf_ow ff h (fun a m => hm a (List.mem_append_left _ m)) ok.1
    obtain ⟨f2, o2, s2, n2⟩ := zlf_owAll ff t (fun a m => hm a (List.mem_append_right _ m)) ok.2
    exact ⟨f1 ++ f2, .cons o1 o2, s1.append s2, fun a m => (List.mem_append.mp m).elim (n1 a) (n2 a)⟩
end
theorem sim_frzO {t : TE} {m : Mr} (h : Sim K E t m) : Sim K E t (eFrzO m) := by
  intro S F H σ Γ Q e en p
  refine h.bind e en p fun r v F1 H1 fp q st ro nw => ?_
  have p1 : Post K S E Q F H (frzO r) := by
    have p2 : Post K S E Q F H ((m Γ).bind frzO) := p
    rw [q] at p2
    exact p2
  obtain ⟨fl, s⟩ := r
  cases fl with
  | own =>
    have p3 : Post K S E Q F H (if noL (zl s) = true then .ok ⟨.own, zl s⟩ else .no) := p1
    by_cases ok : noL (zl s) = true
    · rw [if_pos ok] at p3
      have ro' : Ow K F1 H1 v s fp := ro
      obtain ⟨fr, o, sl, nl⟩ := zlf_ow (fp := fp) (lzf_ff nw.nf) ro' (fun a m => m) ok
      refine p3 v (lzf F1 H1 fp) H1 fr ⟨st.ff.trans (lzf_ff nw.nf), lzf_fh st.fh, st.hh, fun a ha hf => ?_⟩ o ⟨nw.nd.sublist sl, fun a m => lzf_not (nw.nf a (sl.subset m)) (nl a m), fun a m => nw.nh a (sl.subset m)⟩
      have nm : a ∉ fp := fun m => ha (nw.nh a m)
      unfold lzf
      rw [if_neg nm]
      exact st.nw a ha hf
    · rw [if_neg ok] at p3
      exact p3.elim
  | par => exact p1.elim
  | bor => exact p1.elim
end
theorem px_frzO {X : Cx} {E : XK} {a : Expr} {ma : Mr} {ta : TE} (h : Px X E a ma ta) : Px X E a (eFrzO ma) ta := ⟨h.pe, sim_frzO h.sim⟩
end Pf

/-! Pf55: comprehensions over typed lists; the rest of Pf54 by simp. -/
namespace Pf
open PySem L2
theorem coll_ofP {α : Type} {f : α → Rz (Option Sl)} {g : α → Sl} {xs : List α} (h : ∀ x ∈ xs, f x = .ok (some (g x))) : coll (xs.map f) = .ok (xs.map g) := by
  rw [List.map_congr_left h, ev_coll]
theorem comp_ofP {α : Type} {mi : MrI} {un : PyData → Option (List PyData)} {is vs : List Nat} {mt : MrT} {me : Mr} {Γ : Gm} {xs : List α} {enc : α → PyData} {b : Bool} {g : α → Sl} (hi : mi Γ = .ok (b, xs.map enc)) (hs : ∀ x ∈ xs, cstep un is mt me (wipeG Γ vs) (enc x) = .ok (some (g x))) (hl : xs.length ≤ 1000000) : eComp mi un is mt me vs Γ = .ok ⟨.own, .node .L (xs.map g)⟩ := by
  rw [ev_comp, hi, ev_bok]
  dsimp only
  rw [ev_collm, coll_ofP hs, ev_cfin hl]
theorem comp_ifP {α : Type} {mi : MrI} {un : PyData → Option (List PyData)} {is vs : List Nat} {mt : MrT} {me : Mr} {Γ : Gm} {xs : List α} {enc : α → PyData} {b : Bool} {q : α → Bool} {g : α → Sl} (hi : mi Γ = .ok (b, xs.map enc)) (hs : ∀ x ∈ xs, cstep un is mt me (wipeG Γ vs) (enc x) = .ok (if q x = true then some (g x) else none)) (hl : xs.length ≤ 1000000) : eComp mi un is mt me vs Γ = .ok ⟨.own, .node .L ((xs.filter q).map g)⟩ := by
  rw [ev_comp, hi, ev_bok]
  dsimp only
  rw [ev_collm, List.map_congr_left hs, ev_collF, ev_cfinF hl]
section
variable {Γ : Gm} {m : Mr} {fl : Fl} {xs : List Sl} {r : Rv} {s : Sl} {d : PyData} {k i j : Nat}
@[simp] theorem ev_ixN : eIxN k m Γ = (m Γ).bind fun r => match r.s with
  | .node .L xs => (match xs[k]? with
    | some s => .ok (child r.fl s)
    | none => .no)
  | _ => .no := rfl
@[simp] theorem ev_frzO : eFrzO m Γ = (m Γ).bind frzO := rfl
theorem ev_frzO1 (h : noL (zl s) = true) : frzO ⟨.own, s⟩ = .ok ⟨.own, zl s⟩ := by
  show (if noL (zl s) = true then _ else _) = _
  rw [if_pos h]
@[simp] theorem ev_spl : sSpl i j m Γ = spl1 Γ i j (gt Γ i) (m ((Γ.set i none).set j none)) := by
  rw [← gt_eq]
  rfl
@[simp] theorem ev_spl1 : spl1 Γ i j (some (some ⟨.own, .node .L xs⟩)) (.ok ⟨.own, .dat d⟩) = if rowsOk xs = true ∧ j < Γ.length then .nx ((Γ.set i none).set j none) else .no := rfl
end
end Pf

/-! Pf56: str of lists; defs that rest on there being no repr under way. -/
namespace Pf
open PySem PySem.Spec L2 PyProof.Rows
def shw (d : PyData) : Bool := d.layable0 && d.intsShort 13 && d.showable
def pStr : List Sl → Option Sl := fun ss => match ss with
  | [a] => (match toW a with
    | some (.list ds) => if shw (.list ds) = true then some (.dat (.str (PyData.shown (.list ds)))) else none
    | _ => none)
  | _ => none
section
variable {X : Cx}
theorem dp_ref {K : PySem.W.Frag} {H : Hp} {v : V} {ds : List PyData} (h : Dp K H v (.list ds)) : ∃ a, v = .ref a := by
  cases h
  all_goals exact ⟨_, rfl⟩
theorem cd_str (hg : X.A.guards = some []) (hu : X.A.units + 70 < cLine) : CallD X (.type "str") pStr := by
  intro pins s σ H xs us Q I rx q
  obtain ⟨F, ss, t, e, ol, fs, k⟩ := q
  unfold pStr at fs
  split at fs
  · rename_i a
    cases ol with
    | cons fa oa tl =>
      cases tl
      cases hw : toW a with
      | none =>
        rw [hw] at fs
        cases fs
      | some d =>
        rw [hw] at fs
        cases d with
        | list ds =>
          have fs : (if shw (.list ds) = true then some (Sl.dat (.str (PyData.shown (.list ds)))) else none) = some t := fs
          by_cases c : shw (.list ds) = true
          · rw [if_pos c] at fs
            cases fs
            have hd := ow_dp e oa hw
            obtain ⟨p, rfl⟩ := dp_ref hd
            cases rx with
            | cons r1 r2 =>
              cases r2
              obtain ⟨as, rd⟩ := Dp.reads I _ _ _ hd r1
              obtain rfl : _ = Value.ref p := r1
              unfold shw at c
              obtain ⟨c1, c3⟩ := Bool.and_eq_true_iff.mp c
              obtain ⟨c1, c2⟩ := Bool.and_eq_true_iff.mp c1
              have hl := shown_le13 c1 c2
              have hdp : (PyData.list ds).depth ≤ 64 := of_decide_eq_true (Bool.and_eq_true_iff.mp (Bool.and_eq_true_iff.mp c1).1).2
              refine str_of_reads rd c3 (PyData.noDict_hsm (PyData.hasDict_of_layable c1)) hg (by omega) (fun _ _ z => z) (fun h' u tk hk => ?_) (by unfold sizeLine; omega)
              exact ⟨.str _, H, I.turnedL (ch := []) (fun b o _ z => hk b o z) (fun _ m => nomatch m), ⟨_, rfl⟩, k _ F H [] (Step.refl e) (.dat (.str _)) New.nil⟩
          · rw [if_neg c] at fs
            cases fs
        | _ => cases fs
  · cases fs
end
end Pf

/-! Pf57: the promise of a def, where no repr is under way; the law by it. -/
namespace Pf
open PySem PySem.Spec L2 PyProof.Rows
/-- the run of a def, at one place -/
def RunAt (P : Program) (w : World) (K : PySem.W.Frag) (mg : Str → Option Value) (base : Heap) (CX : CXT) (k : Nat) (f : Addr) (fd : FuncData) (ps : List Str) (sp : Sp) (A : Around) : Prop :=
  ∀ (outer : List PySem.Env) (s : Shared) (H : Hp) (args : Args) (us : List Value) (vs : List V) (Q : VK) (E : XK), Room k A → Env0 P w K mg base A outer s H → BindsTo s fd args (ps.zip us) → Vals vs us → sp vs H Q E → codeAny (model P w) A (.call (.ref f) args) (CR CX outer P w H s Q E) s
structure FnOkG (P : Program) (w : World) (K : PySem.W.Frag) (mg : Str → Option Value) (base : Heap) (CX : CXT) (k : Nat) (f : Addr) (fd : FuncData) (ps : List Str) (sp : Sp) : Prop where
  len : ∀ vs H Q E, sp vs H Q E → vs.length = ps.length
  run : ∀ A : Around, A.guards = some [] → RunAt P w K mg base CX k f fd ps sp A
section
variable {P : Program} {w : World} {K : PySem.W.Frag} {mg : Str → Option Value} {base : Heap}
theorem FnOkG.of {CX : CXT} {k : Nat} {f : Addr} {fd : FuncData} {ps : List Str} {sp : Sp} (F : FnOk P w K mg base CX k f fd ps sp) : FnOkG P w K mg base CX k f fd ps sp := ⟨F.len, fun A _ => F.run A⟩
theorem FnOkG.mono {CX : CXT} {j k : Nat} {f : Addr} {fd : FuncData} {ps : List Str} {sp : Sp} (F : FnOkG P w K mg base CX j f fd ps sp) (h : j ≤ k) : FnOkG P w K mg base CX k f fd ps sp :=
  ⟨F.len, fun A g outer s H args us vs Q E hr => F.run A g outer s H args us vs Q E (hr.mono h)⟩
theorem sc_kinds {N ps : List Str} {scope : Scope} (S : FnScope N ps scope) (n : Nat) (us : List Value) : ∀ y ∈ ps.zip us, scope.names.lookup y.1 = some .local ∨ (scope.names.lookup y.1 = some .cell ∧ ((cellsFrom (n + 1) scope.names []).lookup y.1).isSome = true) := by
  rintro ⟨x, v⟩ hy
  refine (S.par x (List.of_mem_zip hy).1).imp id fun z => ⟨z, ?_⟩
  exact PySem.W.cellsFrom_some _ _ _ (.inl z)
/-- what is behind a body, told to the caller -/
theorem end_of {X : Cx} {CX : CXT} {outer : List PySem.Env} {s s' : Shared} {H : Hp} {Q : VK} {E : XK} (hX : ∀ {σ' : L2.St} {H' : Hp} {v : V} {u : Value}, Inv X [] σ' H' s' → RelV v u → Q v H' → CE outer P w H s Q u s') {fl : Flow}
    (hs : SP X [] { nx := fun _ H' => Q .non H', rt := Q } fl s') : CR CX outer P w H s Q E (.ok (.ret (match (generalizing := false) fl with | .ret v => v | _ => .none))) s' := by
  cases fl with
  | ret u => exact let ⟨v, σ', H', J, rv, q⟩ := hs; hX J rv q
  | next => exact let ⟨σ', H', J, q⟩ := hs; hX (v := V.non) (u := Value.none) J rfl q
  | brk => exact let ⟨_, _, _, q⟩ := hs; q.elim
  | cont => exact let ⟨_, _, _, q⟩ := hs; q.elim
/-- a def by its body, where no repr is under way -/
theorem fnG_of {x qual : Str} {st : Stmt} {f : Addr} {fd : FuncData} {N ps : List Str} {k : Nat} {sp : Sp} (Fu : Fun K x qual st f fd) (S : FnScope N ps (defScope st)) (len : ∀ vs H Q E, sp vs H Q E → vs.length = ps.length)
    (hbody : ∀ (cdv : Value) (A : Around) (outer : List PySem.Env) (s : Shared) (H : Hp) (vs : List V) (Q : VK) (E : XK), A.guards = some [] → Room k (A.deeper (envOfC qual (defScope st) s.heap.objs.size f cdv)) → sp vs H Q E →
      ∃ t, PSs (cxOf (L2.CX P w) P w K mg base N qual (defScope st) f cdv A outer s H E) (defBody st) t ∧ t { nx := fun _ H' => Q .non H', rt := Q } (start N vs) H) : FnOkG P w K mg base (L2.CX P w) (k + 1) f fd ps sp := by
  obtain ⟨oc, od, kV, doc, pm, an, cdv, ct, osl, rfl, lk, hcd⟩ := Fu.ex
  refine ⟨len, fun A hg outer s H args us vs Q E hr e0 hb r hsp => ?_⟩
  have stay : ∀ b o, base.get? b = some o → s.heap.get? b = some o := fun b o z => (e0.bs b o z).1
  have KX := e0.mod.kin.keeps stay
  refine codeAny_call_function hr.depth (KX _ _ lk) rfl S.co S.gen rfl (PySem.W.codeRec_of KX hcd) (hb _ _ _ _ (wpAny_newFunctionEnv_cells S.kind (sc_kinds S s.heap.objs.size us) fun env he s1 x => ?_))
  subst he
  refine ⟨(e0.mod.nolimit.keeps stay).keeps x.toInCall.keep, codeAny_func ?_⟩
  obtain ⟨t, ht, hq⟩ := hbody cdv A outer s H vs Q E hg (hr.deeper _) hsp
  have I := inv_start (CX := L2.CX P w) (E := E) S hr.hd e0 (len _ _ _ _ hsp) r x
  exact wpAny_mono (ht.run [] s1 (start N vs) H _ I hq) (fun fl s' hs => end_of (fun J rv q => ⟨_, _, J.os, J.bare, J.base, J.hok, rv, q⟩) hs) fun e s' hs => hs
/-- as fn_pure -/
theorem fn_pureG {x qual : Str} {st : Stmt} {f : Addr} {fd : FuncData} {N ps : List Str} {k : Nat} {ms : MrS} (Fu : Fun K x qual st f fd) (S : FnScope N ps (defScope st))
    (hbody : ∀ (cdv : Value) (A : Around) (outer : List PySem.Env) (s : Shared) (H : Hp) (E : XK), A.guards = some [] → Room k (A.deeper (PyProof.Rows.envOfC qual (defScope st) s.heap.objs.size f cdv)) →
      ∃ t, PxSs (cxOf (L2.CX P w) P w K mg base N qual (defScope st) f cdv A outer s H E) E 0 (defBody st) ms t) : FnOkG P w K mg base (L2.CX P w) (k + 1) f fd ps (spM K (runF ps.length N.length ms)) := by
  have lenOk : ∀ {vs : List V} {H : Hp} {Q : VK} {E : XK}, spM K (runF ps.length N.length ms) vs H Q E → vs.length = ps.length := fun {vs H Q E} h => by
    obtain ⟨F, ss, e, ol, p⟩ := h
    by_cases hl : ss.length = ps.length
    · rw [owL_len ol, hl]
    · unfold runF at p
      rw [if_neg hl] at p
      exact p.elim
  refine fnG_of Fu S (fun vs H Q E h => lenOk h) (fun cdv A outer s H vs Q E hg hr h => ?_)
  obtain ⟨t, ht⟩ := hbody cdv A outer s H E hg hr
  refine ⟨t, ht.ps, ?_⟩
  have hvl := lenOk h
  obtain ⟨F, ss, e, ol, p⟩ := h
  have hl : ss.length = ps.length := by rw [← owL_len ol, hvl]
  unfold runF at p
  rw [if_pos hl] at p
  exact ht.sim _ F H _ (initG N.length ss) _ (Nat.zero_le _) (envS_start e ol) (pure_end (S := fun _ => True) e p)
end
end Pf

/-! Pf58: the law's call, by a promise that rests on no repr being under way. -/
namespace Pf
open PySem PySem.Spec L2 PyProof.Rows
section
variable {P : Program} {w : World} {K : PySem.W.Frag}
/-- the script's list: the module's own, or tracked as frozen -/
theorem script_H {s₁ : Shared} {a : Addr} {vs : List Value} {ns : List Int} (KX : K.In s₁.heap) (ha : s₁.heap.get? a = some { cls := .type "list", data := .seq vs.toArray }) (hi : IntsAre vs ns) (hl : ns.length ≤ sizeLine) :
    ∃ H : Hp, Only H ∧ SqL K H a (ns.map V.int) ∧ HOk P w H s₁.heap ∧ ∀ b, H b ≠ none → b = a ∧ K.lookup a = none := by
  have rv := vals_ints hi
  have hz : vs.toArray.size ≤ sizeLine := by
    rw [List.size_toArray, hi.length]
    exact hl
  cases hk : K.lookup a with
  | some o =>
    have e := (KX a o hk).symm.trans ha
    cases e
    exact ⟨fun _ => none, fun _ => .inl rfl, .inr ⟨_, vs.toArray, _, hk, rfl, rfl, rfl, hz, by simpa using rv⟩, (fun b u z => nomatch z), fun b z => absurd rfl z⟩
  | none =>
    let u : HO := .frz { cls := .type "list", data := .seq vs.toArray } (.lst (ns.map V.int))
    have at_a : ∀ b, (if b = a then some u else none) ≠ none → b = a := fun b z => Classical.byContradiction fun n => z (if_neg n)
    refine ⟨fun b => if b = a then some u else none, fun b => ?_, .inl (.inr ⟨_, if_pos rfl⟩), fun b u' z => ?_, fun b z => ⟨at_a b z, rfl⟩⟩
    · cases q : decide (b = a) with
      | true => exact .inr ⟨_, _, if_pos (of_decide_eq_true q)⟩
      | false => exact .inl (if_neg (of_decide_eq_false q))
    · have z : (if b = a then some u else none) = some u' := z
      have hb := at_a b (by rw [z]; exact nofun)
      subst hb
      have z' := (if_pos rfl).symm.trans z
      cases z'
      exact ⟨ha, (by rw [List.length_map]; exact hl), vs, _, rv, ha⟩
theorem law_at {mg mb : Str → Option Value} {k : Nat} {fa a : Addr} {fd : FuncData} {x : Str} {sp : Sp} {s₁ : Shared} {vs : List Value} {ns : List Int}
    (KX : K.In s₁.heap) (hns : s₁.heap.Ns mainGlobals mg) (hb : s₁.heap.Ns builtinsNs mb) (hbb : ∀ x : Str, x ≠ "__name__" → mb x = bootBuiltins x) (hlim : s₁.heap.NoLimit) (hg : s₁.gens = #[])
    (ha : s₁.heap.get? a = some { cls := .type "list", data := .seq vs.toArray }) (hi : IntsAre vs ns) (hl : ns.length ≤ sizeLine) (hr : Room k callerA)
    (F : ∀ base : Heap, K.In base → base.Ns mainGlobals mg → RunAt P w K mg base (L2.CX P w) k fa fd [x] sp callerA) (hbind : ∀ (s : Shared) (u : Value), BindsTo s fd ⟨[u], []⟩ [(x, u)])
    (hsp : ∀ H : Hp, Only H → SqL K H a (ns.map V.int) → sp [.ref a] H (fun v _ => v = .bl true) fun _ _ _ => False) :
    codeAny (model P w) callerA (.call (.ref fa) ⟨[.ref a], []⟩) (fun r s' => r = .ok (.ret (.bool true)) ∧ OldK s₁.heap s'.heap ∧ s'.os = s₁.os ∧ AllBare s'.gens) s₁ := by
  obtain ⟨H, hO, hS, hok, hA⟩ := script_H (P := P) (w := w) KX ha hi hl
  have free : ∀ {b : Addr} {o : Obj}, s₁.heap.get? b = some o → (b = a → K.lookup a = none → False) → H b = none := fun {b o} e n => by
    cases q : H b with
    | none => rfl
    | some u =>
      have z := hA b (by rw [q]; exact nofun)
      exact (n z.1 z.2).elim
  have nsK : ∀ {b : Addr} {m : Str → Option Value}, s₁.heap.Ns b m → (hidT s₁.heap H).Ns b m := fun {b m} ⟨o, es, ep, e, d, r⟩ => ⟨o, es, ep, hidT_get e (free e fun z _ => by
    subst z
    have := e.symm.trans ha
    cases this
    cases d), d, r⟩
  have kin : K.In (hidT s₁.heap H) := fun b o e => hidT_get (KX b o e) (free (KX b o e) fun z n => by
    subst z
    have := e.symm.trans n
    cases this)
  have lim : (hidT s₁.heap H).NoLimit := by
    obtain ⟨mc, h1, h2⟩ := hlim
    exact ⟨mc, nsK h1, h2⟩
  have e0 : Env0 P w K mg (hidT s₁.heap H) callerA [] s₁ H := ⟨rfl, ⟨kin, nsK hns, ⟨mb, nsK hb, hbb⟩, lim⟩, fun b o e => of_hidT e, Nat.le_of_eq (hidT_size _ _), trivial, (fun b m => nomatch m), hok, .of_eq hg⟩
  refine codeAny_mono (F _ kin (nsK hns) [] s₁ H ⟨[.ref a], []⟩ [.ref a] [.ref a] _ _ hr e0 (hbind s₁ (.ref a)) (.cons rfl .nil) (hsp H hO hS)) fun r s' h => ?_
  match r, h with
  | .error e, h => exact (let ⟨_, _, _, _, _, _, _, _, _, _, _, _, z⟩ := h; False.elim z)
  | .ok .next, h => exact h.elim
  | .ok .brk, h => exact h.elim
  | .ok .cont, h => exact h.elim
  | .ok (.ret u), ⟨v, H', os, bare, un, hok', r', q⟩ =>
    have q' : v = .bl true := q
    subst q'
    obtain rfl : u = Value.bool true := r'
    refine ⟨rfl, OldK.of_keep fun b o e => ?_, os, bare⟩
    rcases hO b with q | ⟨ob, xs, q⟩
    · exact un.keep b o e q (fun m => nomatch m) (fun m => nomatch m)
    · have e1 := (hok b _ q).1
      have e2 := (hok' b _ (un.frzs b ob _ q)).1
      have := e.symm.trans e1
      cases this
      exact e2
end
theorem walk_g {l : PySem.W.OpenLaw} {n k : Nat} {q : Program} {loose : List Str} {XP : (Str → Option Value) → Heap → Prop} {YP : World → Heap → Prop} {d : DefRec} {x : Str} (hn : l.most = some n) (hn2 : n ≤ sizeLine) (hdf : d.params.defaults = []) (hr : Room k callerA)
    (F : ∀ (w : World) (mg : Str → Option Value) (fa : Addr) (h : Heap), YP w h → h.Ns mainGlobals mg → mg d.name = some (.ref fa) →
      ∃ (K : PySem.W.Frag) (fd : FuncData) (sp : Sp), K.In h ∧ (∀ (s : Shared) (u : Value), BindsTo s fd ⟨[u], []⟩ [(x, u)]) ∧ (∀ (H : Hp) (a : Addr) (ns : List Int), ns.length ≤ n → Only H → SqL K H a (ns.map V.int) → sp [.ref a] H (fun v _ => v = .bl true) fun _ _ _ => False) ∧
        ∀ base : Heap, K.In base → base.Ns mainGlobals mg → FnOkG l.prog w K mg base (L2.CX l.prog w) k fa fd [x] sp) : PySem.W.WalkO q loose XP YP l.row.toRowW d [] (fun f vs => PySem.call f vs) := by
  refine Att.attach_call hn hdf ?_
  intro w s0 s1 mg mb fa o pm cd doc a vs ns G Y _ _ _ hmg hobj hints hlen hg
  obtain ⟨K, fd, sp, KX, hb, hsp, hF⟩ := F w mg fa _ Y G.T.g hmg
  exact law_at KX G.T.g G.T.b G.T.builtins G.T.nolimit hg hobj hints (Nat.le_trans hlen hn2) hr (fun base h1 h2 => (hF base h1 h2).run callerA rfl) hb fun H hO hS => hsp H a ns hlen hO hS
end Pf

/-! Pf59: displays that are only looked at; shifts and the bitwise and. -/
namespace Pf
open PySem L2
def eSeqB (k : Nk) (as : MrA) : Mr := fun Γ => (as Γ).bind fun rs => if rs.length ≤ most then .ok ⟨.bor, .node k (rs.map Rv.s)⟩ else .no
section
variable {K : PySem.W.Frag} {S : Addr → Prop} {E : XK} {F H F1 H1 : Hp} {Q : VK} {σ : L2.St} {Γ : Gm}
theorem Rok.any {v : V} {r : Rv} {fp : List Addr} (h : Rok K S F H v r fp) : ∃ fq, Ow K F H v r.s fq := by
  obtain ⟨fl, s⟩ := r
  cases fl with
  | own => exact ⟨fp, h⟩
  | par => exact let ⟨_, fq, o, _⟩ := h; ⟨fq, o⟩
  | bor => exact let ⟨_, fq, o⟩ := h; ⟨fq, o⟩
theorem Roks.any : ∀ {vs : List V} {rs : List Rv} {fp : List Addr}, Roks K S F H vs rs fp → ∃ fq, OwAll K F H vs (rs.map Rv.s) fq
  | _, _, _, .nil => ⟨[], .nil⟩
  | _, _, _, .cons h t => by
    obtain ⟨f1, o1⟩ := h.any
    obtain ⟨f2, o2⟩ := t.any
    exact ⟨f1 ++ f2, .cons o1 o2⟩
theorem sim_lstB {t : TA} {m : MrA} (h : SimA K E t m) : Sim K E (tLst t) (eSeqB .L m) := by
  intro S F H σ Γ Q e en p
  refine h.bind e en p fun rs vs F1 H1 fp q st ro nw p1 => ?_
  have p2 : Post K S E Q F H (if rs.length ≤ most then .ok ⟨.bor, .node .L (rs.map Rv.s)⟩ else .no) := p1
  by_cases hl : rs.length ≤ most
  · rw [if_pos hl] at p2
    refine ⟨by rw [roks_len ro]; exact most_ok hl, fun a ha => ?_⟩
    obtain ⟨fq, oa⟩ := ro.any
    have g : Same H1 (upd H1 a (.lst vs)) := fun b u e => by
      rw [upd_ne (ne_of_none e ha)]
      exact e
    refine p2 _ F1 _ [] ⟨st.ff, st.fh.trans g, st.hh.trans g, st.nw⟩ ⟨rfl, a :: fq, ?_⟩ New.nil
    exact .node upd_same (show Shape K .L vs (.lst vs) from rfl) (owAll_mono (Same.refl F1) oa fun a _ o q => g a o q)
  · rw [if_neg hl] at p2
    exact p2.elim
end
section
variable {X : Cx} {E : XK}
theorem px_lstB {es : List Expr} {me : MrA} {te : TA} {pos : Pos} (h : PxA X E es me te) : Px X E (.List es pos) (eSeqB .L me) (tLst te) := ⟨pe_lst h.pa, sim_lstB h.sim⟩
def pShl : List Sl → Option Sl := fun ss => match ss with
  | [.dat (.int i), .dat (.int j)] => if i = 1 ∧ 0 ≤ j ∧ j ≤ 1000 then some (.dat (.int (2 ^ j.toNat))) else none
  | _ => none
def pShr : List Sl → Option Sl := fun ss => match ss with
  | [.dat (.int i), .dat (.int j)] => if 0 ≤ j then some (.dat (.int (i / 2 ^ j.toNat))) else none
  | _ => none
def pBAnd : List Sl → Option Sl := fun ss => match ss with
  | [.dat (.int i), .dat (.int j)] => some (.dat (.int (Builtin.bitAnd i j)))
  | _ => none
theorem od_shl : OpD X (binaryOp .LShift) pShl := by
  refine OpR.via fun x y H Q q => ?_
  obtain ⟨F, ss, s, e, ol, fs, k⟩ := q
  obtain ⟨a, b, fa, fb, rfl, oa, ob⟩ := owL_2 ol
  unfold pShl at fs
  split at fs
  · rename_i i j e2
    cases e2
    split at fs
    · rename_i c
      cases fs
      obtain ⟨rfl, c1, c2⟩ := c
      exact ⟨_, op_oneShl, j.toNat, ow_int oa, (ow_int ob).trans (congrArg V.int (by omega)), by omega, k _ F H [] (Step.refl e) (.dat (.int _)) New.nil⟩
    · cases fs
  · cases fs
theorem od_shr : OpD X (binaryOp .RShift) pShr := by
  refine OpR.via fun x y H Q q => ?_
  obtain ⟨F, ss, s, e, ol, fs, k⟩ := q
  obtain ⟨a, b, fa, fb, rfl, oa, ob⟩ := owL_2 ol
  unfold pShr at fs
  split at fs
  · rename_i i j e2
    cases e2
    split at fs
    · rename_i c
      cases fs
      exact ⟨_, op_shr, i, j, ow_int oa, ow_int ob, c, k _ F H [] (Step.refl e) (.dat (.int _)) New.nil⟩
    · cases fs
  · cases fs
theorem od_band : OpD X (binaryOp .BitAnd) pBAnd := by
  refine OpR.via fun x y H Q q => ?_
  obtain ⟨F, ss, s, e, ol, fs, k⟩ := q
  obtain ⟨a, b, fa, fb, rfl, oa, ob⟩ := owL_2 ol
  unfold pBAnd at fs
  split at fs
  · rename_i i j e2
    cases e2
    cases fs
    exact ⟨_, op_and, i, j, ow_int oa, ow_int ob, k _ F H [] (Step.refl e) (.dat (.int _)) New.nil⟩
  · cases fs
def pNeS : List Sl → Option Sl := fun ss => match ss with
  | [.dat (.str a), .dat (.str b)] => some (.dat (.bool (!decide (V.str a = V.str b))))
  | _ => none
theorem ow_str {K : PySem.W.Frag} {F H : Hp} {x : V} {t : Str} {fp : List Addr} (h : Ow K F H x (.dat (.str t)) fp) : x = .str t := by
  cases h with
  | dat hd =>
    cases hd
    rfl
theorem od_neS : OpD X (compareOp .NotEq) pNeS := by
  refine OpR.via fun x y H Q q => ?_
  obtain ⟨F, ss, s, e, ol, fs, k⟩ := q
  obtain ⟨a, b, fa, fb, rfl, oa, ob⟩ := owL_2 ol
  unfold pNeS at fs
  split at fs
  · rename_i i j e2
    cases e2
    cases fs
    have h1 := ow_str oa
    have h2 := ow_str ob
    subst h1 h2
    exact ⟨_, op_ne, rfl, k _ F H [] (Step.refl e) (.dat (.bl _)) New.nil⟩
  · cases fs
end
theorem u70 {k : Nat} {A : Around} (h : Room k A) : A.units + 70 < cLine := by
  have := h.un
  omega
end Pf

/-! Pf60: what str takes; by simp. -/
namespace Pf
open PySem L2
structure Sm (d : PyData) (dep wt : Nat) : Prop where
  lay : d.canLay0 = true
  dp : d.depth ≤ dep
  wt : d.weight ≤ wt
  sh : d.intsShort 13 = true
  so : d.showable = true
theorem Sm.mono {d : PyData} {a b a' b' : Nat} (h : Sm d a b) (h1 : a ≤ a') (h2 : b ≤ b') : Sm d a' b' := ⟨h.lay, Nat.le_trans h.dp h1, Nat.le_trans h.wt h2, h.sh, h.so⟩
theorem sm_small : ∀ n : Nat, n < 200 → (PyData.shown (.int (n : Int))).length ≤ 13 ∧ (n : Int).natAbs.log2 < 8 := by decide +kernel
theorem sm_int {i : Int} (h : 0 ≤ i ∧ i < 200) : Sm (.int i) 0 9 := by
  obtain ⟨n, rfl⟩ := Int.eq_ofNat_of_zero_le h.1
  obtain ⟨s1, s2⟩ := sm_small n (by omega)
  refine ⟨rfl, Nat.le_refl _, ?_, decide_eq_true s1, decide_eq_true (by omega)⟩
  show (if ((n : Int) == 0) = true then 0 else (n : Int).natAbs.log2 + 1) ≤ 9
  split
  · exact Nat.zero_le _
  · omega
theorem sm_none : Sm .none 0 9 := ⟨rfl, Nat.le_refl _, Nat.zero_le _, rfl, rfl⟩
structure SmA (ds : List PyData) (dep wt : Nat) : Prop where
  lay : PyData.canLayAll0 ds = true
  dp : PyData.depthAll ds ≤ dep
  wt : PyData.weightAll ds ≤ ds.length * (wt + 1)
  sh : PyData.intsShortAll 13 ds = true
  so : PyData.showableAll ds = true
theorem smA_of {dep wt : Nat} : ∀ {ds : List PyData}, (∀ d ∈ ds, Sm d dep wt) → SmA ds dep wt
  | [], _ => ⟨rfl, Nat.zero_le _, Nat.zero_le _, rfl, rfl⟩
  | d :: ds, h => by
    have a := h d List.mem_cons_self
    have b := smA_of fun e m => h e (List.mem_cons_of_mem _ m)
    refine ⟨?_, ?_, ?_, ?_, ?_⟩
    · show (d.canLay0 && PyData.canLayAll0 ds) = true
      rw [a.lay, b.lay]
      rfl
    · show max d.depth (PyData.depthAll ds) ≤ dep
      exact Nat.max_le.mpr ⟨a.dp, b.dp⟩
    · show d.weight + 1 + PyData.weightAll ds ≤ (ds.length + 1) * (wt + 1)
      have h1 := a.wt
      have h2 := b.wt
      have e : (ds.length + 1) * (wt + 1) = ds.length * (wt + 1) + (wt + 1) := Nat.succ_mul _ _
      omega
    · show (d.intsShort 13 && PyData.intsShortAll 13 ds) = true
      rw [a.sh, b.sh]
      rfl
    · show (d.showable && PyData.showableAll ds) = true
      rw [a.so, b.so]
      rfl
theorem sm_list {ds : List PyData} {dep wt : Nat} (h : ∀ d ∈ ds, Sm d dep wt) : Sm (.list ds) (dep + 1) (ds.length * (wt + 1)) := by
  have b := smA_of h
  exact ⟨b.lay, Nat.succ_le_succ b.dp, b.wt, b.sh, b.so⟩
theorem sm_tup {ds : List PyData} {dep wt : Nat} (h : ∀ d ∈ ds, Sm d dep wt) : Sm (.tuple ds) (dep + 1) (ds.length * (wt + 1)) := by
  have b := smA_of h
  exact ⟨b.lay, Nat.succ_le_succ b.dp, b.wt, b.sh, b.so⟩
theorem shw_of {ds : List PyData} {dep wt : Nat} (h : Sm (.list ds) dep wt) (h1 : dep ≤ 64) (h2 : wt ≤ 2 ^ 20) : shw (.list ds) = true := by
  unfold shw PyData.layable0
  rw [h.lay, h.sh, h.so, decide_eq_true (Nat.le_trans h.dp h1), decide_eq_true (Nat.le_trans h.wt h2)]
  rfl
theorem str_of {s : Sl} {ds : List PyData} (h : toW s = some (.list ds)) (hs : shw (.list ds) = true) : pStr [s] = some (.dat (.str (PyData.shown (.list ds)))) := by
  show (match toW s with
    | some (.list ds) => if shw (.list ds) = true then some (Sl.dat (.str (PyData.shown (.list ds)))) else none
    | _ => none) = _
  rw [h]
  exact if_pos hs
@[simp] theorem ev_neSS {a : Str} : pNeS [.dat (.str a), .dat (.str a)] = some (.dat (.bool false)) := by
  show some (Sl.dat (.bool (!decide (V.str a = V.str a)))) = _
  rw [decide_eq_true rfl]
  rfl
section
variable {Γ : Gm} {ma : MrA} {k : Nk}
@[simp] theorem ev_seqB : eSeqB k ma Γ = (ma Γ).bind fun rs => if rs.length ≤ 1000000 then .ok ⟨.bor, .node k (rs.map Rv.s)⟩ else .no := rfl
@[simp] theorem ev_shr {i j : Int} (h : 0 ≤ j) : pShr [di i, di j] = some (di (i / 2 ^ j.toNat)) := if_pos h
@[simp] theorem ev_shl {j : Int} (h : 0 ≤ j ∧ j ≤ 1000) : pShl [di 1, di j] = some (di (2 ^ j.toNat)) := if_pos ⟨rfl, h⟩
@[simp] theorem ev_band {i j : Int} : pBAnd [di i, di j] = some (di (Builtin.bitAnd i j)) := rfl
end
end Pf

/-! Pf61: calls of defs that rest on no repr being under way; a def that nothing is known of. -/
namespace Pf
open PySem PySem.Spec L2 PyProof.Rows
section
variable {X : Cx} {CX : CXT} {k : Nat} {f : Addr} {fd : FuncData} {ps : List Str} {sp : Sp} {E : XK} {x : Str} {p pos : Pos} {e : Expr} {es : List Expr} {t : TA}
theorem run_fnG {pins : List (Addr × Obj)} {σ : L2.St} {H : Hp} {s : Shared} {Q : VK} {us : List Value} {vs : List V} (F : FnOkG X.prog X.w X.K X.mg X.base CX k f fd ps sp) (hG : X.A.guards = some []) (hr : Room k X.A) (hb : Binds X.K fd ps []) (hx : Passes CX X E)
    (I : Inv X pins σ H s) (r : Vals vs us) (h : sp vs H Q E) : wpAny (model X.prog X.w) X.A (call (.ref f) us) (EP X pins σ Q) X.xe s := by
  have hl : (us ++ []).length = ps.length := by
    rw [List.append_nil, ← r.length]
    exact F.len _ _ _ _ h
  have bd := hb s us I.kIn hl
  rw [List.append_nil] at bd
  refine wpAny_call (codeAny_mono (F.run X.A hG X.stack s H ⟨us, []⟩ us vs Q E hr I.env0 bd r h) ?_)
  intro z s' hq
  match z, hq with
  | .error e, hq => exact hx pins σ H s e s' I hq
  | .ok (.ret u), hq => exact I.after hq
  | .ok .next, hq => exact hq.elim
  | .ok .brk, hq => exact hq.elim
  | .ok .cont, hq => exact hq.elim
theorem pe_callG (F : FnOkG X.prog X.w X.K X.mg X.base CX k f fd ps sp) (hG : X.A.guards = some []) (hr : Room k X.A) (hg : Gl X x) (hm : X.mg x = some (.ref f)) (hk : PySem.W.keepIn X.K (.ref f) = true) (hb : Binds X.K fd ps []) (hx : Passes CX X E)
    (ha : PA X (e :: es) t) (hdb : (x == ("__debug__" : Str)) = false := by decide) (he : starEach (e :: es) X.env = (false, eval e X.env) :: starEach es X.env := by rfl) (hpl : (backTo pos (starEach es X.env)).any (·.1) = false := by rfl) :
    PE X (.Call (.Name x p) (e :: es) [] pos) (tCall sp [] E t) := by
  constructor
  intro pins s σ H Q I h
  refine wpAny_Call_Name_kw (ld_glob I hg hm (PySem.W.callWith_K (h₀ := X.base) I.ok.mod.kin hk (thn (ha.run pos pins s σ H _ I h) ?_) he hpl) hdb)
  rintro us s1 ⟨vs, H1, I1, r, q⟩
  rw [List.append_nil] at q
  exact ⟨I1.kIn, run_fnG F hG hr hb hx I1 r q⟩
end
section
variable {X : Cx} {E : XK} {e : Expr} {pos p : Pos} {es : List Expr} {me : MrA} {te : TA} {CX : CXT} {k : Nat} {f : Addr} {fd : FuncData} {ps : List Str} {m : Fm} {x : Str}
theorem px_fnG (F : FnOkG X.prog X.w X.K X.mg X.base CX k f fd ps (spM X.K m)) (hG : X.A.guards = some []) (hr : Room k X.A) (hg : Gl X x) (hm : X.mg x = some (.ref f)) (hk : PySem.W.keepIn X.K (.ref f) = true) (hb : Binds X.K fd ps []) (hx : Passes CX X E)
    (ha : PxA X E (e :: es) me te) (hdb : (x == ("__debug__" : Str)) = false := by decide) (he : starEach (e :: es) X.env = (false, eval e X.env) :: starEach es X.env := by rfl) (hpl : (backTo pos (starEach es X.env)).any (·.1) = false := by rfl) :
    Px X E (.Call (.Name x p) (e :: es) [] pos) (eFn m me) (tCall (spM X.K m) [] E te) := ⟨pe_callG F hG hr hg hm hk hb hx ha.pa hdb he hpl, sim_fn ha.sim⟩
end
section
variable {P : Program} {w : World} {K : PySem.W.Frag} {mg : Str → Option Value} {base : Heap} {CX : CXT} {k : Nat} {f : Addr} {fd : FuncData} {ps : List Str}
/-- of which nothing is promised -/
def fNo : Fm := fun _ => .no
theorem ok_no : FnOk P w K mg base CX k f fd ps (spM K fNo) := ⟨fun vs H Q E h => by
  obtain ⟨_, _, _, _, p⟩ := h
  exact p.elim, fun A outer s H args us vs Q E _ _ _ _ h => by
  obtain ⟨_, _, _, _, p⟩ := h
  exact p.elim⟩
end
end Pf

/-! Pf62: isinstance(a, (T1, T2)). -/
namespace Pf
open PySem L2
def isi2 (tb tb' : List (Tyn × Bool)) (s : Sl) : Rz Rv := match tb.lookup (tyS s), tb'.lookup (tyS s) with
  | some b, some b' => .ok ⟨.own, .dat (.bool (b || b'))⟩
  | _, _ => .no
def eIsi2 (tb tb' : List (Tyn × Bool)) (a : Mr) : Mr := fun Γ => (a Γ).bind fun r => isi2 tb tb' r.s
theorem ev_isi2 {tb tb' : List (Tyn × Bool)} {m : Mr} {Γ : Gm} : eIsi2 tb tb' m Γ = (m Γ).bind fun r => isi2 tb tb' r.s := rfl
abbrev tIsi2 (K : PySem.W.Frag) (ta : TE) (T T' : String) : TE := tCB (rIsiT K) (tCons ta (tCons (tTup (tCons (tC (.ty T)) (tCons (tC (.ty T')) tNil))) tNil))
theorem sim_isi2 {K : PySem.W.Frag} {E : XK} {ta : TE} {ma : Mr} {tb tb' : List (Tyn × Bool)} {T T' : String} (ht : ∀ p ∈ tb, PySem.W.kitOne K (tyVal K p.1) (.type T) = some p.2) (hi : ∀ p ∈ tb, ∀ x, p.1 = .inr x → InsOk K x)
    (ht' : ∀ p ∈ tb', PySem.W.kitOne K (tyVal K p.1) (.type T') = some p.2) (ha : Sim K E ta ma) : Sim K E (tIsi2 K ta T T') (eIsi2 tb tb' ma) := by
  intro S F H σ Γ Q e en p
  refine ha.bind e en p fun r x F1 H1 fp q st ro nw => ?_
  have p := (show Post K S E Q F H ((ma Γ).bind _) from p)
  rw [q] at p
  have p1 : Post K S E Q F1 H1 (isi2 tb tb' r.s) := Post.up st p
  refine ⟨by show 2 ≤ sizeLine; decide, fun tp hp => ?_⟩
  unfold isi2 at p1
  cases q1 : tb.lookup (tyS r.s) with
  | none =>
    rw [q1] at p1
    exact p1.elim
  | some b =>
    cases q2 : tb'.lookup (tyS r.s) with
    | none =>
      rw [q1, q2] at p1
      exact p1.elim
    | some b' =>
      rw [q1, q2] at p1
      have m1 := lookup_mem' q1
      have m2 := lookup_mem' q2
      obtain ⟨fz, o⟩ := ro.ow
      have g : Same H1 (upd H1 tp (.tup [.ty T, .ty T'])) := fun b u e => by
        rw [upd_ne (ne_of_none e hp)]
        exact e
      have o' : Ow K F1 (upd H1 tp (.tup [.ty T, .ty T'])) x r.s fz := ow_mono (Same.refl F1) o fun a _ u z => g a u z
      have st0 := Step.refl st.fh
      refine ⟨x, tp, [.ty T, .ty T'], _, [.type T, .type T'], b || b', rfl, upd_same, .cons (.ty T) (.cons (.ty T') .nil), ow_ty (st.fh.trans g) o' (fun c hc => hi _ m1 c hc), ?_, p1 _ F1 _ [] ⟨st0.ff, st0.fh.trans g, st0.hh.trans g, st0.nw⟩ (Ow.dat (.bl _)) New.nil⟩
      refine kitAny_cons (b := b) (ht _ m1) (fun hb => ?_) (fun hb => by rw [hb]; rfl)
      rw [hb, Bool.false_or]
      exact kitAny_cons (b := b') (ht' _ m2) (fun hb' => by rw [hb']; exact kitAny_nil) (fun hb' => hb')
theorem px_isi2 {X : Cx} {E : XK} {a : Expr} {ma : Mr} {ta : TE} {tb tb' : List (Tyn × Bool)} {x y : Str} {T T' : String} {p p2 p3 p4 pos : Pos} {tm : Nat} (hg : Gl X "isinstance") (hm : X.mg "isinstance" = none) (hg2 : Gl X x) (hm2 : X.mg x = none) (hv2 : bootBuiltins x = some (.type T)) (hg3 : Gl X y) (hm3 : X.mg y = none) (hv3 : bootBuiltins y = some (.type T'))
    (ht : ∀ q ∈ tb, PySem.W.kitOne X.K (tyVal X.K q.1) (.type T) = some q.2) (hi : ∀ q ∈ tb, ∀ x, q.1 = .inr x → InsOk X.K x) (ht' : ∀ q ∈ tb', PySem.W.kitOne X.K (tyVal X.K q.1) (.type T') = some q.2) (ha : Px X E a ma ta) (hn : x ≠ "__name__" := by decide) (hdb : (x == ("__debug__" : Str)) = false := by decide) (hn3 : y ≠ "__name__" := by decide) (hdb3 : (y == ("__debug__" : Str)) = false := by decide)
    (he : starEach [a, .Tuple [.Name x p2, .Name y p3] tm p4] X.env = (false, eval a X.env) :: starEach [.Tuple [.Name x p2, .Name y p3] tm p4] X.env := by rfl) (hpl : (backTo pos (starEach [.Tuple [.Name x p2, .Name y p3] tm p4] X.env)).any (·.1) = false := by rfl) (he2 : starEach [.Tuple [.Name x p2, .Name y p3] tm p4] X.env = (false, eval (.Tuple [.Name x p2, .Name y p3] tm p4) X.env) :: starEach [] X.env := by rfl)
    (he3 : starEach [.Name x p2, .Name y p3] X.env = (false, eval (.Name x p2) X.env) :: starEach [.Name y p3] X.env := by rfl) (he4 : starEach [.Name y p3] X.env = (false, eval (.Name y p3) X.env) :: starEach [] X.env := by rfl) :
    Px X E (.Call (.Name "isinstance" p) [a, .Tuple [.Name x p2, .Name y p3] tm p4] [] pos) (eIsi2 tb tb' ma) (tIsi2 X.K ta T T') :=
  ⟨pe_callB call_isiT hg hm (by decide +kernel) (pa_cons ha.pe (pa_cons (pe_tup (pa_cons (pe_bltn hg2 hm2 hv2 rfl hn hdb) (pa_cons (pe_bltn hg3 hm3 hv3 rfl hn3 hdb3) pa_nil he4) he3)) pa_nil he2) he) (by decide) (by decide) he hpl, sim_isi2 ht hi ht' ha.sim⟩
end Pf

/-! Pf63: lists at places: P[k] = data, P.pop(), P.clear(). -/
namespace Pf
open PySem L2
section
variable {K : PySem.W.Frag} {E : XK} {np : Nat} {B : Bs} {F H : Hp} {σ : L2.St} {Γ : Gm}
theorem owAll_init : ∀ {vs : List V} {xs : List Sl} {fp : List Addr}, OwAll K F H vs xs fp → ∃ fq, OwAll K F H vs.dropLast xs.dropLast fq ∧ fq.Sublist fp
  | _, _, _, .nil => ⟨[], .nil, .slnil⟩
  | _, _, _, .cons h .nil => ⟨[], .nil, List.nil_sublist _⟩
  | _, _, _, .cons (fp := f1) h (.cons h2 t) => by
    obtain ⟨fq, o, s⟩ := owAll_init (.cons h2 t)
    exact ⟨f1 ++ fq, .cons h o, (List.Sublist.refl _).append s⟩
theorem owAll_set {d : PyData} {w : V} (hw : Dq F w d) : ∀ {vs : List V} {xs : List Sl} {fp : List Addr} (j : Nat), OwAll K F H vs xs fp → ∃ fq, OwAll K F H (vs.set j w) (xs.set j (.dat d)) fq ∧ fq.Sublist fp
  | _, _, _, _, .nil => ⟨[], .nil, .slnil⟩
  | _, _, _, 0, .cons (fp := f1) (fps := f2) h t => ⟨[] ++ f2, .cons (.dat hw) t, List.sublist_append_right _ _⟩
  | _, _, _, j + 1, .cons (fp := f1) h t => by
    obtain ⟨fq, o, s⟩ := owAll_set hw j t
    exact ⟨f1 ++ fq, .cons h o, (List.Sublist.refl _).append s⟩
def atL (pl : Option (Nat × List Nat)) (o : Option Rv) (f : Nat → List Nat → List Sl → Oz) : Oz := match pl, o with
  | some (i, p), some ⟨.own, .node .L xs⟩ => f i p xs
  | _, _ => .no
def popL (Γ : Gm) (i : Nat) (p : List Nat) (xs : List Sl) : Oz := match xs with
  | [] => .no
  | x :: xs => .nx (setG Γ i p (.node .L (x :: xs).dropLast))
def sPopP (pl : MrP) : MrS := fun Γ => atL (pl Γ) (atG Γ (pl Γ)) (popL Γ)
def sClrP (pl : MrP) : MrS := fun Γ => atL (pl Γ) (atG Γ (pl Γ)) fun i p _ => .nx (setG Γ i p (.node .L []))
def putL' (Γ : Gm) (z : Rz Rv) (k : Int) (i : Nat) (p : List Nat) (xs : List Sl) : Oz := match z with
  | .ok ⟨.own, .dat d⟩ => (match ixN xs.length k with
    | some j => .nx (setG Γ i p (.node .L (xs.set j (.dat d))))
    | none => .no)
  | .er c => .er c Γ
  | _ => .no
def sPutP (pl : MrP) (k : Int) (m : Mr) : MrS := fun Γ => atL (pl Γ) (atG Γ (pl Γ)) (putL' Γ (m Γ) k)
/-- by the place's list -/
theorem by_place {pl : MrP} {Γ : Gm} {Q : Prop} {f : Nat → List Nat → List Sl → Oz} {D : Ends} (p : PostS K B E D (atL (pl Γ) (atG Γ (pl Γ)) f))
    (key : ∀ (i : Nat) (pa : List Nat) (xs : List Sl), pl Γ = some (i, pa) → atG Γ (pl Γ) = some ⟨.own, .node .L xs⟩ → PostS K B E D (f i pa xs) → Q) : Q := by
  cases hpl : pl Γ with
  | none =>
    rw [hpl] at p
    exact p.elim
  | some ip =>
    obtain ⟨i, pa⟩ := ip
    cases ho : atG Γ (pl Γ) with
    | none =>
      rw [ho, hpl] at p
      exact p.elim
    | some r =>
      rw [ho, hpl] at p
      obtain ⟨fl, s⟩ := r
      cases fl with
      | par => exact p.elim
      | bor => exact p.elim
      | own =>
        cases s with
        | dat d => exact p.elim
        | node kk xs =>
          cases kk with
          | L => exact key i pa xs hpl ho p
          | _ => exact p.elim
theorem simS_popP {tp : TE} {pl : MrP} (hP : SimP K tp pl) : SimS K E np (tDrop (tBM0 K "list" rPop tp)) (sPopP pl) := by
  intro B F H σ Γ D hp en p
  refine by_place (pl := pl) (Γ := Γ) (f := popL Γ) p fun i pa xs e1 e2 p0 => ?_
  obtain ⟨s0, es, hs⟩ := place_at e1 e2
  obtain ⟨v, a, o, vs, fp, hv, at_, ha, sh, t, nd, k⟩ := en.place es hs
  have sh : o = .lst vs := sh
  subst sh
  refine hP H σ Γ _ i pa _ v _ _ e1 es hv at_ ⟨Or.inl ⟨rfl, _, SqL.of ha⟩, ?_⟩
  cases xs with
  | nil => exact p0.elim
  | cons x xs =>
    have hl : vs.length = xs.length + 1 := owAll_len t
    obtain ⟨y, hy⟩ : ∃ y, vs[vs.length - 1]? = some y := ⟨_, List.getElem?_eq_getElem (by omega)⟩
    refine ⟨a, vs, y, rfl, rfl, ha, hy, ?_⟩
    have p1 : PostS K B E D (.nx (setG Γ i pa (.node .L (x :: xs).dropLast))) := p0
    rw [setG_eq es] at p1
    obtain ⟨fq, o2, sb⟩ := owAll_init t
    exact p1 F _ σ (k F H (.lst vs.dropLast) .L vs.dropLast _ fq [] (Step.refl en.st.fh) New.nil rfl o2 (sb.nodup nd) (fun b m => .inl (sb.subset m)))
theorem simS_clrP {tp : TE} {pl : MrP} (hP : SimP K tp pl) : SimS K E np (tDrop (tBM0 K "list" rClear tp)) (sClrP pl) := by
  intro B F H σ Γ D hp en p
  refine by_place (pl := pl) (Γ := Γ) (f := fun i p _ => .nx (setG Γ i p (.node .L []))) p fun i pa xs e1 e2 p0 => ?_
  obtain ⟨s0, es, hs⟩ := place_at e1 e2
  obtain ⟨v, a, o, vs, fp, hv, at_, ha, sh, t, nd, k⟩ := en.place es hs
  have sh : o = .lst vs := sh
  subst sh
  refine hP H σ Γ _ i pa _ v _ _ e1 es hv at_ ⟨Or.inl ⟨rfl, _, SqL.of ha⟩, a, vs, rfl, rfl, ha, ?_⟩
  rw [setG_eq es] at p0
  exact p0 F _ σ (k F H (.lst []) .L [] [] [] [] (Step.refl en.st.fh) New.nil rfl .nil List.nodup_nil (fun b m => nomatch m))
theorem simS_putP {tp te : TE} {pl : MrP} {me : Mr} {j : Int} (hP : SimP K tp pl) (h : Sim K E te me) : SimS K E np (tAsg te (gSub tp (tC (.int j)) rSetL)) (sPutP pl j me) := by
  intro B F H σ Γ D hp en p
  refine by_place (pl := pl) (Γ := Γ) (f := putL' Γ (me Γ) j) p fun i pa xs e1 e2 p0 => ?_
  obtain ⟨s0, es, hs⟩ := place_at e1 e2
  unfold putL' at p0
  refine h.stm en (fun c q => by rw [q] at p0; exact fun F' H' en' => p0 F' H' σ en') (fun q => by rw [q] at p0; exact p0) fun r w F' H' fq q st ro nw => ?_
  rw [q] at p0
  obtain ⟨fl, s⟩ := r
  cases fl with
  | par => cases s <;> exact p0.elim
  | bor => cases s <;> exact p0.elim
  | own =>
    cases s with
    | node kk ys => exact p0.elim
    | dat d =>
      have en1 := en.step st
      obtain ⟨v, a, o, vs, fp, hv, at_, ha, sh, t, nd, k⟩ := en1.place es hs
      have sh : o = .lst vs := sh
      subst sh
      have p1 : PostS K B E D (match ixN xs.length j with | some j => .nx (setG Γ i pa (.node .L (xs.set j (.dat d)))) | none => .no) := p0
      cases hj : ixN xs.length j with
      | none =>
        rw [hj] at p1
        exact p1.elim
      | some n =>
        rw [hj] at p1
        have p2 : PostS K B E D (.nx (setG Γ i pa (.node .L (xs.set n (.dat d))))) := p1
        rw [setG_eq es] at p2
        have oy : Ow K F' H' w (.dat d) fq := ro
        cases oy with
        | dat hd =>
          refine hP H' σ Γ _ i pa _ v _ _ e1 es hv at_ ⟨a, vs, j, n, rfl, rfl, ha, by rw [owAll_len t]; exact hj, ?_⟩
          obtain ⟨fr, o2, sb⟩ := owAll_set hd n t
          exact p2 F' _ σ (k F' H' (.lst (vs.set n w)) .L (vs.set n w) _ fr [] (Step.refl en1.st.fh) New.nil rfl o2 (sb.nodup nd) (fun b m => .inl (sb.subset m)))
end
section
variable {X : Cx} {E : XK} {np : Nat} {a e : Expr} {mp : MrP} {tp te : TE} {me : Mr} {pos apos cpos pt p1 : Pos}
theorem pxs_popP (hP : PxP X a mp tp) (hline : (apos.endLine == cpos.line) = true := by rfl) (hsw : swapsWith (.Call (.Attribute a "pop" apos) [] [] cpos) none pos.line X.env = pure false := by rfl)
    (hbase : attributeBase a "pop" X.env (eval a X.env) = eval a X.env := by rfl) : PxS X E np (.Expr (.Call (.Attribute a "pop" apos) [] [] cpos) pos) (sPopP mp) (tDrop (tBM0 X.K "list" rPop tp)) :=
  ⟨ps_expr (pe_bm0 PySem.F.plainAttrs_list PySem.F.slot_list_pop PySem.F.type_list_pop mt_pop hP.pe hbase hline) hsw, simS_popP hP.sim⟩
theorem pxs_clrP (hP : PxP X a mp tp) (hline : (apos.endLine == cpos.line) = true := by rfl) (hsw : swapsWith (.Call (.Attribute a "clear" apos) [] [] cpos) none pos.line X.env = pure false := by rfl)
    (hbase : attributeBase a "clear" X.env (eval a X.env) = eval a X.env := by rfl) : PxS X E np (.Expr (.Call (.Attribute a "clear" apos) [] [] cpos) pos) (sClrP mp) (tDrop (tBM0 X.K "list" rClear tp)) :=
  ⟨ps_expr (pe_bm0 PySem.F.plainAttrs_list PySem.F.slot_list_clear PySem.F.type_list_clear mt_clear hP.pe hbase hline) hsw, simS_clrP hP.sim⟩
theorem pxs_putP {k : Int} {kk : Nat} (hP : PxP X a mp tp) (he : Px X E e me te) (hs : swapsWithSole [.Subscript a (.Constant (.int k) kk p1) pt] e pos.line X.env = pure false := by rfl) (hw : swappedStores [.Subscript a (.Constant (.int k) kk p1) pt] e X.env = pure none := by rfl)
    (ha : ∀ v, assign (.Subscript a (.Constant (.int k) kk p1) pt) X.env v = (do
      let ov ← holding [v] (eval a X.env)
      let iv ← holding [v, ov] (eval (.Constant (.int k) kk p1) X.env)
      standAt pt
      holding [v, ov, iv] (setItem ov iv v)
      release [v, ov, iv] []) := by intro _; rfl) :
    PxS X E np (.Assign [.Subscript a (.Constant (.int k) kk p1) pt] e pos) (sPutP mp k me) (tAsg te (gSub tp (tC (.int k)) rSetL)) :=
  ⟨ps_asg he.pe (pg_sub hP.pe pe_int set_list ha) hs hw, simS_putP hP.sim he.sim⟩
end
end Pf

/-! Pf64: an expression that changes nothing, with all lists taken as data while it runs. -/
namespace Pf
open PySem L2
def zlR (o : Option Rv) : Option Rv := match o with
  | some r => some ⟨.own, zl r.s⟩
  | none => none
def zlG (Γ : Gm) : Gm := Γ.map zlR
def eZ (m : Mr) : Mr := fun Γ => (m (zlG Γ)).bind outZ
theorem sim_Z {K : PySem.W.Frag} {E : XK} {t : TE} {m : Mr} (h : Sim K E t m) : Sim K E t (eZ m) := by
  intro S F H σ Γ Q e en p
  refine h (fun _ => True) (lz F H) H σ (zlG Γ) Q (lz_fh e) ⟨by unfold zlG; rw [List.length_map]; exact en.len, fun i r q => ?_⟩ (post_fnZ e p)
  unfold zlG at q
  rw [List.getElem?_map] at q
  cases hq : Γ[i]? with
  | none =>
    rw [hq] at q
    cases q
  | some o =>
    rw [hq] at q
    cases o with
    | none => cases q
    | some r0 =>
      cases q
      obtain ⟨v, fp, hv, ow, _⟩ := en.at_ i r0 hq
      obtain ⟨fq, o'⟩ := zl_ow e ow
      exact ⟨v, fq, hv, o', fun z => by cases z⟩
theorem px_Z {X : Cx} {E : XK} {a : Expr} {m : Mr} {t : TE} (h : Px X E a m t) : Px X E a (eZ m) t := ⟨h.pe, sim_Z h.sim⟩
@[simp] theorem ev_Z {m : Mr} {Γ : Gm} : eZ m Γ = (m (Γ.map zlR)).bind outZ := rfl
@[simp] theorem ev_zlR {r : Rv} : zlR (some r) = some ⟨.own, zl r.s⟩ := rfl
@[simp] theorem ev_zlN : zlR none = none := rfl
end Pf

/-! Mw1: chains of parts, the greedy one is the shortest. -/
namespace Mw
abbrev Pt := Int × Int
def okQ (n : Int) (p : Pt) : Prop := 0 ≤ p.1 ∧ p.1 < p.2 ∧ p.2 ≤ n
def Hs (p : Pt) (m : Int) : Prop := p.1 ≤ m ∧ m < p.2
/-- steps from a to c, each within one part -/
inductive Ch (ps : List Pt) : Int → Int → Nat → Prop
  | nil (a : Int) : Ch ps a a 0
  | cons {a b c : Int} {k : Nat} (p : Pt) : p ∈ ps → p.1 ≤ a → a < b → b ≤ p.2 → Ch ps b c k → Ch ps a c (k + 1)
theorem Ch.le {ps : List Pt} {a c : Int} {k : Nat} (h : Ch ps a c k) : a ≤ c ∧ (k : Int) ≤ c - a := by
  induction h with
  | nil a => omega
  | cons p _ _ _ _ _ ih => omega
theorem Ch.zero {ps : List Pt} {a c : Int} (h : Ch ps a c 0) : a = c := by
  cases h; rfl
theorem Ch.snoc {ps : List Pt} {a b c : Int} {k : Nat} (h : Ch ps a b k) (p : Pt) (m : p ∈ ps) (h1 : p.1 ≤ b) (h2 : b < c) (h3 : c ≤ p.2) : Ch ps a c (k + 1) := by
  induction h with
  | nil a => exact .cons p m h1 h2 h3 (.nil _)
  | cons q mq q1 q2 q3 _ ih => exact .cons q mq q1 q2 q3 (ih h1 h2)
/-- a chain of other parts that have as much -/
theorem Ch.mono {ps qs : List Pt} (hs : ∀ p ∈ ps, ∃ q ∈ qs, q.1 ≤ p.1 ∧ p.2 ≤ q.2) {a c : Int} {k : Nat} (h : Ch ps a c k) : Ch qs a c k := by
  induction h with
  | nil a => exact .nil a
  | cons p mp p1 p2 p3 _ ih =>
    obtain ⟨q, mq, q1, q2⟩ := hs p mp
    exact .cons q mq (by omega) p2 (by omega) ih
theorem Ch.sub {ps qs : List Pt} (hs : ∀ p ∈ ps, p ∈ qs) {a c : Int} {k : Nat} (h : Ch ps a c k) : Ch qs a c k :=
  h.mono fun p m => ⟨p, hs p m, by omega, by omega⟩
/-- begun later, no longer -/
theorem Ch.later {ps : List Pt} {a c : Int} {k : Nat} (h : Ch ps a c k) : ∀ a', a ≤ a' → a' ≤ c → ∃ k', k' ≤ k ∧ Ch ps a' c k' := by
  induction h with
  | nil a => exact fun a' h1 h2 => ⟨0, Nat.le_refl _, by have : a' = a := by omega
                                                         subst this; exact .nil _⟩
  | @cons a b c k p mp p1 p2 p3 _ ih =>
    intro a' h1 h2
    by_cases hb : b ≤ a'
    · obtain ⟨k', l, h⟩ := ih a' hb h2
      exact ⟨k', by omega, h⟩
    · exact ⟨k + 1, Nat.le_refl _, .cons p mp (by omega) (by omega) p3 (by assumption)⟩
/-- ended earlier -/
theorem Ch.sooner {ps : List Pt} {a c : Int} {k : Nat} (h : Ch ps a c k) : ∀ c', a ≤ c' → c' ≤ c → ∃ k', k' ≤ k ∧ Ch ps a c' k' := by
  induction h with
  | nil a => exact fun c' h1 h2 => ⟨0, Nat.le_refl _, by have : c' = a := by omega
                                                         subst this; exact .nil _⟩
  | @cons a b c k p mp p1 p2 p3 _ ih =>
    intro c' h1 h2
    by_cases hb : b ≤ c'
    · obtain ⟨k', l, h⟩ := ih c' hb h2
      exact ⟨k' + 1, by omega, .cons p mp p1 p2 p3 h⟩
    · by_cases he : a = c'
      · subst he; exact ⟨0, by omega, .nil _⟩
      · exact ⟨1, by omega, .cons p mp p1 (by omega) (by omega) (.nil _)⟩
/-- a chain has each minute -/
theorem Ch.has {ps : List Pt} {a c : Int} {k : Nat} (h : Ch ps a c k) : ∀ m, a ≤ m → m < c → ∃ p ∈ ps, Hs p m := by
  induction h with
  | nil a => intro m h1 h2; omega
  | @cons a b c k p mp p1 p2 p3 _ ih =>
    intro m h1 h2
    by_cases hb : m < b
    · exact ⟨p, mp, by omega, by omega⟩
    · exact ih m (by omega) h2
/-- where each minute is had there is a chain -/
theorem Ch.all {ps : List Pt} {a : Int} : ∀ (d : Nat), (∀ m, a ≤ m → m < a + d → ∃ p ∈ ps, Hs p m) → Ch ps a (a + d) d
  | 0, _ => by simpa using Ch.nil a
  | d + 1, h => by
    obtain ⟨p, mp, p1, p2⟩ := h (a + d) (by omega) (by omega)
    have ih := Ch.all (ps := ps) d fun m h1 h2 => h m h1 (by omega)
    have := ih.snoc (c := a + d + 1) p mp p1 (by omega) (by omega)
    have e : a + ((d + 1 : Nat) : Int) = a + d + 1 := by omega
    rw [e]; exact this
/-- turned about -/
def turn (n : Int) (p : Pt) : Pt := (n - p.2, n - p.1)
theorem Ch.turned {ps : List Pt} {n a c : Int} {k : Nat} (h : Ch ps a c k) : Ch (ps.map (turn n)) (n - c) (n - a) k := by
  induction h with
  | nil a => exact .nil _
  | @cons a b c k p mp p1 p2 p3 _ ih =>
    exact ih.snoc (turn n p) (List.mem_map.mpr ⟨p, mp, rfl⟩) (by simp only [turn]; omega) (by omega) (by simp only [turn]; omega)
/-- the fewest: a least chain from nought to n -/
def Few (ps : List Pt) (n : Int) (o : Option Nat) : Prop := match o with
  | some k => Ch ps 0 n k ∧ ∀ k', Ch ps 0 n k' → k ≤ k'
  | none => ∀ k', ¬ Ch ps 0 n k'
theorem Few.uniq {ps : List Pt} {n : Int} {o o' : Option Nat} (h : Few ps n o) (h' : Few ps n o') : o = o' := by
  cases o with
  | none => cases o' with
    | none => rfl
    | some k => exact absurd h'.1 (h k)
  | some k => cases o' with
    | none => exact absurd h.1 (h' k)
    | some k' =>
      have := h.2 _ h'.1
      have := h'.2 _ h.1
      have : k = k' := by omega
      rw [this]
/-- as a number, 99 for none -/
def n99 : Option Nat → Int
  | some k => k
  | none => 99
theorem Few.le60 {ps : List Pt} {n : Int} {k : Nat} (h : Few ps n (some k)) : (k : Int) ≤ n := by
  have := h.1.le
  omega
theorem few_le {ps qs : List Pt} {n : Int} {o o' : Option Nat} (hn : n < 99) (h : Few ps n o) (h' : Few qs n o') (hs : ∀ k, Ch ps 0 n k → ∃ k', k' ≤ k ∧ Ch qs 0 n k') : n99 o' ≤ n99 o := by
  cases o with
  | none => cases o' with
    | none => exact Int.le_refl _
    | some k' =>
      have := h'.le60
      simp only [n99]; omega
  | some k =>
    obtain ⟨k', l, c⟩ := hs k h.1
    cases o' with
    | none => exact absurd c (h' k')
    | some k2 =>
      have := h'.2 _ c
      simp only [n99]; omega
theorem few_none {ps : List Pt} {n : Int} (hn : 0 ≤ n) {o : Option Nat} (h : Few ps n o) : o = none ↔ ∃ m, 0 ≤ m ∧ m < n ∧ ∀ p ∈ ps, ¬ Hs p m := by
  constructor
  · intro e
    subst e
    apply Classical.byContradiction
    intro hx
    have := Ch.all (ps := ps) (a := 0) n.toNat fun m h1 h2 => by
      apply Classical.byContradiction
      intro hy
      exact hx ⟨m, h1, by omega, fun p mp hp => hy ⟨p, mp, hp⟩⟩
    have e : (0 : Int) + (n.toNat : Int) = n := by omega
    rw [e] at this
    exact h _ this
  · rintro ⟨m, m0, m1, hm⟩
    cases o with
    | none => rfl
    | some k =>
      obtain ⟨p, mp, hp⟩ := h.1.has m m0 m1
      exact absurd hp (hm p mp)
/-! ### the greedy walk -/
/-- e is the farthest end of those that have a -/
structure Far (ps : List Pt) (a e : Int) : Prop where
  ex : ∃ p ∈ ps, Hs p a ∧ p.2 = e
  up : ∀ p ∈ ps, Hs p a → p.2 ≤ e
theorem greedy_step {ps : List Pt} {n a e : Int} {o : Option Nat} (far : Far ps a e) (hen : e ≤ n)
    (h : match o with | some k => Ch ps e n k ∧ ∀ k', Ch ps e n k' → k ≤ k' | none => ∀ k', ¬ Ch ps e n k') :
    match o with | some k => Ch ps a n (k + 1) ∧ ∀ k', Ch ps a n k' → k + 1 ≤ k' | none => ∀ k', ¬ Ch ps a n k' := by
  obtain ⟨p, mp, hp, pe⟩ := far.ex
  have hl : ∀ k', Ch ps a n k' → ∃ k'', k'' + 1 ≤ k' ∧ Ch ps e n k'' := by
    intro k' c
    cases c with
    | nil => exact absurd hp.2 (by omega)
    | @cons _ b _ k q mq q1 q2 q3 r =>
      have := far.up q mq ⟨q1, by omega⟩
      obtain ⟨k'', l, c⟩ := r.later e (by omega) hen
      exact ⟨k'', by omega, c⟩
  cases o with
  | none =>
    intro k' c
    obtain ⟨k'', _, c⟩ := hl k' c
    exact h _ c
  | some k =>
    refine ⟨.cons p mp hp.1 (by have := hp.2; omega) (by omega) h.1, fun k' c => ?_⟩
    obtain ⟨k'', l, c⟩ := hl k' c
    have := h.2 _ c
    omega
theorem greedy_bare {ps : List Pt} {n a : Int} (han : a < n) (h : ∀ p ∈ ps, ¬ Hs p a) : ∀ k', ¬ Ch ps a n k' := by
  intro k' c
  obtain ⟨p, mp, hp⟩ := c.has a (Int.le_refl _) han
  exact h p mp hp
theorem greedy_end {ps : List Pt} {n : Int} : Ch ps n n 0 ∧ ∀ k', Ch ps n n k' → 0 ≤ k' := ⟨.nil _, fun _ _ => Nat.zero_le _⟩
end Mw

/-! Mw2: one more, wider, halves, longer; runs of bare minutes. -/
namespace Mw
theorem ch_halves {ps hs : List Pt} {p : Pt} {n : Int} (hok : okQ n p) (hp : p.1 + 1 < p.2) (hsub : ∀ q ∈ ps, q = p ∨ q ∈ hs) (h1 : (p.1, p.1 + 1) ∈ hs) (h2 : (p.1 + 1, p.2) ∈ hs) {a : Int} {k : Nat} (h : Ch ps a n k) : ∃ k', k' ≤ k + 1 ∧ Ch hs a n k' := by
  have beyond : ∀ {a c : Int} {k : Nat}, Ch ps a c k → p.2 ≤ a → Ch hs a c k := by
    intro a c k h
    induction h with
    | nil a => exact fun _ => .nil a
    | @cons a b c k q mq q1 q2 q3 _ ih =>
      intro ha
      rcases hsub q mq with e | m
      · subst e; omega
      · exact .cons q m q1 q2 q3 (ih (by omega))
  induction h with
  | nil a => exact ⟨0, by omega, .nil a⟩
  | @cons a b c k q mq q1 q2 q3 r ih =>
    rcases hsub q mq with e | m
    · subst e
      obtain ⟨k'', l, c2⟩ := r.later q.2 q3 hok.2.2
      have c3 := beyond c2 (Int.le_refl _)
      by_cases ha : a < q.1 + 1
      · exact ⟨k'' + 1 + 1, by omega, .cons _ h1 (by simp only; omega) (b := q.1 + 1) ha (by simp only; omega) (.cons _ h2 (by simp only; omega) (b := q.2) (by omega) (by simp only; omega) c3)⟩
      · exact ⟨k'' + 1, by omega, .cons _ h2 (by simp only; omega) (b := q.2) (by omega) (by simp only; omega) c3⟩
    · obtain ⟨k', l, c2⟩ := ih hok
      exact ⟨k' + 1, by omega, .cons q m q1 q2 q3 c2⟩
theorem ch_longer {ps : List Pt} {n : Int} (hok : ∀ p ∈ ps, okQ n p) {a : Int} {k : Nat} (h : Ch (ps ++ [(n, n + 1)]) a (n + 1) k) (ha : a ≤ n) : ∃ k0, k0 + 1 = k ∧ Ch ps a n k0 := by
  generalize hc : n + 1 = c at h
  generalize hq : (n, c) = z at h
  induction h with
  | nil a => omega
  | @cons a b c k q mq q1 q2 q3 r ih =>
    subst hc
    subst hq
    by_cases hb : b ≤ n
    · obtain ⟨k0, e, c0⟩ := ih hb rfl rfl
      refine ⟨k0 + 1, by omega, ?_⟩
      rcases List.mem_append.mp mq with m | m
      · exact .cons q m q1 q2 q3 c0
      · simp only [List.mem_singleton] at m
        subst m
        simp only at q1 q2 q3
        omega
    · have := r.le
      have hk : k = 0 := by omega
      subst hk
      rcases List.mem_append.mp mq with m | m
      · have := (hok q m).2.2
        omega
      · simp only [List.mem_singleton] at m
        subst m
        simp only at q1 q2 q3
        have : a = n := by omega
        subst this
        exact ⟨0, rfl, .nil _⟩
theorem few_longer {ps : List Pt} {n : Int} (hn : 0 ≤ n) (hok : ∀ p ∈ ps, okQ n p) {o o' : Option Nat} (h : Few ps n o) (h' : Few (ps ++ [(n, n + 1)]) (n + 1) o') : o' = o.map (· + 1) := by
  refine Few.uniq h' ?_
  have up : ∀ k, Ch ps 0 n k → Ch (ps ++ [(n, n + 1)]) 0 (n + 1) (k + 1) := fun k c =>
    (c.sub (qs := ps ++ [(n, n + 1)]) fun p m => List.mem_append_left _ m).snoc (n, n + 1) (List.mem_append_right _ (List.mem_singleton.mpr rfl)) (by simp only; omega) (by omega) (by simp only; omega)
  cases o with
  | none =>
    intro k c
    obtain ⟨k0, _, c0⟩ := ch_longer hok c hn
    exact h _ c0
  | some k =>
    refine ⟨up k h.1, fun k' c => ?_⟩
    obtain ⟨k0, e, c0⟩ := ch_longer hok c hn
    have := h.2 _ c0
    show k + 1 ≤ k'
    omega
theorem few_turned {ps : List Pt} {n : Int} {o o' : Option Nat} (h : Few ps n o) (h' : Few (ps.map (turn n)) n o') : o' = o := by
  refine Few.uniq h' ?_
  have back : ∀ k, Ch (ps.map (turn n)) 0 n k → Ch ps 0 n k := by
    intro k c
    have := c.turned (n := n)
    rw [List.map_map] at this
    have e : (turn n ∘ turn n) = id := by
      funext p
      simp only [Function.comp, turn, id]
      ext <;> simp only <;> omega
    rw [e, List.map_id] at this
    simpa using this
  have there : ∀ k, Ch ps 0 n k → Ch (ps.map (turn n)) 0 n k := by
    intro k c
    simpa using c.turned (n := n)
  cases o with
  | none => exact fun k c => h _ (back k c)
  | some k => exact ⟨there k h.1, fun k' c => h.2 _ (back k' c)⟩
theorem few_halves {ps hs : List Pt} {p : Pt} {n : Int} (hn : n < 99) (hok : okQ n p) (hp : p.1 + 1 < p.2) (hsub : ∀ q ∈ ps, q = p ∨ q ∈ hs) (h1 : (p.1, p.1 + 1) ∈ hs) (h2 : (p.1 + 1, p.2) ∈ hs) (hm : p ∈ ps) (hback : ∀ q ∈ hs, q ∈ ps ∨ q = (p.1, p.1 + 1) ∨ q = (p.1 + 1, p.2))
    {o o' : Option Nat} (h : Few ps n o) (h' : Few hs n o') : n99 o' = n99 o ∨ n99 o' = min 99 (n99 o + 1) := by
  have back : ∀ k, Ch hs 0 n k → Ch ps 0 n k := fun k c => c.mono fun q mq => by
    rcases hback q mq with m | e | e
    · exact ⟨q, m, by omega, by omega⟩
    · subst e; exact ⟨p, hm, by simp only; omega, by simp only; omega⟩
    · subst e; exact ⟨p, hm, by simp only; omega, by simp only; omega⟩
  cases o with
  | none => cases o' with
    | none => exact .inl rfl
    | some k => exact absurd (back k h'.1) (h k)
  | some k =>
    obtain ⟨k', l, c⟩ := ch_halves hok hp hsub h1 h2 h.1
    cases o' with
    | none => exact absurd c (h' k')
    | some k2 =>
      have a1 := h'.2 _ c
      have a2 := h.2 _ (back _ h'.1)
      have := h.le60
      simp only [n99]
      omega
/-! ### runs -/
def In (l : List Pt) (m : Int) : Prop := ∃ q ∈ l, Hs q m
def Sep : Int → List Pt → Prop
  | _, [] => True
  | lo, q :: t => lo ≤ q.1 ∧ q.1 < q.2 ∧ Sep (q.2 + 1) t
theorem sep_ge : ∀ {l : List Pt} {lo : Int}, Sep lo l → ∀ q ∈ l, lo ≤ q.1 ∧ q.1 < q.2
  | [], _, _, q, m => by cases m
  | p :: t, lo, h, q, m => by
    obtain ⟨h1, h2, h3⟩ := h
    rcases List.mem_cons.mp m with e | m
    · subst e; exact ⟨h1, h2⟩
    · have := sep_ge h3 q m
      omega
theorem in_ge {l : List Pt} {lo m : Int} (h : Sep lo l) (i : In l m) : lo ≤ m := by
  obtain ⟨q, mq, hq⟩ := i
  have := sep_ge h q mq
  have := hq.1
  omega
theorem in_cons {p : Pt} {t : List Pt} {m : Int} : In (p :: t) m ↔ Hs p m ∨ In t m := by
  constructor
  · rintro ⟨q, mq, hq⟩
    rcases List.mem_cons.mp mq with e | mq
    · subst e; exact .inl hq
    · exact .inr ⟨q, mq, hq⟩
  · rintro (h | ⟨q, mq, hq⟩)
    · exact ⟨p, List.mem_cons_self, h⟩
    · exact ⟨q, List.mem_cons_of_mem _ mq, hq⟩
theorem sep_uniq : ∀ {l l' : List Pt} {lo : Int}, Sep lo l → Sep lo l' → (∀ m, In l m ↔ In l' m) → l = l'
  | [], [], _, _, _, _ => rfl
  | [], q :: t, _, _, h', e => by
    obtain ⟨_, h2, _⟩ := h'
    obtain ⟨z, mz, _⟩ := (e q.1).mpr ⟨q, List.mem_cons_self, Int.le_refl _, h2⟩
    cases mz
  | q :: t, [], _, h, _, e => by
    obtain ⟨_, h2, _⟩ := h
    obtain ⟨z, mz, _⟩ := (e q.1).mp ⟨q, List.mem_cons_self, Int.le_refl _, h2⟩
    cases mz
  | (a, b) :: t, (a', b') :: t', lo, h, h', e => by
    obtain ⟨h1, h2, h3⟩ := h
    obtain ⟨h1', h2', h3'⟩ := h'
    simp only at h1 h2 h3 h1' h2' h3'
    have i1 : ∀ m, In t m → b + 1 ≤ m := fun m i => in_ge h3 i
    have i2 : ∀ m, In t' m → b' + 1 ≤ m := fun m i => in_ge h3' i
    have e' : ∀ m, (a ≤ m ∧ m < b) ∨ In t m ↔ (a' ≤ m ∧ m < b') ∨ In t' m := fun m => by
      have := e m
      rw [in_cons, in_cons] at this
      exact this
    have ea : a = a' := by
      have x := (e' a).mp (.inl ⟨Int.le_refl _, h2⟩)
      have y := (e' a').mpr (.inl ⟨Int.le_refl _, h2'⟩)
      rcases x with x | x
      · rcases y with y | y
        · omega
        · have := i1 _ y; omega
      · have := i2 _ x
        rcases y with y | y
        · omega
        · have := i1 _ y; omega
    subst ea
    have eb : b = b' := by
      by_cases c1 : b < b'
      · have x := (e' b).mpr (.inl ⟨by omega, c1⟩)
        rcases x with x | x
        · omega
        · have := i1 _ x; omega
      · by_cases c2 : b' < b
        · have x := (e' b').mp (.inl ⟨by omega, c2⟩)
          rcases x with x | x
          · omega
          · have := i2 _ x; omega
        · omega
    subst eb
    have et : t = t' := sep_uniq h3 h3' fun m => by
      constructor
      · intro i
        have := i1 m i
        rcases (e' m).mp (.inr i) with x | x
        · omega
        · exact x
      · intro i
        have := i2 m i
        rcases (e' m).mpr (.inr i) with x | x
        · omega
        · exact x
    rw [et]
theorem sep_snoc : ∀ {l : List Pt} {lo a b : Int}, Sep lo l → lo ≤ a → (∀ q ∈ l, q.2 < a) → a < b → Sep lo (l ++ [(a, b)])
  | [], _, _, _, _, h1, _, h2 => ⟨h1, h2, trivial⟩
  | q :: t, lo, a, b, ⟨s1, s2, s3⟩, h1, h2, h3 => by
    refine ⟨s1, s2, sep_snoc s3 ?_ (fun z m => h2 z (List.mem_cons_of_mem _ m)) h3⟩
    have := h2 q List.mem_cons_self
    omega
theorem sep_init : ∀ {l r : List Pt} {lo : Int}, Sep lo (l ++ r) → Sep lo l
  | [], _, _, _ => trivial
  | q :: t, r, lo, ⟨s1, s2, s3⟩ => ⟨s1, s2, sep_init s3⟩
theorem sep_last : ∀ {l : List Pt} {lo a b : Int}, Sep lo (l ++ [(a, b)]) → (lo ≤ a ∧ a < b ∧ ∀ q ∈ l, q.2 < a)
  | [], _, _, _, ⟨s1, s2, _⟩ => ⟨s1, s2, fun _ m => by cases m⟩
  | q :: t, lo, a, b, ⟨s1, s2, s3⟩ => by
    obtain ⟨h1, h2, h3⟩ := sep_last s3
    refine ⟨by omega, h2, fun z m => ?_⟩
    rcases List.mem_cons.mp m with e | m
    · subst e; omega
    · exact h3 z m
theorem in_append {l r : List Pt} {m : Int} : In (l ++ r) m ↔ In l m ∨ In r m := by
  constructor
  · rintro ⟨q, mq, hq⟩
    rcases List.mem_append.mp mq with mq | mq
    · exact .inl ⟨q, mq, hq⟩
    · exact .inr ⟨q, mq, hq⟩
  · rintro (⟨q, mq, hq⟩ | ⟨q, mq, hq⟩)
    · exact ⟨q, List.mem_append_left _ mq, hq⟩
    · exact ⟨q, List.mem_append_right _ mq, hq⟩
theorem in_one {p : Pt} {m : Int} : In [p] m ↔ Hs p m := by
  constructor
  · rintro ⟨q, mq, hq⟩
    cases mq with
    | head => exact hq
    | tail _ m => cases m
  · exact fun h => ⟨p, List.mem_singleton.mpr rfl, h⟩
theorem hs_turn {n : Int} {p : Pt} {m : Int} : Hs (turn n p) m ↔ Hs p (n - 1 - m) := by
  simp only [Hs, turn]
  omega
theorem in_turn {n : Int} {l : List Pt} {m : Int} : In (l.map (turn n)) m ↔ In l (n - 1 - m) := by
  constructor
  · rintro ⟨q, mq, hq⟩
    obtain ⟨p, mp, rfl⟩ := List.mem_map.mp mq
    exact ⟨p, mp, hs_turn.mp hq⟩
  · rintro ⟨p, mp, hp⟩
    exact ⟨_, List.mem_map.mpr ⟨p, mp, rfl⟩, hs_turn.mpr hp⟩
theorem in_reverse {l : List Pt} {m : Int} : In l.reverse m ↔ In l m := by
  constructor
  · rintro ⟨q, mq, hq⟩
    exact ⟨q, List.mem_reverse.mp mq, hq⟩
  · rintro ⟨q, mq, hq⟩
    exact ⟨q, List.mem_reverse.mpr mq, hq⟩
theorem sep_turn {n : Int} : ∀ {l : List Pt} {lo : Int}, Sep lo l → (∀ q ∈ l, q.2 ≤ n) → Sep 0 (l.map (turn n)).reverse
  | [], _, _, _ => trivial
  | (a, b) :: t, lo, ⟨s1, s2, s3⟩, h => by
    rw [List.map_cons, List.reverse_cons]
    have hb := h (a, b) List.mem_cons_self
    simp only at s1 s2 s3 hb
    refine sep_snoc (sep_turn s3 fun q m => h q (List.mem_cons_of_mem _ m)) (by omega) (fun q m => ?_) (by omega)
    obtain ⟨p, mp, rfl⟩ := List.mem_map.mp (List.mem_reverse.mp m)
    have := sep_ge s3 p mp
    simp only [turn]
    omega
/-- the list of the runs of the minutes from nought to n that B has -/
structure Runs (B : Int → Prop) (n : Int) (l : List Pt) : Prop where
  sep : Sep 0 l
  le : ∀ q ∈ l, q.2 ≤ n
  iff : ∀ m, In l m ↔ 0 ≤ m ∧ m < n ∧ B m
theorem Runs.uniq {B : Int → Prop} {n : Int} {l l' : List Pt} (h : Runs B n l) (h' : Runs B n l') : l = l' := sep_uniq h.sep h'.sep fun m => (h.iff m).trans (h'.iff m).symm
theorem Runs.turned {B : Int → Prop} {n : Int} {l : List Pt} (h : Runs B n l) : Runs (fun m => B (n - 1 - m)) n (l.map (turn n)).reverse := by
  refine ⟨sep_turn h.sep h.le, fun q m => ?_, fun m => ?_⟩
  · obtain ⟨p, mp, rfl⟩ := List.mem_map.mp (List.mem_reverse.mp m)
    have := sep_ge h.sep p mp
    simp only [turn]; omega
  · rw [in_reverse, in_turn, h.iff]
    constructor <;> rintro ⟨h1, h2, h3⟩ <;> exact ⟨by omega, by omega, h3⟩
theorem Runs.congr {B B' : Int → Prop} {n : Int} {l : List Pt} (h : Runs B n l) (e : ∀ m, 0 ≤ m → m < n → (B m ↔ B' m)) : Runs B' n l :=
  ⟨h.sep, h.le, fun m => (h.iff m).trans ⟨fun ⟨a, b, c⟩ => ⟨a, b, (e m a b).mp c⟩, fun ⟨a, b, c⟩ => ⟨a, b, (e m a b).mpr c⟩⟩⟩
/-- one minute more -/
def runS (b : Bool) (l : List Pt) (m : Int) : List Pt := if b then l else (match l.getLast? with
  | some q => if q.2 = m then l.dropLast ++ [(q.1, m + 1)] else l ++ [(m, m + 1)]
  | none => l ++ [(m, m + 1)])
theorem runs_step {B : Int → Prop} {n : Int} {l : List Pt} (hn : 0 ≤ n) (h : Runs B n l) (b : Bool) (hb : b = true ↔ ¬ B n) : Runs B (n + 1) (runS b l n) := by
  unfold runS
  cases b with
  | true =>
    have nb : ¬ B n := hb.mp rfl
    refine ⟨h.sep, fun q m => by have := h.le q m; omega, fun m => ?_⟩
    rw [if_pos rfl, h.iff]
    constructor
    · rintro ⟨a, b, c⟩; exact ⟨a, by omega, c⟩
    · rintro ⟨a, b, c⟩
      refine ⟨a, ?_, c⟩
      by_cases e : m = n
      · subst e; exact absurd c nb
      · omega
  | false =>
    have hB : B n := Classical.byContradiction fun z => by have := hb.mpr z; cases this
    rw [if_neg (by decide)]
    have step : ∀ {l' : List Pt}, Sep 0 l' → (∀ q ∈ l', q.2 ≤ n + 1) → (∀ m, In l' m ↔ In l m ∨ m = n) → Runs B (n + 1) l' := by
      intro l' s1 s2 s3
      refine ⟨s1, s2, fun m => ?_⟩
      rw [s3, h.iff]
      constructor
      · rintro (⟨a, b, c⟩ | e)
        · exact ⟨a, by omega, c⟩
        · subst e; exact ⟨hn, by omega, hB⟩
      · rintro ⟨a, b, c⟩
        by_cases e : m = n
        · exact .inr e
        · exact .inl ⟨a, by omega, c⟩
    have new : (∀ q ∈ l, q.2 < n) → Runs B (n + 1) (l ++ [(n, n + 1)]) := by
      intro hq
      refine step (sep_snoc h.sep hn hq (by omega)) (fun q m => ?_) fun m => ?_
      · rcases List.mem_append.mp m with m | m
        · have := hq q m; omega
        · rw [List.mem_singleton.mp m]; simp only; omega
      · rw [in_append, in_one]
        simp only [Hs]
        constructor
        · rintro (h | h)
          · exact .inl h
          · exact .inr (by omega)
        · rintro (h | h)
          · exact .inl h
          · exact .inr (by omega)
    cases hl : l.getLast? with
    | none =>
      have e : l = [] := List.getLast?_eq_none_iff.mp hl
      subst e
      exact new fun q m => by cases m
    | some q =>
      obtain ⟨i, hi⟩ : ∃ i, l = i ++ [q] := List.getLast?_eq_some_iff.mp hl
      subst hi
      obtain ⟨a, b⟩ := q
      obtain ⟨l1, l2, l3⟩ := sep_last h.sep
      have hle : b ≤ n := h.le (a, b) (List.mem_append_right _ (List.mem_singleton.mpr rfl))
      by_cases e : b = n
      · subst e
        rw [List.dropLast_concat]
        simp only [if_true]
        refine step (sep_snoc (sep_init h.sep) l1 l3 (by omega)) (fun q m => ?_) fun m => ?_
        · rcases List.mem_append.mp m with m | m
          · have := l3 q m; omega
          · rw [List.mem_singleton.mp m]; simp only; omega
        · rw [in_append, in_append, in_one, in_one]
          simp only [Hs]
          constructor
          · rintro (h | h)
            · exact .inl (.inl h)
            · by_cases e : m = b
              · exact .inr e
              · exact .inl (.inr (by omega))
          · rintro ((h | h) | h)
            · exact .inl h
            · exact .inr (by omega)
            · exact .inr (by omega)
      · simp only [if_neg e]
        refine new fun q m => ?_
        rcases List.mem_append.mp m with m | m
        · have := l3 q m; omega
        · rw [List.mem_singleton.mp m]; simp only; omega
theorem runs_zero {B : Int → Prop} : Runs B 0 [] := ⟨trivial, (fun _ m => nomatch m), fun m => ⟨(fun ⟨q, mq, _⟩ => nomatch mq), fun ⟨a, b, _⟩ => by omega⟩⟩
end Mw

/-! Mw3: the fewest, minute by minute. -/
namespace Mw
theorem Ch.last {ps : List Pt} {a c : Int} {k : Nat} (h : Ch ps a c (k + 1)) : ∃ b, ∃ p ∈ ps, Ch ps a b k ∧ p.1 ≤ b ∧ b < c ∧ c ≤ p.2 := by
  generalize hk : k + 1 = j at h
  induction h generalizing k with
  | nil => omega
  | @cons a b c j p mp h1 h2 h3 r ih =>
    have hj : j = k := by omega
    subst hj
    cases j with
    | zero =>
      have e := r.zero
      subst e
      exact ⟨a, p, mp, .nil a, h1, h2, h3⟩
    | succ j =>
      obtain ⟨d, q, mq, c1, c2, c3, c4⟩ := ih rfl
      exact ⟨d, q, mq, .cons p mp h1 h2 h3 c1, c2, c3, c4⟩
def One (ps : List Pt) (b e : Int) : Prop := ∃ p ∈ ps, p.1 ≤ b ∧ e ≤ p.2
theorem few_zero {ps : List Pt} : Few ps 0 (some 0) := ⟨.nil 0, fun _ _ => Nat.zero_le _⟩
theorem few_dp_none {ps : List Pt} {e : Int} {f : Int → Option Nat} (he : 0 < e) (hf : ∀ b, 0 ≤ b → b < e → Few ps b (f b)) (h : ∀ b, 0 ≤ b → b < e → f b ≠ none → ¬ One ps b e) : Few ps e none := by
  intro k c
  cases k with
  | zero =>
    have := c.zero
    omega
  | succ k =>
    obtain ⟨b, p, mp, c1, h1, h2, h3⟩ := c.last
    have h0 := c1.le.1
    have fb := hf b h0 h2
    refine h b h0 h2 (fun z => ?_) ⟨p, mp, h1, h3⟩
    rw [z] at fb
    exact fb k c1
theorem few_dp_some {ps : List Pt} {e : Int} {f : Int → Option Nat} {k : Nat} (he : 0 < e) (hf : ∀ b, 0 ≤ b → b < e → Few ps b (f b)) {b : Int} (h0 : 0 ≤ b) (h1 : b < e) (hb : f b = some k) (ho : One ps b e)
    (hm : ∀ b' k', 0 ≤ b' → b' < e → f b' = some k' → One ps b' e → k ≤ k') : Few ps e (some (k + 1)) := by
  have fb := hf b h0 h1
  rw [hb] at fb
  obtain ⟨p, mp, p1, p2⟩ := ho
  refine ⟨fb.1.snoc p mp p1 h1 p2, fun k' c => ?_⟩
  cases k' with
  | zero =>
    have := c.zero
    omega
  | succ k' =>
    obtain ⟨b', q, mq, c1, q1, q2, q3⟩ := c.last
    have g0 := c1.le.1
    have fb' := hf b' g0 q2
    cases z : f b' with
    | none =>
      rw [z] at fb'
      exact absurd c1 (fb' k')
    | some j =>
      rw [z] at fb'
      have := fb'.2 _ c1
      have := hm b' j g0 q2 z ⟨q, mq, q1, q3⟩
      omega
/-- some parts of others -/
theorem few_sub {ps qs : List Pt} {n : Int} {o o' : Option Nat} (h : Few ps n o) (h' : Few qs n o') (hs : ∀ p ∈ qs, p ∈ ps) : ∀ k', o' = some k' → ∃ k, o = some k ∧ k ≤ k' := by
  intro k' e
  subst e
  have c := h'.1.sub hs
  cases o with
  | none => exact absurd c (h k')
  | some k => exact ⟨k, rfl, h.2 _ c⟩
theorem bits_ex (f : Nat → Bool) : ∀ n : Nat, ∃ m, m < 2 ^ n ∧ ∀ i, i < n → m.testBit i = f i
  | 0 => ⟨0, by decide, fun i h => by omega⟩
  | n + 1 => by
    obtain ⟨m, hm, hb⟩ := bits_ex f n
    have e2 : 2 ^ (n + 1) = 2 ^ n + 2 ^ n := by rw [Nat.pow_succ]; omega
    cases hf : f n with
    | false =>
      refine ⟨m, by omega, fun i hi => ?_⟩
      by_cases c : i < n
      · exact hb i c
      · have : i = n := by omega
        subst this
        rw [hf]
        exact Nat.testBit_lt_two_pow hm
    | true =>
      refine ⟨2 ^ n + m, by omega, fun i hi => ?_⟩
      by_cases c : i < n
      · rw [Nat.testBit_two_pow_add_gt c]
        exact hb i c
      · have : i = n := by omega
        subst this
        rw [hf, Nat.testBit_two_pow_add_eq, Nat.testBit_lt_two_pow hm]
        rfl
end Mw

namespace W
open PySem PySem.Spec PyProof.Rows L2 Pf
def top (i : Nat) : Stmt := PySem.Challenge.pw_partfilm_k04_whole_whole.main.body.getD i (.Pass ⟨0, 0, 0, 0⟩)
abbrev P2 (K : PySem.W.Frag) (f : List Sl → Option Sl) : R2 := fun x y H Q => Prm K f [x, y] H Q
abbrev P1 (K : PySem.W.Frag) (f : List Sl → Option Sl) : V → Hp → VK → Prop := fun x H Q => Prm K f [x] H Q
def mth (st : Stmt) (i : Nat) : Stmt := match st with
  | .ClassDef (body := b) .. => b.getD i (.Pass ⟨0, 0, 0, 0⟩)
  | _ => .Pass ⟨0, 0, 0, 0⟩
abbrev s_is_whole : Stmt := top 7
abbrev s_is_between : Stmt := top 8
abbrev s_check_length : Stmt := top 9
abbrev s_is_stretch : Stmt := top 10
abbrev s_check_parts : Stmt := top 11
abbrev s_Whole_init : Stmt := mth (top 16) 0
abbrev s_Bare_init : Stmt := mth (top 17) 0
abbrev s_has : Stmt := top 12
abbrev s_whole_of : Stmt := top 24
abbrev s_whole : Stmt := top 25
abbrev s__law_draw : Stmt := top 29
abbrev s__law_number : Stmt := top 30
abbrev s__law_cell_at : Stmt := top 28
abbrev s__law_length : Stmt := top 32
abbrev s__law_parts : Stmt := top 31
abbrev s_Bare_shows : Stmt := mth (top 17) 1
abbrev s_Whole_shows : Stmt := mth (top 16) 1
abbrev s_few : Stmt := top 26
abbrev s__law_back_right : Stmt := top 42
abbrev s__law_has : Stmt := top 33
abbrev s__law_is_bare : Stmt := top 35
abbrev s__law_bare : Stmt := top 36
abbrev s__law_is_whole : Stmt := top 34
abbrev s__law_due : Stmt := top 39
abbrev s__law_says : Stmt := top 38
abbrev s__law_numbers : Stmt := top 40
abbrev s__law_whole_number : Stmt := top 37
abbrev s__law_right : Stmt := top 41
abbrev s_law : Stmt := top 43
def cs_places : List Str := ["Whole"]
def cs_cuts : List Str := ["Whole"]
def cs_minutes : List Str := ["Whole"]
def cs_minute : List Str := ["Bare"]
def tb_Whole : List (Tyn × Bool) := [(.inr "Whole", true), (.inr "Bare", false)]
def tb_Right : List (Tyn × Bool) := [(.inr "Whole", false), (.inr "Bare", false)]
def tb_Bare : List (Tyn × Bool) := [(.inr "Whole", false), (.inr "Bare", true)]
def tb_Answer : List (Tyn × Bool) := [(.inr "Whole", true), (.inr "Bare", true)]
def tb_Wrong : List (Tyn × Bool) := [(.inr "Whole", false), (.inr "Bare", false)]
structure Fx (K : PySem.W.Frag) (mg : Str → Option Value) where
  g_isinstance : mg "isinstance" = none
  g_int : mg "int" = none
  g_bool : mg "bool" = none
  g_list : mg "list" = none
  g_len : mg "len" = none
  g_tuple : mg "tuple" = none
  g_enumerate : mg "enumerate" = none
  g_max : mg "max" = none
  g_range : mg "range" = none
  g_min : mg "min" = none
  g_any : mg "any" = none
  g_zip : mg "zip" = none
  g_all : mg "all" = none
  g_set : mg "set" = none
  g_sorted : mg "sorted" = none
  g_str : mg "str" = none
  t_LONGEST : Tok
  i_LONGEST : mg "LONGEST" = some (.int 60 t_LONGEST)
  t_MOST_PARTS : Tok
  i_MOST_PARTS : mg "MOST_PARTS" = some (.int 40 t_MOST_PARTS)
  g_is_whole : mg "is_whole" = some (.ref (He.ga K "is_whole"))
  g_is_between : mg "is_between" = some (.ref (He.ga K "is_between"))
  g_check_length : mg "check_length" = some (.ref (He.ga K "check_length"))
  g_is_stretch : mg "is_stretch" = some (.ref (He.ga K "is_stretch"))
  g_check_parts : mg "check_parts" = some (.ref (He.ga K "check_parts"))
  g_has : mg "has" = some (.ref (He.ga K "has"))
  g_whole_of : mg "whole_of" = some (.ref (He.ga K "whole_of"))
  g_whole : mg "whole" = some (.ref (He.ga K "whole"))
  g__law_draw : mg "_law_draw" = some (.ref (He.ga K "_law_draw"))
  g__law_number : mg "_law_number" = some (.ref (He.ga K "_law_number"))
  g__law_cell_at : mg "_law_cell_at" = some (.ref (He.ga K "_law_cell_at"))
  g__law_length : mg "_law_length" = some (.ref (He.ga K "_law_length"))
  g__law_parts : mg "_law_parts" = some (.ref (He.ga K "_law_parts"))
  g_few : mg "few" = some (.ref (He.ga K "few"))
  g__law_back_right : mg "_law_back_right" = some (.ref (He.ga K "_law_back_right"))
  g__law_has : mg "_law_has" = some (.ref (He.ga K "_law_has"))
  g__law_is_bare : mg "_law_is_bare" = some (.ref (He.ga K "_law_is_bare"))
  g__law_bare : mg "_law_bare" = some (.ref (He.ga K "_law_bare"))
  g__law_is_whole : mg "_law_is_whole" = some (.ref (He.ga K "_law_is_whole"))
  g__law_due : mg "_law_due" = some (.ref (He.ga K "_law_due"))
  g__law_says : mg "_law_says" = some (.ref (He.ga K "_law_says"))
  g__law_numbers : mg "_law_numbers" = some (.ref (He.ga K "_law_numbers"))
  g__law_whole_number : mg "_law_whole_number" = some (.ref (He.ga K "_law_whole_number"))
  g__law_right : mg "_law_right" = some (.ref (He.ga K "_law_right"))
  g_law : mg "law" = some (.ref (He.ga K "law"))
  g_BadLength : mg "BadLength" = some (.ref (He.ga K "BadLength"))
  g_BadParts : mg "BadParts" = some (.ref (He.ga K "BadParts"))
  g_Whole : mg "Whole" = some (.ref (He.ga K "Whole"))
  g_Bare : mg "Bare" = some (.ref (He.ga K "Bare"))
  g_Right : mg "Right" = some (.ref (He.ga K "Right"))
  g_Answer : mg "Answer" = some (.ref (He.ga K "Answer"))
  g_Wrong : mg "Wrong" = some (.ref (He.ga K "Wrong"))
  x_BadLength : PySem.W.excIn K (He.ga K "BadLength") He.veBase "ValueError.__new__" = true ∧ PySem.W.keepIn K (.ref (He.ga K "BadLength")) = true ∧ PySem.W.subIn K (.ref (He.ga K "BadLength")) (.type "BaseException") = some true ∧ PySem.W.typeIn K (.ref (He.ga K "BadLength")) = some (.type "type")
  x_BadParts : PySem.W.excIn K (He.ga K "BadParts") He.veBase "ValueError.__new__" = true ∧ PySem.W.keepIn K (.ref (He.ga K "BadParts")) = true ∧ PySem.W.subIn K (.ref (He.ga K "BadParts")) (.type "BaseException") = some true ∧ PySem.W.typeIn K (.ref (He.ga K "BadParts")) = some (.type "type")
  mk_Bare : Mk K (He.ga K "Bare") (He.ma K (He.ga K "Bare") "__init__")
  mk_Whole : Mk K (He.ga K "Whole") (He.ma K (He.ga K "Whole") "__init__")
  me_Bare_shows : Meth K (He.ga K "Bare") "shows" (He.ma K (He.ga K "Bare") "shows")
  me_Whole_shows : Meth K (He.ga K "Whole") "shows" (He.ma K (He.ga K "Whole") "shows")
  nl : noLst K = true
  c_Whole : Cls K (He.ga K "Whole")
  c_Bare : Cls K (He.ga K "Bare")
  ins : ∀ c ∈ (["Whole", "Bare"] : List Str), InsOk K c
  at_places : ∀ c ∈ cs_places, Cls K (He.ga K c) ∧ NoAttr K (He.ga K c) "places"
  at_cuts : ∀ c ∈ cs_cuts, Cls K (He.ga K c) ∧ NoAttr K (He.ga K c) "cuts"
  at_minutes : ∀ c ∈ cs_minutes, Cls K (He.ga K c) ∧ NoAttr K (He.ga K c) "minutes"
  at_minute : ∀ c ∈ cs_minute, Cls K (He.ga K c) ∧ NoAttr K (He.ga K c) "minute"
  k_Whole : tbC K "Whole" tb_Whole = true
  k_Right : tbC K "Right" tb_Right = true
  k_Bare : tbC K "Bare" tb_Bare = true
  k_Answer : tbC K "Answer" tb_Answer = true
  k_Wrong : tbC K "Wrong" tb_Wrong = true
  fd_is_whole : FuncData
  F_is_whole : FunD K "is_whole" "is_whole" (defArgs s_is_whole) (defBody s_is_whole) (defScope s_is_whole) [] [] (He.fAd K ("is_whole", none)) fd_is_whole
  fd_is_between : FuncData
  F_is_between : FunD K "is_between" "is_between" (defArgs s_is_between) (defBody s_is_between) (defScope s_is_between) [] [] (He.fAd K ("is_between", none)) fd_is_between
  fd_check_length : FuncData
  F_check_length : FunD K "check_length" "check_length" (defArgs s_check_length) (defBody s_check_length) (defScope s_check_length) [] [] (He.fAd K ("check_length", none)) fd_check_length
  fd_is_stretch : FuncData
  F_is_stretch : FunD K "is_stretch" "is_stretch" (defArgs s_is_stretch) (defBody s_is_stretch) (defScope s_is_stretch) [] [] (He.fAd K ("is_stretch", none)) fd_is_stretch
  fd_check_parts : FuncData
  F_check_parts : FunD K "check_parts" "check_parts" (defArgs s_check_parts) (defBody s_check_parts) (defScope s_check_parts) [] [] (He.fAd K ("check_parts", none)) fd_check_parts
  fd_Whole_init : FuncData
  F_Whole_init : FunD K "__init__" "Whole.__init__" (defArgs s_Whole_init) (defBody s_Whole_init) (defScope s_Whole_init) [] [] (He.fAd K ("Whole", some "__init__")) fd_Whole_init
  fd_Bare_init : FuncData
  F_Bare_init : FunD K "__init__" "Bare.__init__" (defArgs s_Bare_init) (defBody s_Bare_init) (defScope s_Bare_init) [] [] (He.fAd K ("Bare", some "__init__")) fd_Bare_init
  fd_has : FuncData
  F_has : FunD K "has" "has" (defArgs s_has) (defBody s_has) (defScope s_has) [] [] (He.fAd K ("has", none)) fd_has
  fd_whole_of : FuncData
  F_whole_of : FunD K "whole_of" "whole_of" (defArgs s_whole_of) (defBody s_whole_of) (defScope s_whole_of) [] [] (He.fAd K ("whole_of", none)) fd_whole_of
  fd_whole : FuncData
  F_whole : FunD K "whole" "whole" (defArgs s_whole) (defBody s_whole) (defScope s_whole) [] [] (He.fAd K ("whole", none)) fd_whole
  fd__law_draw : FuncData
  F__law_draw : FunD K "_law_draw" "_law_draw" (defArgs s__law_draw) (defBody s__law_draw) (defScope s__law_draw) [] [] (He.fAd K ("_law_draw", none)) fd__law_draw
  fd__law_number : FuncData
  F__law_number : FunD K "_law_number" "_law_number" (defArgs s__law_number) (defBody s__law_number) (defScope s__law_number) [] [] (He.fAd K ("_law_number", none)) fd__law_number
  fd__law_cell_at : FuncData
  F__law_cell_at : FunD K "_law_cell_at" "_law_cell_at" (defArgs s__law_cell_at) (defBody s__law_cell_at) (defScope s__law_cell_at) [] [] (He.fAd K ("_law_cell_at", none)) fd__law_cell_at
  fd__law_length : FuncData
  F__law_length : FunD K "_law_length" "_law_length" (defArgs s__law_length) (defBody s__law_length) (defScope s__law_length) [] [] (He.fAd K ("_law_length", none)) fd__law_length
  fd__law_parts : FuncData
  F__law_parts : FunD K "_law_parts" "_law_parts" (defArgs s__law_parts) (defBody s__law_parts) (defScope s__law_parts) [] [] (He.fAd K ("_law_parts", none)) fd__law_parts
  fd_Bare_shows : FuncData
  F_Bare_shows : FunD K "shows" "Bare.shows" (defArgs s_Bare_shows) (defBody s_Bare_shows) (defScope s_Bare_shows) [] [] (He.fAd K ("Bare", some "shows")) fd_Bare_shows
  fd_Whole_shows : FuncData
  F_Whole_shows : FunD K "shows" "Whole.shows" (defArgs s_Whole_shows) (defBody s_Whole_shows) (defScope s_Whole_shows) [] [] (He.fAd K ("Whole", some "shows")) fd_Whole_shows
  fd_few : FuncData
  F_few : FunD K "few" "few" (defArgs s_few) (defBody s_few) (defScope s_few) [] [] (He.fAd K ("few", none)) fd_few
  fd__law_back_right : FuncData
  F__law_back_right : FunD K "_law_back_right" "_law_back_right" (defArgs s__law_back_right) (defBody s__law_back_right) (defScope s__law_back_right) [] [] (He.fAd K ("_law_back_right", none)) fd__law_back_right
  fd__law_has : FuncData
  F__law_has : FunD K "_law_has" "_law_has" (defArgs s__law_has) (defBody s__law_has) (defScope s__law_has) [] [] (He.fAd K ("_law_has", none)) fd__law_has
  fd__law_is_bare : FuncData
  F__law_is_bare : FunD K "_law_is_bare" "_law_is_bare" (defArgs s__law_is_bare) (defBody s__law_is_bare) (defScope s__law_is_bare) [] [] (He.fAd K ("_law_is_bare", none)) fd__law_is_bare
  fd__law_bare : FuncData
  F__law_bare : FunD K "_law_bare" "_law_bare" (defArgs s__law_bare) (defBody s__law_bare) (defScope s__law_bare) [] [] (He.fAd K ("_law_bare", none)) fd__law_bare
  fd__law_is_whole : FuncData
  F__law_is_whole : FunD K "_law_is_whole" "_law_is_whole" (defArgs s__law_is_whole) (defBody s__law_is_whole) (defScope s__law_is_whole) [] [] (He.fAd K ("_law_is_whole", none)) fd__law_is_whole
  fd__law_due : FuncData
  F__law_due : FunD K "_law_due" "_law_due" (defArgs s__law_due) (defBody s__law_due) (defScope s__law_due) [] [] (He.fAd K ("_law_due", none)) fd__law_due
  fd__law_says : FuncData
  F__law_says : FunD K "_law_says" "_law_says" (defArgs s__law_says) (defBody s__law_says) (defScope s__law_says) [] [] (He.fAd K ("_law_says", none)) fd__law_says
  fd__law_numbers : FuncData
  F__law_numbers : FunD K "_law_numbers" "_law_numbers" (defArgs s__law_numbers) (defBody s__law_numbers) (defScope s__law_numbers) [] [] (He.fAd K ("_law_numbers", none)) fd__law_numbers
  fd__law_whole_number : FuncData
  F__law_whole_number : FunD K "_law_whole_number" "_law_whole_number" (defArgs s__law_whole_number) (defBody s__law_whole_number) (defScope s__law_whole_number) [] [] (He.fAd K ("_law_whole_number", none)) fd__law_whole_number
  fd__law_right : FuncData
  F__law_right : FunD K "_law_right" "_law_right" (defArgs s__law_right) (defBody s__law_right) (defScope s__law_right) [] [] (He.fAd K ("_law_right", none)) fd__law_right
  fd_law : FuncData
  F_law : FunD K "law" "law" (defArgs s_law) (defBody s_law) (defScope s_law) [] [] (He.fAd K ("law", none)) fd_law
section
variable {P : Program} {w : World} {K : PySem.W.Frag} {mg : Str → Option Value} {base : Heap}
abbrev N_is_whole : List Str := ["thing"]
theorem sc_is_whole : FnScope N_is_whole ["thing"] (defScope s_is_whole) := ⟨rfl, rfl, rfl, by decide +kernel, rfl, by decide +kernel, by decide +kernel⟩
def m_is_whole : MrS := (sRet (eAndV (eIsi tInt (eVar 0)) (eNotV (eIsi tBool (eVar 0)))))
theorem b_is_whole (fx : Fx K mg) : Binds K fx.fd_is_whole ["thing"] [] := fx.F_is_whole.bindsN fun _ _ _ _ _ _ us hl => match us, hl with | [_], _ => rfl
abbrev f_is_whole : Fm := runF 1 1 m_is_whole
theorem ok_is_whole (fx : Fx K mg) : FnOk P w K mg base (L2.CX P w) 1 (He.fAd K ("is_whole", none)) fx.fd_is_whole ["thing"] (spM K f_is_whole) :=
  fn_pure (toFun fx.F_is_whole) sc_is_whole fun cdv A outer s H E hr => ⟨_, (pxs_one (pxs_ret (px_and (px_isiB rfl fx.g_isinstance rfl fx.g_int rfl (tbB_kit b_int) (tbB_ins b_int) (px_var 0)) (px_one (px_not (px_isiB rfl fx.g_isinstance rfl fx.g_bool rfl (tbB_kit b_bool) (tbB_ins b_bool) (px_var 0)))))))⟩
abbrev N_is_between : List Str := ["thing", "least", "most"]
theorem sc_is_between : FnScope N_is_between ["thing", "least", "most"] (defScope s_is_between) := ⟨rfl, rfl, rfl, by decide +kernel, rfl, by decide +kernel, by decide +kernel⟩
def m_is_between : MrS := (sRet (eAndV (eFn f_is_whole (eCons (eVar 0) eNil)) (eChain pLe pLe (eVar 1) (eVar 0) (eVar 2))))
theorem b_is_between (fx : Fx K mg) : Binds K fx.fd_is_between ["thing", "least", "most"] [] := fx.F_is_between.bindsN fun _ _ _ _ _ _ us hl => match us, hl with | [_, _, _], _ => rfl
abbrev f_is_between : Fm := runF 3 3 m_is_between
theorem ok_is_between (fx : Fx K mg) : FnOk P w K mg base (L2.CX P w) 2 (He.fAd K ("is_between", none)) fx.fd_is_between ["thing", "least", "most"] (spM K f_is_between) :=
  fn_pure (toFun fx.F_is_between) sc_is_between fun cdv A outer s H E hr => ⟨_, (pxs_one (pxs_ret (px_and (px_fn (ok_is_whole fx) (hr.mono (by decide)) rfl fx.g_is_whole fx.F_is_whole.kp (b_is_whole fx) (passes_call (takes_of rfl rfl rfl rfl) (fun _ _ _ _ h => h)) (pxA_cons (px_var 0) pxA_nil)) (px_one (px_chain od_le od_le (px_var 1) (px_var 0) (px_var 2))))))⟩
abbrev N_check_length : List Str := ["length"]
theorem sc_check_length : FnScope N_check_length ["length"] (defScope s_check_length) := ⟨rfl, rfl, rfl, by decide +kernel, rfl, by decide +kernel, by decide +kernel⟩
def m_check_length : MrS := (sIf (eNot (eT (eFn f_is_between (eCons (eVar 0) (eCons (eC (.int 1)) (eCons (eC (.int 60)) eNil)))))) (sRaise "BadLength") sSkip)
theorem b_check_length (fx : Fx K mg) : Binds K fx.fd_check_length ["length"] [] := fx.F_check_length.bindsN fun _ _ _ _ _ _ us hl => match us, hl with | [_], _ => rfl
abbrev f_check_length : Fm := runF 1 1 m_check_length
theorem ok_check_length (fx : Fx K mg) : FnOk P w K mg base (L2.CX P w) 3 (He.fAd K ("check_length", none)) fx.fd_check_length ["length"] (spM K f_check_length) :=
  fn_pure (toFun fx.F_check_length) sc_check_length fun cdv A outer s H E hr => ⟨_, (pxs_one (pxs_if (pxT_not (pxT_val (px_fn (ok_is_between fx) (hr.mono (by decide)) rfl fx.g_is_between fx.F_is_between.kp (b_is_between fx) (passes_call (takes_of rfl rfl rfl rfl) (fun _ _ _ _ h => h)) (pxA_cons (px_var 0) (pxA_cons px_int (pxA_cons (px_gint rfl fx.i_LONGEST) pxA_nil)))))) (pxs_one (pxs_raise rfl (takes_of rfl rfl rfl rfl) fx.x_BadLength.1 fx.g_BadLength fx.x_BadLength.2.1 fx.x_BadLength.2.2.1 fx.x_BadLength.2.2.2 rfl)) pxs_nil))⟩
abbrev N_is_stretch : List Str := ["length", "begin", "end"]
theorem sc_is_stretch : FnScope N_is_stretch ["length", "begin", "end"] (defScope s_is_stretch) := ⟨rfl, rfl, rfl, by decide +kernel, rfl, by decide +kernel, by decide +kernel⟩
def m_is_stretch : MrS := (sRet (eAndV (eFn f_is_whole (eCons (eVar 1) eNil)) (eAndV (eFn f_is_whole (eCons (eVar 2) eNil)) (eChain3 pLe pLt pLe (eC (.int 0)) (eVar 1) (eVar 2) (eVar 0)))))
theorem b_is_stretch (fx : Fx K mg) : Binds K fx.fd_is_stretch ["length", "begin", "end"] [] := fx.F_is_stretch.bindsN fun _ _ _ _ _ _ us hl => match us, hl with | [_, _, _], _ => rfl
abbrev f_is_stretch : Fm := runF 3 3 m_is_stretch
theorem ok_is_stretch (fx : Fx K mg) : FnOk P w K mg base (L2.CX P w) 2 (He.fAd K ("is_stretch", none)) fx.fd_is_stretch ["length", "begin", "end"] (spM K f_is_stretch) :=
  fn_pure (toFun fx.F_is_stretch) sc_is_stretch fun cdv A outer s H E hr => ⟨_, (pxs_one (pxs_ret (px_and (px_fn (ok_is_whole fx) (hr.mono (by decide)) rfl fx.g_is_whole fx.F_is_whole.kp (b_is_whole fx) (passes_call (takes_of rfl rfl rfl rfl) (fun _ _ _ _ h => h)) (pxA_cons (px_var 1) pxA_nil)) (px_and (px_fn (ok_is_whole fx) (hr.mono (by decide)) rfl fx.g_is_whole fx.F_is_whole.kp (b_is_whole fx) (passes_call (takes_of rfl rfl rfl rfl) (fun _ _ _ _ h => h)) (pxA_cons (px_var 2) pxA_nil)) (px_one (px_chain3 od_le od_lt od_le px_int (px_var 1) (px_var 2) (px_var 0)))))))⟩
abbrev N_check_parts : List Str := ["length", "parts", "part"]
theorem sc_check_parts : FnScope N_check_parts ["length", "parts"] (defScope s_check_parts) := ⟨rfl, rfl, rfl, by decide +kernel, rfl, by decide +kernel, by decide +kernel⟩
def lb_check_parts_1 : MrS := (sIf (eOr (eNot (eT (eIsi tTuple (eVar 2)))) (eOr (eT (eOp2 pNe (eCall pLen (eCons (eVar 2) eNil)) (eC (.int 2)))) (eNot (eT (eFn f_is_stretch (eCons (eVar 0) (eCons (eOp2 pIx (eVar 2) (eC (.int 0))) (eCons (eOp2 pIx (eVar 2) (eC (.int 1))) eNil)))))))) (sRaise "BadParts") sSkip)
def m_check_parts : MrS := (sSeq (sIf (eOr (eNot (eT (eIsi tList (eVar 1)))) (eT (eOp2 pGt (eCall pLen (eCons (eVar 1) eNil)) (eC (.int 40))))) (sRaise "BadParts") sSkip)
 (sFor (iL (eVar 1)) unN [2]
 lb_check_parts_1))
theorem b_check_parts (fx : Fx K mg) : Binds K fx.fd_check_parts ["length", "parts"] [] := fx.F_check_parts.bindsN fun _ _ _ _ _ _ us hl => match us, hl with | [_, _], _ => rfl
abbrev f_check_parts : Fm := runF 2 3 m_check_parts
theorem ok_check_parts (fx : Fx K mg) : FnOk P w K mg base (L2.CX P w) 3 (He.fAd K ("check_parts", none)) fx.fd_check_parts ["length", "parts"] (spM K f_check_parts) :=
  fn_pure (toFun fx.F_check_parts) sc_check_parts fun cdv A outer s H E hr => ⟨_, (pxs_cons (pxs_if (PxW.t (pxW_or (pxT_not (pxT_val (px_isiB rfl fx.g_isinstance rfl fx.g_list rfl (tbB_kit b_list) (tbB_ins b_list) (px_var 1)))) (pxW_or1 (pxT_cmp od_gt (px_callB cd_len rfl fx.g_len rfl (pxA_cons (px_var 1) pxA_nil)) (px_gint rfl fx.i_MOST_PARTS) (nomark _))))) (pxs_one (pxs_raise rfl (takes_of rfl rfl rfl rfl) fx.x_BadParts.1 fx.g_BadParts fx.x_BadParts.2.1 fx.x_BadParts.2.2.1 fx.x_BadParts.2.2.2 rfl)) pxs_nil)
 (pxs_one (pxs_for (passes_of rfl) rfl (pxi_list (px_var 1)) (pxg_name (i := 2) sc_check_parts.nd rfl (Or.inl rfl))
 (pxs_one (pxs_if (PxW.t (pxW_or (pxT_not (pxT_val (px_isiB rfl fx.g_isinstance rfl fx.g_tuple rfl (tbB_kit b_tuple) (tbB_ins b_tuple) (px_var 2)))) (pxW_or (pxT_cmp (od_ne (u64 hr)) (px_callB cd_len rfl fx.g_len rfl (pxA_cons (px_var 2) pxA_nil)) px_int (nomark _)) (pxW_or1 (pxT_not (pxT_val (px_fn (ok_is_stretch fx) (hr.mono (by decide)) rfl fx.g_is_stretch fx.F_is_stretch.kp (b_is_stretch fx) (passes_call (takes_of rfl rfl rfl rfl) (fun _ _ _ _ h => h)) (pxA_cons (px_var 0) (pxA_cons (px_ix ixd (px_var 2) px_int (fun _ _ => rfl)) (pxA_cons (px_ix ixd (px_var 2) px_int (fun _ _ => rfl)) pxA_nil)))))))))) (pxs_one (pxs_raise rfl (takes_of rfl rfl rfl rfl) fx.x_BadParts.1 fx.g_BadParts fx.x_BadParts.2.1 fx.x_BadParts.2.2.1 fx.x_BadParts.2.2.2 rfl)) pxs_nil)))))⟩
abbrev N_Whole_init : List Str := ["self", "places", "cuts", "minutes"]
theorem sc_Whole_init : FnScope N_Whole_init ["self", "places", "cuts", "minutes"] (defScope s_Whole_init) := ⟨rfl, rfl, rfl, by decide +kernel, rfl, by decide +kernel, by decide +kernel⟩
def m_Whole_init : MrS := (sSeq (sFldS 0 cs_places "places" (eCall pList (eCons (eVar 1) eNil)))
 (sSeq (sFldS 0 cs_cuts "cuts" (eCall pList (eCons (eVar 2) eNil)))
 (sFldS 0 cs_minutes "minutes" (eCall pList (eCons (eVar 3) eNil)))))
theorem b_Whole_init (fx : Fx K mg) : Binds K fx.fd_Whole_init ["self", "places", "cuts", "minutes"] [] := fx.F_Whole_init.bindsN fun _ _ _ _ _ _ us hl => match us, hl with | [_, _, _, _], _ => rfl
abbrev f_Whole_init : Fi := runI 1 3 4 m_Whole_init
theorem ok_Whole_init (fx : Fx K mg) : FnOk P w K mg base (L2.CX P w) 1 (He.fAd K ("Whole", some "__init__")) fx.fd_Whole_init ["self", "places", "cuts", "minutes"] (spI K 1 f_Whole_init) :=
  fn_io (np := 1) (nb := 3) rfl (toFun fx.F_Whole_init) sc_Whole_init fun cdv A outer s H E hr => ⟨_, (pxs_cons (pxs_fld (i := 0) rfl (Or.inl rfl) fx.at_places (px_callTy cd_list rfl fx.g_list rfl (pxA_cons (px_var 1) pxA_nil)))
 (pxs_cons (pxs_fld (i := 0) rfl (Or.inl rfl) fx.at_cuts (px_callTy cd_list rfl fx.g_list rfl (pxA_cons (px_var 2) pxA_nil)))
 (pxs_one (pxs_fld (i := 0) rfl (Or.inl rfl) fx.at_minutes (px_callTy cd_list rfl fx.g_list rfl (pxA_cons (px_var 3) pxA_nil))))))⟩
abbrev N_Bare_init : List Str := ["self", "minute"]
theorem sc_Bare_init : FnScope N_Bare_init ["self", "minute"] (defScope s_Bare_init) := ⟨rfl, rfl, rfl, by decide +kernel, rfl, by decide +kernel, by decide +kernel⟩
def m_Bare_init : MrS := (sFldS 0 cs_minute "minute" (eVar 1))
theorem b_Bare_init (fx : Fx K mg) : Binds K fx.fd_Bare_init ["self", "minute"] [] := fx.F_Bare_init.bindsN fun _ _ _ _ _ _ us hl => match us, hl with | [_, _], _ => rfl
abbrev f_Bare_init : Fi := runI 1 1 2 m_Bare_init
theorem ok_Bare_init (fx : Fx K mg) : FnOk P w K mg base (L2.CX P w) 1 (He.fAd K ("Bare", some "__init__")) fx.fd_Bare_init ["self", "minute"] (spI K 1 f_Bare_init) :=
  fn_io (np := 1) (nb := 1) rfl (toFun fx.F_Bare_init) sc_Bare_init fun cdv A outer s H E hr => ⟨_, (pxs_one (pxs_fld (i := 0) rfl (Or.inl rfl) fx.at_minute (px_var 1)))⟩
abbrev N_has : List Str := ["part", "minute"]
theorem sc_has : FnScope N_has ["part", "minute"] (defScope s_has) := ⟨rfl, rfl, rfl, by decide +kernel, rfl, by decide +kernel, by decide +kernel⟩
def m_has : MrS := (sRet (eChain pLe pLt (eOp2 pIx (eVar 0) (eC (.int 0))) (eVar 1) (eOp2 pIx (eVar 0) (eC (.int 1)))))
theorem b_has (fx : Fx K mg) : Binds K fx.fd_has ["part", "minute"] [] := fx.F_has.bindsN fun _ _ _ _ _ _ us hl => match us, hl with | [_, _], _ => rfl
abbrev f_has : Fm := runF 2 2 m_has
theorem ok_has (fx : Fx K mg) : FnOk P w K mg base (L2.CX P w) 1 (He.fAd K ("has", none)) fx.fd_has ["part", "minute"] (spM K f_has) :=
  fn_pure (toFun fx.F_has) sc_has fun cdv A outer s H E hr => ⟨_, (pxs_one (pxs_ret (px_chain od_le od_lt (px_ix ixd (px_var 0) px_int (fun _ _ => rfl)) (px_var 1) (px_ix ixd (px_var 0) px_int (fun _ _ => rfl)))))⟩
abbrev N_whole_of : List Str := ["length", "parts", "places", "cuts", "here", "some", "place", "part"]
theorem sc_whole_of : FnScope N_whole_of ["length", "parts"] (defScope s_whole_of) := ⟨rfl, rfl, rfl, by decide +kernel, rfl, by decide +kernel, by decide +kernel⟩
def tl_whole_of_1 : MrS := (sSeq (sUnp [4, 6] (eCall pMax (eCons (eVar 5) eNil)))
 (sSeq (sApp 2 (eVar 6))
 (sApp 3 (eVar 4))))
def lb_whole_of_1 : MrS := (sSeq (sAsg 5 (eFrz (eComp (iEn (eCons (eVar 1) eNil)) (unT 2) [6, 7] (eT (eFn f_has (eCons (eVar 7) (eCons (eVar 4) eNil)))) (eFrz (eSeq .T (eCons (eOp2 pIx (eVar 7) (eC (.int 1))) (eCons (eVar 6) eNil)))) [6, 7])))
 (sSeq (sIf (eT (eOp2 pEq (eVar 5) (eFrz (eSeq .L eNil)))) (sRet (eMake "Bare" f_Bare_init (eCons (eVar 4) eNil))) sSkip)
 tl_whole_of_1))
def m_whole_of : MrS := (sSeq (sUnp [2, 3, 4] (eSeq .T (eCons (eSeq .L eNil) (eCons (eSeq .L (eCons (eC (.int 0)) eNil)) (eCons (eC (.int 0)) eNil)))))
 (sSeq (wloop (eT (eOp2 pLt (eVar 4) (eVar 0))) lb_whole_of_1 200)
 (sRet (eMake "Whole" f_Whole_init (eCons (eVar 2) (eCons (eVar 3) (eCons (eFrz (eCut (eVar 3) eNoP (eP (eOp1 pNeg (eC (.int 1)))))) eNil)))))))
theorem b_whole_of (fx : Fx K mg) : Binds K fx.fd_whole_of ["length", "parts"] [] := fx.F_whole_of.bindsN fun _ _ _ _ _ _ us hl => match us, hl with | [_, _], _ => rfl
abbrev f_whole_of : Fm := runF 2 8 m_whole_of
theorem ok_whole_of (fx : Fx K mg) : FnOk P w K mg base (L2.CX P w) 3 (He.fAd K ("whole_of", none)) fx.fd_whole_of ["length", "parts"] (spM K f_whole_of) :=
  fn_pure (toFun fx.F_whole_of) sc_whole_of fun cdv A outer s H E hr => ⟨_, (pxs_cons (pxs_unp rfl (px_tup (pxA_cons (px_lst pxA_nil) (pxA_cons (px_lst (pxA_cons px_int pxA_nil)) (pxA_cons px_int pxA_nil)))) (pxgs_cons (i := 2) sc_whole_of.nd rfl (Or.inl rfl) (pxgs_cons (i := 3) sc_whole_of.nd rfl (Or.inl rfl) (pxgs_cons (i := 4) sc_whole_of.nd rfl (Or.inr rfl) pxgs_nil))))
 (pxs_cons (pxs_while (passes_of rfl) (pxT_cmp od_lt (px_var 4) (px_var 0) (nomark _)) (pxs_cons (pxs_setLc (i := 5) (own := [("place", 6), ("part", 7)]) (g := (gTup K 2 (gNames [6, 7]))) (t := (tTest (tCall (spM K f_has) [] E0 (tCons (tVar 7) (tCons (tVar 4) tNil))))) (te := (tTup (tCons (tOp (P2 K pIx) (tVar 7) (tC (.int 1))) (tCons (tVar 6) tNil)))) rfl sc_whole_of.nd rfl rfl (pxi_enum rfl fx.g_enumerate (pxA_cons (px_var 1) pxA_nil)) (blkOk_by (N := N_whole_of) (sc := defScope s_whole_of) (by decide +kernel)) (fun _ _ _ _ _ => (pxg_tup rfl (pxgs_cons (i := 6) sc_whole_of.nd rfl (Or.inl rfl) (pxgs_cons (i := 7) sc_whole_of.nd rfl (Or.inl rfl) pxgs_nil)))) (fun _ _ _ _ _ => (pxts_one (pxT_val (px_fn (ok_has fx) (hr.mono (by decide)) rfl fx.g_has fx.F_has.kp (b_has fx) passL (pxA_cons (px_var 7) (pxA_cons (px_var 4) pxA_nil)))))) (fun _ _ _ _ _ => (px_frz (px_tup (pxA_cons (px_ix ixd (px_var 7) px_int (fun _ _ => rfl)) (pxA_cons (px_var 6) pxA_nil))))) (sw_true rfl rfl rfl (by decide +kernel)))
 (pxs_cons (pxs_if (pxT_cmp (od_eq (u64 hr)) (px_var 5) (px_frz (px_lst pxA_nil)) (nomark _)) (pxs_one (pxs_ret (px_make fx.mk_Bare (ok_Bare_init fx) (hr.mono (by decide)) rfl fx.g_Bare (b_Bare_init fx) (passes_call (takes_of rfl rfl rfl rfl) (fun _ _ _ _ h => h)) (pxA_cons (px_var 4) pxA_nil)))) pxs_nil)
 (pxs_cons (pxs_unp rfl (px_callB (cd_max rfl (u64 hr)) rfl fx.g_max rfl (pxA_cons (px_var 5) pxA_nil)) (pxgs_cons (i := 4) sc_whole_of.nd rfl (Or.inr rfl) (pxgs_cons (i := 6) sc_whole_of.nd rfl (Or.inl rfl) pxgs_nil)))
 (pxs_cons (pxs_app (i := 2) rfl (Or.inl rfl) (px_var 6))
 (pxs_one (pxs_app (i := 3) rfl (Or.inl rfl) (px_var 4))))))))
 (pxs_one (pxs_ret (px_make fx.mk_Whole (ok_Whole_init fx) (hr.mono (by decide)) rfl fx.g_Whole (b_Whole_init fx) (passes_call (takes_of rfl rfl rfl rfl) (fun _ _ _ _ h => h)) (pxA_cons (px_var 2) (pxA_cons (px_var 3) (pxA_cons (px_frz (px_cut (px_var 3) pxo_none (pxo_some (px_un ud_neg px_int)))) pxA_nil))))))))⟩
abbrev N_whole : List Str := ["length", "parts"]
theorem sc_whole : FnScope N_whole ["length", "parts"] (defScope s_whole) := ⟨rfl, rfl, rfl, by decide +kernel, rfl, by decide +kernel, by decide +kernel⟩
def m_whole : MrS := (sSeq (sExp (eFn f_check_length (eCons (eVar 0) eNil)))
 (sSeq (sExp (eFn f_check_parts (eCons (eVar 0) (eCons (eVar 1) eNil))))
 (sRet (eFn f_whole_of (eCons (eVar 0) (eCons (eVar 1) eNil))))))
theorem b_whole (fx : Fx K mg) : Binds K fx.fd_whole ["length", "parts"] [] := fx.F_whole.bindsN fun _ _ _ _ _ _ us hl => match us, hl with | [_, _], _ => rfl
abbrev f_whole : Fm := runF 2 2 m_whole
theorem ok_whole (fx : Fx K mg) : FnOk P w K mg base (L2.CX P w) 4 (He.fAd K ("whole", none)) fx.fd_whole ["length", "parts"] (spM K f_whole) :=
  fn_pure (toFun fx.F_whole) sc_whole fun cdv A outer s H E hr => ⟨_, (pxs_cons (pxs_exp (px_fn (ok_check_length fx) (hr.mono (by decide)) rfl fx.g_check_length fx.F_check_length.kp (b_check_length fx) (passes_call (takes_of rfl rfl rfl rfl) (fun _ _ _ _ h => h)) (pxA_cons (px_var 0) pxA_nil)))
 (pxs_cons (pxs_exp (px_fn (ok_check_parts fx) (hr.mono (by decide)) rfl fx.g_check_parts fx.F_check_parts.kp (b_check_parts fx) (passes_call (takes_of rfl rfl rfl rfl) (fun _ _ _ _ h => h)) (pxA_cons (px_var 0) (pxA_cons (px_var 1) pxA_nil))))
 (pxs_one (pxs_ret (px_fn (ok_whole_of fx) (hr.mono (by decide)) rfl fx.g_whole_of fx.F_whole_of.kp (b_whole_of fx) (passes_call (takes_of rfl rfl rfl rfl) (fun _ _ _ _ h => h)) (pxA_cons (px_var 0) (pxA_cons (px_var 1) pxA_nil)))))))⟩
abbrev N__law_draw : List Str := ["_law_cell", "_law_k", "_law_most", "_law_primes"]
theorem sc__law_draw : FnScope N__law_draw ["_law_cell", "_law_k", "_law_most"] (defScope s__law_draw) := ⟨rfl, rfl, rfl, by decide +kernel, rfl, by decide +kernel, by decide +kernel⟩
def m__law_draw : MrS := (sSeq (sAsg 3 (eFrz (eSeq .T (eCons (eC (.int 1000003)) (eCons (eC (.int 1000033)) (eCons (eC (.int 1000037)) (eCons (eC (.int 1000039)) (eCons (eC (.int 1000081)) (eCons (eC (.int 1000099)) (eCons (eC (.int 1000117)) (eCons (eC (.int 1000121)) (eCons (eC (.int 1000133)) (eCons (eC (.int 1000151)) (eCons (eC (.int 1000159)) (eCons (eC (.int 1000171)) (eCons (eC (.int 1000183)) (eCons (eC (.int 1000187)) (eCons (eC (.int 1000193)) (eCons (eC (.int 1000199)) eNil)))))))))))))))))))
 (sRet (eOp2 pMod (eOp2 pMod (eOp2 pAdd (eOp2 pMul (eVar 0) (eC (.int 48271))) (eOp2 pMul (eVar 1) (eC (.int 69621)))) (eOp2 pIx (eVar 3) (eOp2 pMod (eVar 1) (eC (.int 16))))) (eVar 2))))
theorem b__law_draw (fx : Fx K mg) : Binds K fx.fd__law_draw ["_law_cell", "_law_k", "_law_most"] [] := fx.F__law_draw.bindsN fun _ _ _ _ _ _ us hl => match us, hl with | [_, _, _], _ => rfl
abbrev f__law_draw : Fm := runF 3 4 m__law_draw
theorem ok__law_draw (fx : Fx K mg) : FnOk P w K mg base (L2.CX P w) 1 (He.fAd K ("_law_draw", none)) fx.fd__law_draw ["_law_cell", "_law_k", "_law_most"] (spM K f__law_draw) :=
  fn_pure (toFun fx.F__law_draw) sc__law_draw fun cdv A outer s H E hr => ⟨_, (pxs_cons (pxs_asg (i := 3) sc__law_draw.nd rfl (Or.inl rfl) (px_frz (px_tup (pxA_cons px_int (pxA_cons px_int (pxA_cons px_int (pxA_cons px_int (pxA_cons px_int (pxA_cons px_int (pxA_cons px_int (pxA_cons px_int (pxA_cons px_int (pxA_cons px_int (pxA_cons px_int (pxA_cons px_int (pxA_cons px_int (pxA_cons px_int (pxA_cons px_int (pxA_cons px_int pxA_nil)))))))))))))))))))
 (pxs_one (pxs_ret (px_bin od_mod (px_bin od_mod (px_bin od_add (px_bin od_mul (px_var 0) px_int) (px_bin od_mul (px_var 1) px_int)) (px_ix ixd (px_var 3) (px_bin od_mod (px_var 1) px_int) (fun _ _ => rfl))) (px_var 2)))))⟩
abbrev N__law_number : List Str := ["_law_cell", "_law_k", "_law_limit", "_law_cut"]
theorem sc__law_number : FnScope N__law_number ["_law_cell", "_law_k", "_law_limit"] (defScope s__law_number) := ⟨rfl, rfl, rfl, by decide +kernel, rfl, by decide +kernel, by decide +kernel⟩
def tl__law_number_1 : MrS := (sSeq (sAsg 3 (eOp2 pMod (eVar 0) (eC (.int 1000003))))
 (sRet (eOp2 pMod (eFn f__law_draw (eCons (eOp2 pMul (eOp2 pAdd (eVar 3) (eOp2 pMul (eC (.int 977)) (eVar 1))) (eOp2 pAdd (eOp2 pAdd (eVar 3) (eOp2 pMul (eC (.int 31)) (eVar 1))) (eC (.int 5)))) (eCons (eOp2 pAdd (eOp2 pMod (eVar 1) (eC (.int 9))) (eC (.int 1))) (eCons (eC (.int 999983)) eNil)))) (eVar 2))))
def m__law_number : MrS := (sSeq (sIf (eT (eOp2 pGe (eVar 0) (eOp2 pPow (eC (.int 10)) (eC (.int 18))))) (sRet (eOp2 pMod (eOp2 pDiv (eOp2 pSub (eVar 0) (eOp2 pPow (eC (.int 10)) (eC (.int 18)))) (eOp2 pIx (eFrz (eSeq .T (eCons (eC (.int 1)) (eCons (eC (.int 7)) (eCons (eC (.int 49)) (eCons (eC (.int 343)) (eCons (eC (.int 2401)) eNil))))))) (eOp2 pMod (eVar 1) (eC (.int 5))))) (eVar 2))) sSkip)
 tl__law_number_1)
theorem b__law_number (fx : Fx K mg) : Binds K fx.fd__law_number ["_law_cell", "_law_k", "_law_limit"] [] := fx.F__law_number.bindsN fun _ _ _ _ _ _ us hl => match us, hl with | [_, _, _], _ => rfl
abbrev f__law_number : Fm := runF 3 4 m__law_number
theorem ok__law_number (fx : Fx K mg) : FnOk P w K mg base (L2.CX P w) 2 (He.fAd K ("_law_number", none)) fx.fd__law_number ["_law_cell", "_law_k", "_law_limit"] (spM K f__law_number) :=
  fn_pure (toFun fx.F__law_number) sc__law_number fun cdv A outer s H E hr => ⟨_, (pxs_cons (pxs_if (pxT_cmp od_ge (px_var 0) (px_bin od_pow px_int px_int) (nomark _)) (pxs_one (pxs_ret (px_bin od_mod (px_bin od_div (px_bin od_sub (px_var 0) (px_bin od_pow px_int px_int)) (px_ix ixd (px_frz (px_tup (pxA_cons px_int (pxA_cons px_int (pxA_cons px_int (pxA_cons px_int (pxA_cons px_int pxA_nil))))))) (px_bin od_mod (px_var 1) px_int) (fun _ _ => rfl))) (px_var 2)))) pxs_nil)
 (pxs_cons (pxs_asg (i := 3) sc__law_number.nd rfl (Or.inl rfl) (px_bin od_mod (px_var 0) px_int))
 (pxs_one (pxs_ret (px_bin od_mod (px_fn (ok__law_draw fx) (hr.mono (by decide)) rfl fx.g__law_draw fx.F__law_draw.kp (b__law_draw fx) (passes_call (takes_of rfl rfl rfl rfl) (fun _ _ _ _ h => h)) (pxA_cons (px_bin od_mul (px_bin od_add (px_var 3) (px_bin od_mul px_int (px_var 1))) (px_bin od_add (px_bin od_add (px_var 3) (px_bin od_mul px_int (px_var 1))) px_int)) (pxA_cons (px_bin od_add (px_bin od_mod (px_var 1) px_int) px_int) (pxA_cons px_int pxA_nil)))) (px_var 2))))))⟩
abbrev N__law_cell_at : List Str := ["_law_script", "_law_k"]
theorem sc__law_cell_at : FnScope N__law_cell_at ["_law_script", "_law_k"] (defScope s__law_cell_at) := ⟨rfl, rfl, rfl, by decide +kernel, rfl, by decide +kernel, by decide +kernel⟩
def m__law_cell_at : MrS := (sSeq (sIf (eT (eOp2 pLt (eVar 1) (eCall pLen (eCons (eVar 0) eNil)))) (sRet (eOp2 pIx (eVar 0) (eVar 1))) sSkip)
 (sRet (eC (.int 0))))
theorem b__law_cell_at (fx : Fx K mg) : Binds K fx.fd__law_cell_at ["_law_script", "_law_k"] [] := fx.F__law_cell_at.bindsN fun _ _ _ _ _ _ us hl => match us, hl with | [_, _], _ => rfl
abbrev f__law_cell_at : Fm := runF 2 2 m__law_cell_at
theorem ok__law_cell_at (fx : Fx K mg) : FnOk P w K mg base (L2.CX P w) 1 (He.fAd K ("_law_cell_at", none)) fx.fd__law_cell_at ["_law_script", "_law_k"] (spM K f__law_cell_at) :=
  fn_pure (toFun fx.F__law_cell_at) sc__law_cell_at fun cdv A outer s H E hr => ⟨_, (pxs_cons (pxs_if (pxT_cmp od_lt (px_var 1) (px_callB cd_len rfl fx.g_len rfl (pxA_cons (px_var 0) pxA_nil)) (nomark _)) (pxs_one (pxs_ret (px_ix ixd (px_var 0) (px_var 1) (fun _ _ => rfl)))) pxs_nil)
 (pxs_one (pxs_ret px_int)))⟩
abbrev N__law_length : List Str := ["_law_script", "_law_by", "_law_most"]
theorem sc__law_length : FnScope N__law_length ["_law_script", "_law_by", "_law_most"] (defScope s__law_length) := ⟨rfl, rfl, rfl, by decide +kernel, rfl, by decide +kernel, by decide +kernel⟩
def m__law_length : MrS := (sRet (eOp2 pAdd (eC (.int 1)) (eFn f__law_number (eCons (eFn f__law_cell_at (eCons (eVar 0) (eCons (eVar 1) eNil))) (eCons (eOp2 pAdd (eVar 1) (eC (.int 1))) (eCons (eVar 2) eNil))))))
theorem b__law_length (fx : Fx K mg) : Binds K fx.fd__law_length ["_law_script", "_law_by", "_law_most"] [] := fx.F__law_length.bindsN fun _ _ _ _ _ _ us hl => match us, hl with | [_, _, _], _ => rfl
abbrev f__law_length : Fm := runF 3 3 m__law_length
theorem ok__law_length (fx : Fx K mg) : FnOk P w K mg base (L2.CX P w) 3 (He.fAd K ("_law_length", none)) fx.fd__law_length ["_law_script", "_law_by", "_law_most"] (spM K f__law_length) :=
  fn_pure (toFun fx.F__law_length) sc__law_length fun cdv A outer s H E hr => ⟨_, (pxs_one (pxs_ret (px_bin od_add px_int (px_fn (ok__law_number fx) (hr.mono (by decide)) rfl fx.g__law_number fx.F__law_number.kp (b__law_number fx) (passes_call (takes_of rfl rfl rfl rfl) (fun _ _ _ _ h => h)) (pxA_cons (px_fn (ok__law_cell_at fx) (hr.mono (by decide)) rfl fx.g__law_cell_at fx.F__law_cell_at.kp (b__law_cell_at fx) (passes_call (takes_of rfl rfl rfl rfl) (fun _ _ _ _ h => h)) (pxA_cons (px_var 0) (pxA_cons (px_var 1) pxA_nil))) (pxA_cons (px_bin od_add (px_var 1) px_int) (pxA_cons (px_var 2) pxA_nil)))))))⟩
abbrev N__law_parts : List Str := ["_law_script", "_law_by", "_law_length_here", "_law_most", "_law_lead", "_law_found", "_law_here", "_law_kind", "_law_at", "_law_cell", "_law_begin", "_law_wide"]
theorem sc__law_parts : FnScope N__law_parts ["_law_script", "_law_by", "_law_length_here", "_law_most"] (defScope s__law_parts) := ⟨rfl, rfl, rfl, by decide +kernel, rfl, by decide +kernel, by decide +kernel⟩
def tl__law_parts_1 : MrS := (sSeq (sAsg 11 (eOp2 pAdd (eC (.int 1)) (eFn f__law_number (eCons (eVar 9) (eCons (eOp2 pAdd (eVar 8) (eC (.int 2))) (eCons (eOp2 pIx (eFrz (eSeq .T (eCons (eC (.int 8)) (eCons (eC (.int 8)) (eCons (eVar 2) (eCons (eC (.int 4)) eNil)))))) (eVar 7)) eNil))))))
 (sSeq (sAsg 6 (eCall pMin (eCons (eVar 2) (eCons (eOp2 pAdd (eVar 10) (eVar 11)) eNil))))
 (sIns 5 (eCons (eFn f__law_number (eCons (eVar 9) (eCons (eOp2 pAdd (eVar 8) (eC (.int 4))) (eCons (eOp2 pAdd (eVar 8) (eC (.int 1))) eNil)))) (eCons (eFrz (eSeq .T (eCons (eVar 10) (eCons (eVar 6) eNil)))) eNil)))))
def lb__law_parts_1 : MrS := (sSeq (sAsg 9 (eOp2 pAdd (eFn f__law_cell_at (eCons (eVar 0) (eCons (eOp2 pAdd (eVar 1) (eOp2 pMod (eVar 8) (eC (.int 7)))) eNil))) (eOp2 pMul (eC (.int 19)) (eVar 8))))
 (sSeq (sAsg 10 (eFn f__law_number (eCons (eVar 9) (eCons (eOp2 pAdd (eVar 8) (eC (.int 1))) (eCons (eVar 2) eNil)))))
 (sSeq (sIf (eAnd (eT (eOp2 pLt (eVar 7) (eC (.int 2)))) (eT (eOp2 pLt (eVar 6) (eVar 2)))) (sAsg 10 (eCall pMax (eCons (eC (.int 0)) (eCons (eOp2 pSub (eVar 6) (eOp2 pMul (eVar 7) (eFn f__law_number (eCons (eVar 9) (eCons (eOp2 pAdd (eVar 8) (eC (.int 3))) (eCons (eC (.int 4)) eNil)))))) eNil)))) sSkip)
 tl__law_parts_1)))
def m__law_parts : MrS := (sSeq (sPar [4, 5, 6] (eCons (eFn f__law_cell_at (eCons (eVar 0) (eCons (eVar 1) eNil))) (eCons (eSeq .L eNil) (eCons (eC (.int 0)) eNil))))
 (sSeq (sAsg 7 (eFn f__law_number (eCons (eVar 4) (eCons (eOp2 pAdd (eVar 1) (eC (.int 2))) (eCons (eC (.int 4)) eNil)))))
 (sSeq (sFor (iR1 (eCons (eFn f__law_number (eCons (eVar 4) (eCons (eOp2 pAdd (eVar 1) (eC (.int 3))) (eCons (eOp2 pAdd (eVar 3) (eC (.int 1))) eNil)))) eNil)) unN [8]
 lb__law_parts_1)
 (sRetV 5))))
theorem b__law_parts (fx : Fx K mg) : Binds K fx.fd__law_parts ["_law_script", "_law_by", "_law_length_here", "_law_most"] [] := fx.F__law_parts.bindsN fun _ _ _ _ _ _ us hl => match us, hl with | [_, _, _, _], _ => rfl
abbrev f__law_parts : Fm := runF 4 12 m__law_parts
theorem ok__law_parts (fx : Fx K mg) : FnOk P w K mg base (L2.CX P w) 3 (He.fAd K ("_law_parts", none)) fx.fd__law_parts ["_law_script", "_law_by", "_law_length_here", "_law_most"] (spM K f__law_parts) :=
  fn_pure (toFun fx.F__law_parts) sc__law_parts fun cdv A outer s H E hr => ⟨_, (pxs_cons (pxs_par3 (i := 4) (j := 5) (l := 6) rfl sc__law_parts.nd rfl rfl rfl (by decide) (by decide) (by decide) rfl rfl rfl (pxA_cons (px_fn (ok__law_cell_at fx) (hr.mono (by decide)) rfl fx.g__law_cell_at fx.F__law_cell_at.kp (b__law_cell_at fx) (passes_call (takes_of rfl rfl rfl rfl) (fun _ _ _ _ h => h)) (pxA_cons (px_var 0) (pxA_cons (px_var 1) pxA_nil))) (pxA_cons (px_lst pxA_nil) (pxA_cons px_int pxA_nil))) (by rfl))
 (pxs_cons (pxs_asg (i := 7) sc__law_parts.nd rfl (Or.inl rfl) (px_fn (ok__law_number fx) (hr.mono (by decide)) rfl fx.g__law_number fx.F__law_number.kp (b__law_number fx) (passes_call (takes_of rfl rfl rfl rfl) (fun _ _ _ _ h => h)) (pxA_cons (px_var 4) (pxA_cons (px_bin od_add (px_var 1) px_int) (pxA_cons px_int pxA_nil)))))
 (pxs_cons (pxs_for (passes_of rfl) rfl (pxi_r1 rfl fx.g_range (pxA_cons (px_fn (ok__law_number fx) (hr.mono (by decide)) rfl fx.g__law_number fx.F__law_number.kp (b__law_number fx) (passes_call (takes_of rfl rfl rfl rfl) (fun _ _ _ _ h => h)) (pxA_cons (px_var 4) (pxA_cons (px_bin od_add (px_var 1) px_int) (pxA_cons (px_bin od_add (px_var 3) px_int) pxA_nil)))) pxA_nil)) (pxg_name (i := 8) sc__law_parts.nd rfl (Or.inl rfl))
 (pxs_cons (pxs_asg (i := 9) sc__law_parts.nd rfl (Or.inl rfl) (px_bin od_add (px_fn (ok__law_cell_at fx) (hr.mono (by decide)) rfl fx.g__law_cell_at fx.F__law_cell_at.kp (b__law_cell_at fx) (passes_call (takes_of rfl rfl rfl rfl) (fun _ _ _ _ h => h)) (pxA_cons (px_var 0) (pxA_cons (px_bin od_add (px_var 1) (px_bin od_mod (px_var 8) px_int)) pxA_nil))) (px_bin od_mul px_int (px_var 8))))
 (pxs_cons (pxs_asg (i := 10) sc__law_parts.nd rfl (Or.inl rfl) (px_fn (ok__law_number fx) (hr.mono (by decide)) rfl fx.g__law_number fx.F__law_number.kp (b__law_number fx) (passes_call (takes_of rfl rfl rfl rfl) (fun _ _ _ _ h => h)) (pxA_cons (px_var 9) (pxA_cons (px_bin od_add (px_var 8) px_int) (pxA_cons (px_var 2) pxA_nil)))))
 (pxs_cons (pxs_if (PxW.t (pxW_and (pxT_cmp od_lt (px_var 7) px_int (nomark _)) (pxW_and1 (pxT_cmp od_lt (px_var 6) (px_var 2) (nomark _))))) (pxs_one (pxs_asg (i := 10) sc__law_parts.nd rfl (Or.inl rfl) (px_callB (cd_max rfl (u64 hr)) rfl fx.g_max rfl (pxA_cons px_int (pxA_cons (px_bin od_sub (px_var 6) (px_bin od_mul (px_var 7) (px_fn (ok__law_number fx) (hr.mono (by decide)) rfl fx.g__law_number fx.F__law_number.kp (b__law_number fx) (passes_call (takes_of rfl rfl rfl rfl) (fun _ _ _ _ h => h)) (pxA_cons (px_var 9) (pxA_cons (px_bin od_add (px_var 8) px_int) (pxA_cons px_int pxA_nil)))))) pxA_nil))))) pxs_nil)
 (pxs_cons (pxs_asg (i := 11) sc__law_parts.nd rfl (Or.inl rfl) (px_bin od_add px_int (px_fn (ok__law_number fx) (hr.mono (by decide)) rfl fx.g__law_number fx.F__law_number.kp (b__law_number fx) (passes_call (takes_of rfl rfl rfl rfl) (fun _ _ _ _ h => h)) (pxA_cons (px_var 9) (pxA_cons (px_bin od_add (px_var 8) px_int) (pxA_cons (px_ix ixd (px_frz (px_tup (pxA_cons px_int (pxA_cons px_int (pxA_cons (px_var 2) (pxA_cons px_int pxA_nil)))))) (px_var 7) (fun _ _ => rfl)) pxA_nil))))))
 (pxs_cons (pxs_asg (i := 6) sc__law_parts.nd rfl (Or.inl rfl) (px_callB (cd_min rfl) rfl fx.g_min rfl (pxA_cons (px_var 2) (pxA_cons (px_bin od_add (px_var 10) (px_var 11)) pxA_nil))))
 (pxs_one (pxs_ins (i := 5) rfl (Or.inl rfl) (pxA_cons (px_fn (ok__law_number fx) (hr.mono (by decide)) rfl fx.g__law_number fx.F__law_number.kp (b__law_number fx) (passes_call (takes_of rfl rfl rfl rfl) (fun _ _ _ _ h => h)) (pxA_cons (px_var 9) (pxA_cons (px_bin od_add (px_var 8) px_int) (pxA_cons (px_bin od_add (px_var 8) px_int) pxA_nil)))) (pxA_cons (px_frz (px_tup (pxA_cons (px_var 10) (pxA_cons (px_var 6) pxA_nil)))) pxA_nil))))))))))
 (pxs_one (pxs_retV 5)))))⟩
abbrev N_Bare_shows : List Str := ["self", "length", "parts", "part"]
theorem sc_Bare_shows : FnScope N_Bare_shows ["self", "length", "parts"] (defScope s_Bare_shows) := ⟨rfl, rfl, rfl, by decide +kernel, rfl, by decide +kernel, by decide +kernel⟩
def m_Bare_shows : MrS := (sRet (eAndV (eChain pLe pLt (eC (.int 0)) (eFld cs_minute "minute" (eVar 0)) (eVar 1)) (eNotV (eCall pAny (eCons (eFrz (eComp (iL (eVar 2)) unN [3] eYes (eFn f_has (eCons (eVar 3) (eCons (eFld cs_minute "minute" (eVar 0)) eNil))) [3])) eNil)))))
theorem b_Bare_shows (fx : Fx K mg) : Binds K fx.fd_Bare_shows ["self", "length", "parts"] [] := fx.F_Bare_shows.bindsN fun _ _ _ _ _ _ us hl => match us, hl with | [_, _, _], _ => rfl
abbrev f_Bare_shows : Fm := runF 3 4 m_Bare_shows
theorem ok_Bare_shows (fx : Fx K mg) : FnOk P w K mg base (L2.CX P w) 2 (He.fAd K ("Bare", some "shows")) fx.fd_Bare_shows ["self", "length", "parts"] (spM K f_Bare_shows) :=
  fn_pure (toFun fx.F_Bare_shows) sc_Bare_shows fun cdv A outer s H E hr => ⟨_, (pxs_one (pxs_ret (px_and (px_chain od_le od_lt px_int (px_fld fx.at_minute (px_var 0)) (px_var 1)) (px_one (px_not (px_callB (cd_any rfl) rfl fx.g_any rfl (pxA_cons (px_frz (px_lc (own := [("part", 3)]) (g := (gName 3)) (t := tYes) (te := (tCall (spM K f_has) [] E0 (tCons (tVar 3) (tCons (tFld K (tVar 0) "minute") tNil)))) rfl sc_Bare_shows.nd (pxi_list (px_var 2)) (blkOk_by (N := N_Bare_shows) (sc := defScope s_Bare_shows) (by decide +kernel)) (fun _ _ _ _ _ => (pxg_name (i := 3) sc_Bare_shows.nd rfl (Or.inl rfl))) (fun _ _ _ _ _ => pxts_nil) (fun _ _ _ _ _ => (px_fn (ok_has fx) (hr.mono (by decide)) rfl fx.g_has fx.F_has.kp (b_has fx) passL (pxA_cons (px_var 3) (pxA_cons (px_fld fx.at_minute (px_var 0)) pxA_nil)))))) pxA_nil)))))))⟩
abbrev N_Whole_shows : List Str := ["self", "length", "parts", "place", "begin", "end", "minute", "part"]
theorem sc_Whole_shows : FnScope N_Whole_shows ["self", "length", "parts"] (defScope s_Whole_shows) := ⟨rfl, rfl, rfl, by decide +kernel, rfl, by decide +kernel, by decide +kernel⟩
def lb_Whole_shows_1 : MrS := (sIf (eOr (eNot (eT (eChain pLe pLt (eC (.int 0)) (eVar 3) (eCall pLen (eCons (eVar 2) eNil))))) (eOr (eT (eOp2 pGe (eVar 4) (eVar 5))) (eOr (eT (eOp2 pLt (eVar 4) (eOp2 pIx (eOp2 pIx (eVar 2) (eVar 3)) (eC (.int 0))))) (eT (eOp2 pGt (eVar 5) (eOp2 pIx (eOp2 pIx (eVar 2) (eVar 3)) (eC (.int 1)))))))) (sRet (eC (.bool false))) sSkip)
def tl_Whole_shows_1 : MrS := (sSeq (sIf (eT (eOp2 pLt (eSet gLen (eFld cs_minutes "minutes" (eVar 0))) (eCall pLen (eCons (eFld cs_minutes "minutes" (eVar 0)) eNil)))) (sRet (eC (.bool false))) sSkip)
 (sRet (eNotV (eCall pAny (eCons (eFrz (eComp (iL (eVar 2)) unN [7] eYes (eOp2 pGt (eCall pLen (eCons (eFrz (eComp (iL (eFld cs_minutes "minutes" (eVar 0))) unN [6] (eT (eFn f_has (eCons (eVar 7) (eCons (eVar 6) eNil)))) (eVar 6) [6])) eNil)) (eC (.int 1))) [7])) eNil)))))
def tl_Whole_shows_2 : MrS := (sSeq (sIf (eOr (eT (eOp2 pNe (eCall pLen (eCons (eFld cs_minutes "minutes" (eVar 0)) eNil)) (eCall pLen (eCons (eFld cs_places "places" (eVar 0)) eNil)))) (eNot (eT (eCall pAll (eCons (eFrz (eComp (iL (eFld cs_minutes "minutes" (eVar 0))) unN [6] eYes (eChain pLe pLt (eC (.int 0)) (eVar 6) (eVar 1)) [6])) eNil))))) (sRet (eC (.bool false))) sSkip)
 tl_Whole_shows_1)
def tl_Whole_shows_3 : MrS := (sSeq (sFor (iZ3 (eCons (eFld cs_places "places" (eVar 0)) (eCons (eFld cs_cuts "cuts" (eVar 0)) (eCons (eFrz (eCut (eFld cs_cuts "cuts" (eVar 0)) (eP (eC (.int 1))) eNoP)) eNil)))) (unT 3) [3, 4, 5]
 lb_Whole_shows_1)
 tl_Whole_shows_2)
def m_Whole_shows : MrS := (sSeq (sIf (eOr (eT (eOp2 pNe (eCall pLen (eCons (eFld cs_cuts "cuts" (eVar 0)) eNil)) (eOp2 pAdd (eCall pLen (eCons (eFld cs_places "places" (eVar 0)) eNil)) (eC (.int 1))))) (eOr (eT (eOp2 pNe (eOp2 pIx (eFld cs_cuts "cuts" (eVar 0)) (eC (.int 0))) (eC (.int 0)))) (eT (eOp2 pNe (eOp2 pIx (eFld cs_cuts "cuts" (eVar 0)) (eOp1 pNeg (eC (.int 1)))) (eVar 1))))) (sRet (eC (.bool false))) sSkip)
 tl_Whole_shows_3)
theorem b_Whole_shows (fx : Fx K mg) : Binds K fx.fd_Whole_shows ["self", "length", "parts"] [] := fx.F_Whole_shows.bindsN fun _ _ _ _ _ _ us hl => match us, hl with | [_, _, _], _ => rfl
abbrev f_Whole_shows : Fm := runF 3 8 m_Whole_shows
theorem ok_Whole_shows (fx : Fx K mg) : FnOk P w K mg base (L2.CX P w) 2 (He.fAd K ("Whole", some "shows")) fx.fd_Whole_shows ["self", "length", "parts"] (spM K f_Whole_shows) :=
  fn_pure (toFun fx.F_Whole_shows) sc_Whole_shows fun cdv A outer s H E hr => ⟨_, (pxs_cons (pxs_if (PxW.t (pxW_or (pxT_cmp (od_ne (u64 hr)) (px_callB cd_len rfl fx.g_len rfl (pxA_cons (px_fld fx.at_cuts (px_var 0)) pxA_nil)) (px_bin od_add (px_callB cd_len rfl fx.g_len rfl (pxA_cons (px_fld fx.at_places (px_var 0)) pxA_nil)) px_int) (nomark _)) (pxW_or (pxT_cmp (od_ne (u64 hr)) (px_ix ixd (px_fld fx.at_cuts (px_var 0)) px_int (fun _ _ => rfl)) px_int (nomark _)) (pxW_or1 (pxT_cmp (od_ne (u64 hr)) (px_ix ixd (px_fld fx.at_cuts (px_var 0)) (px_un ud_neg px_int) (fun _ _ => rfl)) (px_var 1) (nomark _)))))) (pxs_one (pxs_ret px_bl)) pxs_nil)
 (pxs_cons (pxs_for (passes_of rfl) rfl (pxi_zip3 rfl fx.g_zip (pxA_cons (px_fld fx.at_places (px_var 0)) (pxA_cons (px_fld fx.at_cuts (px_var 0)) (pxA_cons (px_frz (px_cut (px_fld fx.at_cuts (px_var 0)) (pxo_some px_int) pxo_none)) pxA_nil)))) (pxg_tup rfl (pxgs_cons (i := 3) sc_Whole_shows.nd rfl (Or.inl rfl) (pxgs_cons (i := 4) sc_Whole_shows.nd rfl (Or.inl rfl) (pxgs_cons (i := 5) sc_Whole_shows.nd rfl (Or.inl rfl) pxgs_nil))))
 (pxs_one (pxs_if (PxW.t (pxW_or (pxT_not (pxT_chain od_le od_lt px_int (px_var 3) (px_callB cd_len rfl fx.g_len rfl (pxA_cons (px_var 2) pxA_nil)))) (pxW_or (pxT_cmp od_ge (px_var 4) (px_var 5) (nomark _)) (pxW_or (pxT_cmp od_lt (px_var 4) (px_ix ixd (px_ix ixd (px_var 2) (px_var 3) (fun _ _ => rfl)) px_int (fun _ _ => rfl)) (nomark _)) (pxW_or1 (pxT_cmp od_gt (px_var 5) (px_ix ixd (px_ix ixd (px_var 2) (px_var 3) (fun _ _ => rfl)) px_int (fun _ _ => rfl)) (nomark _))))))) (pxs_one (pxs_ret px_bl)) pxs_nil)))
 (pxs_cons (pxs_if (PxW.t (pxW_or (pxT_cmp (od_ne (u64 hr)) (px_callB cd_len rfl fx.g_len rfl (pxA_cons (px_fld fx.at_minutes (px_var 0)) pxA_nil)) (px_callB cd_len rfl fx.g_len rfl (pxA_cons (px_fld fx.at_places (px_var 0)) pxA_nil)) (nomark _)) (pxW_or1 (pxT_not (pxT_val (px_callB (cd_all rfl) rfl fx.g_all rfl (pxA_cons (px_frz (px_lc (own := [("minute", 6)]) (g := (gName 6)) (t := tYes) (te := (tChain (P2 K pLe) (P2 K pLt) (tC (.int 0)) (tVar 6) (tVar 1))) rfl sc_Whole_shows.nd (pxi_list (px_fld fx.at_minutes (px_var 0))) (blkOk_by (N := N_Whole_shows) (sc := defScope s_Whole_shows) (by decide +kernel)) (fun _ _ _ _ _ => (pxg_name (i := 6) sc_Whole_shows.nd rfl (Or.inl rfl))) (fun _ _ _ _ _ => pxts_nil) (fun _ _ _ _ _ => (px_chain od_le od_lt px_int (px_var 6) (px_var 1))))) pxA_nil))))))) (pxs_one (pxs_ret px_bl)) pxs_nil)
 (pxs_cons (pxs_if (pxT_cmp od_lt (px_lenSet rfl rfl fx.g_len rfl fx.g_set (px_fld fx.at_minutes (px_var 0))) (px_callB cd_len rfl fx.g_len rfl (pxA_cons (px_fld fx.at_minutes (px_var 0)) pxA_nil)) (nomark _)) (pxs_one (pxs_ret px_bl)) pxs_nil)
 (pxs_one (pxs_ret (px_not (px_callB (cd_any rfl) rfl fx.g_any rfl (pxA_cons (px_frz (px_lc (own := [("part", 7)]) (g := (gName 7)) (t := tYes) (te := (tOp (P2 K pGt) (tCB (Prm K pLen) (tCons (tLc (iList K (tFld K (tVar 0) "minutes")) (gName 6) (tTest (tCall (spM K f_has) [] E0 (tCons (tVar 7) (tCons (tVar 6) tNil)))) (tVar 6) [6]) tNil)) (tC (.int 1)))) rfl sc_Whole_shows.nd (pxi_list (px_var 2)) (blkOk_by (N := N_Whole_shows) (sc := defScope s_Whole_shows) (by decide +kernel)) (fun _ _ _ _ _ => (pxg_name (i := 7) sc_Whole_shows.nd rfl (Or.inr rfl))) (fun _ _ _ _ _ => pxts_nil) (fun _ _ _ _ _ => (px_cmp od_gt (px_callB cd_len rfl fx.g_len rfl (pxA_cons (px_frz (px_lc (own := [("minute", 6)]) (g := (gName 6)) (t := (tTest (tCall (spM K f_has) [] E0 (tCons (tVar 7) (tCons (tVar 6) tNil))))) (te := (tVar 6)) rfl sc_Whole_shows.nd (pxi_list (px_fld fx.at_minutes (px_var 0))) (blkOk_by (by kernel_rfl)) (fun _ _ _ _ _ => (pxg_name (i := 6) sc_Whole_shows.nd rfl (Or.inl rfl))) (fun _ _ _ _ _ => (pxts_one (pxT_val (px_fn (ok_has fx) (hr.mono (by decide)) rfl fx.g_has fx.F_has.kp (b_has fx) passL (pxA_cons (px_var 7) (pxA_cons (px_var 6) pxA_nil)))))) (fun _ _ _ _ _ => (px_var 6)))) pxA_nil)) px_int (nomark _))))) pxA_nil)))))))))⟩
abbrev N_few : List Str := ["length", "parts", "found"]
theorem sc_few : FnScope N_few ["length", "parts"] (defScope s_few) := ⟨rfl, rfl, rfl, by decide +kernel, rfl, by decide +kernel, by decide +kernel⟩
def m_few : MrS := (sSeq (sExp (eFn f_check_length (eCons (eVar 0) eNil)))
 (sSeq (sExp (eFn f_check_parts (eCons (eVar 0) (eCons (eVar 1) eNil))))
 (sSeq (sAsg 2 (eFn f_whole_of (eCons (eVar 0) (eCons (eVar 1) eNil))))
 (sRet (eIf (eT (eIsi tb_Whole (eVar 2))) (eCall pLen (eCons (eFld cs_places "places" (eVar 2)) eNil)) (eC .none))))))
theorem b_few (fx : Fx K mg) : Binds K fx.fd_few ["length", "parts"] [] := fx.F_few.bindsN fun _ _ _ _ _ _ us hl => match us, hl with | [_, _], _ => rfl
abbrev f_few : Fm := runF 2 3 m_few
theorem ok_few (fx : Fx K mg) : FnOk P w K mg base (L2.CX P w) 4 (He.fAd K ("few", none)) fx.fd_few ["length", "parts"] (spM K f_few) :=
  fn_pure (toFun fx.F_few) sc_few fun cdv A outer s H E hr => ⟨_, (pxs_cons (pxs_exp (px_fn (ok_check_length fx) (hr.mono (by decide)) rfl fx.g_check_length fx.F_check_length.kp (b_check_length fx) (passes_call (takes_of rfl rfl rfl rfl) (fun _ _ _ _ h => h)) (pxA_cons (px_var 0) pxA_nil)))
 (pxs_cons (pxs_exp (px_fn (ok_check_parts fx) (hr.mono (by decide)) rfl fx.g_check_parts fx.F_check_parts.kp (b_check_parts fx) (passes_call (takes_of rfl rfl rfl rfl) (fun _ _ _ _ h => h)) (pxA_cons (px_var 0) (pxA_cons (px_var 1) pxA_nil))))
 (pxs_cons (pxs_asg (i := 2) sc_few.nd rfl (Or.inl rfl) (px_fn (ok_whole_of fx) (hr.mono (by decide)) rfl fx.g_whole_of fx.F_whole_of.kp (b_whole_of fx) (passes_call (takes_of rfl rfl rfl rfl) (fun _ _ _ _ h => h)) (pxA_cons (px_var 0) (pxA_cons (px_var 1) pxA_nil))))
 (pxs_one (pxs_ret (px_if (pxT_val (px_isiO rfl fx.g_isinstance rfl fx.g_Whole (tbC_kit fx.k_Whole) (tb_ins fx.ins (by decide +kernel)) (px_var 2))) (px_callB cd_len rfl fx.g_len rfl (pxA_cons (px_fld fx.at_places (px_var 2)) pxA_nil)) px_non))))))⟩
abbrev N__law_back_right : List Str := ["_law_found", "_law_parts_here", "_law_tells", "_law_cut", "_law_place", "_law_some", "_law_least"]
theorem sc__law_back_right : FnScope N__law_back_right [] (defScope s__law_back_right) := ⟨rfl, rfl, rfl, by decide +kernel, rfl, by decide +kernel, by decide +kernel⟩
def lb__law_back_right_1 : MrS := (sSeq (sPutP (pFld cs_cuts "cuts" (pSlot 0)) 1 (eVar 3))
 (sApp 2 (eByC "Bare" (eVar 0) (eMethZ "Bare" "shows" f_Bare_shows (eVar 0) (eCons (eC (.int 5)) (eCons (eVar 1) eNil))) (eMethZ "Whole" "shows" f_Whole_shows (eVar 0) (eCons (eC (.int 5)) (eCons (eVar 1) eNil))))))
def lb__law_back_right_2 : MrS := (sSeq (sPutP (pFld cs_places "places" (pSlot 0)) 0 (eVar 4))
 (sApp 2 (eByC "Bare" (eVar 0) (eMethZ "Bare" "shows" f_Bare_shows (eVar 0) (eCons (eC (.int 5)) (eCons (eVar 1) eNil))) (eMethZ "Whole" "shows" f_Whole_shows (eVar 0) (eCons (eC (.int 5)) (eCons (eVar 1) eNil))))))
def tl__law_back_right_1 : MrS := (sSeq (sAppP (pFld cs_minutes "minutes" (pSlot 0)) (eC (.int 0)))
 (sSeq (sApp 2 (eByC "Bare" (eVar 0) (eMethZ "Bare" "shows" f_Bare_shows (eVar 0) (eCons (eC (.int 5)) (eCons (eVar 1) eNil))) (eMethZ "Whole" "shows" f_Whole_shows (eVar 0) (eCons (eC (.int 5)) (eCons (eVar 1) eNil)))))
 (sSeq (sPopP (pFld cs_minutes "minutes" (pSlot 0)))
 (sSeq (sApp 2 (eByC "Bare" (eVar 0) (eMethZ "Bare" "shows" f_Bare_shows (eVar 0) (eCons (eC (.int 5)) (eCons (eVar 1) eNil))) (eMethZ "Whole" "shows" f_Whole_shows (eVar 0) (eCons (eC (.int 5)) (eCons (eVar 1) eNil)))))
 (sSeq (sAsg 5 (eSeq .L (eCons (eFrz (eSeq .T (eCons (eC (.int 0)) (eCons (eC (.int 2)) eNil)))) (eCons (eFrz (eSeq .T (eCons (eC (.int 2)) (eCons (eC (.int 4)) eNil)))) eNil))))
 (sSeq (sAsg 6 (eSeq .L (eCons (eFnZ f_few (eCons (eC (.int 4)) (eCons (eVar 5) eNil))) eNil)))
 (sSeq (sPut 5 (eFrz (eSeq .T (eCons (eC (.int 0)) (eCons (eC (.int 1)) eNil)))) (eC (.int 0)))
 (sSeq (sAsg 6 (eOp2 pAdd (eVar 6) (eFrz (eSeq .L (eCons (eFnZ f_few (eCons (eC (.int 4)) (eCons (eVar 5) eNil))) (eCons (eFld cs_minute "minute" (eFnZ f_whole (eCons (eC (.int 4)) (eCons (eVar 5) eNil)))) eNil))))))
 (sSeq (sPut 5 (eFrz (eSeq .T (eCons (eC (.int 0)) (eCons (eC (.int 2)) eNil)))) (eC (.int 0)))
 (sSeq (sApp 6 (eFnZ f_few (eCons (eC (.int 4)) (eCons (eVar 5) eNil))))
 (sRet (eAndV (eOp2 pEq (eVar 2) (eFrz (eSeq .L (eCons (eC (.bool false)) (eCons (eC (.bool true)) (eCons (eC (.bool false)) (eCons (eC (.bool true)) (eCons (eC (.bool false)) (eCons (eC (.bool true)) eNil))))))))) (eOp2 pEq (eVar 6) (eFrz (eSeq .L (eCons (eC (.int 2)) (eCons (eC .none) (eCons (eC (.int 1)) (eCons (eC (.int 2)) eNil)))))))))))))))))))
def tl__law_back_right_2 : MrS := (sSeq (sFor (iT (eFrz (eSeq .T (eCons (eC (.int 1)) (eCons (eC (.int 0)) eNil))))) unN [4]
 lb__law_back_right_2)
 tl__law_back_right_1)
def tl__law_back_right_3 : MrS := (sSeq (sFor (iT (eFrz (eSeq .T (eCons (eC (.int 2)) (eCons (eC (.int 3)) eNil))))) unN [3]
 lb__law_back_right_1)
 tl__law_back_right_2)
def m__law_back_right : MrS := (sSeq (sPar [0, 1, 2] (eCons (eFn f_whole (eCons (eC (.int 5)) (eCons (eFrz (eSeq .L (eCons (eFrz (eSeq .T (eCons (eC (.int 0)) (eCons (eC (.int 3)) eNil)))) (eCons (eFrz (eSeq .T (eCons (eC (.int 3)) (eCons (eC (.int 5)) eNil)))) eNil)))) eNil))) (eCons (eFrz (eSeq .L (eCons (eFrz (eSeq .T (eCons (eC (.int 0)) (eCons (eC (.int 3)) eNil)))) (eCons (eFrz (eSeq .T (eCons (eC (.int 3)) (eCons (eC (.int 5)) eNil)))) eNil)))) (eCons (eSeq .L eNil) eNil))))
 (sSeq (sIf (eOr (eT (eOp2 pNe (eFld cs_places "places" (eVar 0)) (eFrz (eSeq .L (eCons (eC (.int 0)) (eCons (eC (.int 1)) eNil)))))) (eOr (eT (eOp2 pNe (eFld cs_cuts "cuts" (eVar 0)) (eFrz (eSeq .L (eCons (eC (.int 0)) (eCons (eC (.int 3)) (eCons (eC (.int 5)) eNil))))))) (eT (eOp2 pNe (eFld cs_minute "minute" (eFn f_whole (eCons (eC (.int 5)) (eCons (eFrz (eSeq .L (eCons (eFrz (eSeq .T (eCons (eC (.int 0)) (eCons (eC (.int 2)) eNil)))) (eCons (eFrz (eSeq .T (eCons (eC (.int 3)) (eCons (eC (.int 5)) eNil)))) eNil)))) eNil)))) (eC (.int 2)))))) (sRet (eC (.bool false))) sSkip)
 tl__law_back_right_3))
theorem b__law_back_right (fx : Fx K mg) : Binds K fx.fd__law_back_right [] [] := fx.F__law_back_right.bindsN fun _ _ _ _ _ _ us hl => match us, hl with | [], _ => rfl
abbrev f__law_back_right : Fm := runF 0 7 m__law_back_right
theorem ok__law_back_right (fx : Fx K mg) : FnOk P w K mg base (L2.CX P w) 5 (He.fAd K ("_law_back_right", none)) fx.fd__law_back_right [] (spM K f__law_back_right) :=
  fn_pure (toFun fx.F__law_back_right) sc__law_back_right fun cdv A outer s H E hr => ⟨_, (pxs_cons (pxs_par3 (i := 0) (j := 1) (l := 2) rfl sc__law_back_right.nd rfl rfl rfl (by decide) (by decide) (by decide) rfl rfl rfl (pxA_cons (px_fn (ok_whole fx) (hr.mono (by decide)) rfl fx.g_whole fx.F_whole.kp (b_whole fx) (passes_call (takes_of rfl rfl rfl rfl) (fun _ _ _ _ h => h)) (pxA_cons px_int (pxA_cons (px_frz (px_lst (pxA_cons (px_frz (px_tup (pxA_cons px_int (pxA_cons px_int pxA_nil)))) (pxA_cons (px_frz (px_tup (pxA_cons px_int (pxA_cons px_int pxA_nil)))) pxA_nil)))) pxA_nil))) (pxA_cons (px_frz (px_lst (pxA_cons (px_frz (px_tup (pxA_cons px_int (pxA_cons px_int pxA_nil)))) (pxA_cons (px_frz (px_tup (pxA_cons px_int (pxA_cons px_int pxA_nil)))) pxA_nil)))) (pxA_cons (px_lst pxA_nil) pxA_nil))) (by rfl))
 (pxs_cons (pxs_if (PxW.t (pxW_or (pxT_cmp (od_ne (u64 hr)) (px_fld fx.at_places (px_var 0)) (px_frz (px_lst (pxA_cons px_int (pxA_cons px_int pxA_nil)))) (nomark _)) (pxW_or (pxT_cmp (od_ne (u64 hr)) (px_fld fx.at_cuts (px_var 0)) (px_frz (px_lst (pxA_cons px_int (pxA_cons px_int (pxA_cons px_int pxA_nil))))) (nomark _)) (pxW_or1 (pxT_cmp (od_ne (u64 hr)) (px_fld fx.at_minute (px_fn (ok_whole fx) (hr.mono (by decide)) rfl fx.g_whole fx.F_whole.kp (b_whole fx) (passes_call (takes_of rfl rfl rfl rfl) (fun _ _ _ _ h => h)) (pxA_cons px_int (pxA_cons (px_frz (px_lst (pxA_cons (px_frz (px_tup (pxA_cons px_int (pxA_cons px_int pxA_nil)))) (pxA_cons (px_frz (px_tup (pxA_cons px_int (pxA_cons px_int pxA_nil)))) pxA_nil)))) pxA_nil)))) px_int (nomark _)))))) (pxs_one (pxs_ret px_bl)) pxs_nil)
 (pxs_cons (pxs_for (passes_of rfl) rfl (pxi_tup (px_frz (px_tup (pxA_cons px_int (pxA_cons px_int pxA_nil))))) (pxg_name (i := 3) sc__law_back_right.nd rfl (Or.inl rfl))
 (pxs_cons (pxs_putP (pxp_fld fx.at_cuts (pxp_var 0)) (px_var 3))
 (pxs_one (pxs_app (i := 2) rfl (Or.inl rfl) (px_byC "Bare" (eVar 0) (px_methZ (px_var 0) fx.c_Bare fx.me_Bare_shows (ok_Bare_shows fx) (hr.mono (by decide)) (b_Bare_shows fx) (passes_call (takes_of rfl rfl rfl rfl) (fun _ _ _ _ h => h)) (pxA_cons px_int (pxA_cons (px_var 1) pxA_nil))) (px_methZ (px_var 0) fx.c_Whole fx.me_Whole_shows (ok_Whole_shows fx) (hr.mono (by decide)) (b_Whole_shows fx) (passes_call (takes_of rfl rfl rfl rfl) (fun _ _ _ _ h => h)) (pxA_cons px_int (pxA_cons (px_var 1) pxA_nil))))))))
 (pxs_cons (pxs_for (passes_of rfl) rfl (pxi_tup (px_frz (px_tup (pxA_cons px_int (pxA_cons px_int pxA_nil))))) (pxg_name (i := 4) sc__law_back_right.nd rfl (Or.inl rfl))
 (pxs_cons (pxs_putP (pxp_fld fx.at_places (pxp_var 0)) (px_var 4))
 (pxs_one (pxs_app (i := 2) rfl (Or.inl rfl) (px_byC "Bare" (eVar 0) (px_methZ (px_var 0) fx.c_Bare fx.me_Bare_shows (ok_Bare_shows fx) (hr.mono (by decide)) (b_Bare_shows fx) (passes_call (takes_of rfl rfl rfl rfl) (fun _ _ _ _ h => h)) (pxA_cons px_int (pxA_cons (px_var 1) pxA_nil))) (px_methZ (px_var 0) fx.c_Whole fx.me_Whole_shows (ok_Whole_shows fx) (hr.mono (by decide)) (b_Whole_shows fx) (passes_call (takes_of rfl rfl rfl rfl) (fun _ _ _ _ h => h)) (pxA_cons px_int (pxA_cons (px_var 1) pxA_nil))))))))
 (pxs_cons (pxs_appP (pxp_fld fx.at_minutes (pxp_var 0)) px_int)
 (pxs_cons (pxs_app (i := 2) rfl (Or.inl rfl) (px_byC "Bare" (eVar 0) (px_methZ (px_var 0) fx.c_Bare fx.me_Bare_shows (ok_Bare_shows fx) (hr.mono (by decide)) (b_Bare_shows fx) (passes_call (takes_of rfl rfl rfl rfl) (fun _ _ _ _ h => h)) (pxA_cons px_int (pxA_cons (px_var 1) pxA_nil))) (px_methZ (px_var 0) fx.c_Whole fx.me_Whole_shows (ok_Whole_shows fx) (hr.mono (by decide)) (b_Whole_shows fx) (passes_call (takes_of rfl rfl rfl rfl) (fun _ _ _ _ h => h)) (pxA_cons px_int (pxA_cons (px_var 1) pxA_nil)))))
 (pxs_cons (pxs_popP (pxp_fld fx.at_minutes (pxp_var 0)))
 (pxs_cons (pxs_app (i := 2) rfl (Or.inl rfl) (px_byC "Bare" (eVar 0) (px_methZ (px_var 0) fx.c_Bare fx.me_Bare_shows (ok_Bare_shows fx) (hr.mono (by decide)) (b_Bare_shows fx) (passes_call (takes_of rfl rfl rfl rfl) (fun _ _ _ _ h => h)) (pxA_cons px_int (pxA_cons (px_var 1) pxA_nil))) (px_methZ (px_var 0) fx.c_Whole fx.me_Whole_shows (ok_Whole_shows fx) (hr.mono (by decide)) (b_Whole_shows fx) (passes_call (takes_of rfl rfl rfl rfl) (fun _ _ _ _ h => h)) (pxA_cons px_int (pxA_cons (px_var 1) pxA_nil)))))
 (pxs_cons (pxs_asg (i := 5) sc__law_back_right.nd rfl (Or.inl rfl) (px_lst (pxA_cons (px_frz (px_tup (pxA_cons px_int (pxA_cons px_int pxA_nil)))) (pxA_cons (px_frz (px_tup (pxA_cons px_int (pxA_cons px_int pxA_nil)))) pxA_nil))))
 (pxs_cons (pxs_asg (i := 6) sc__law_back_right.nd rfl (Or.inl rfl) (px_lst (pxA_cons (px_fnZ (ok_few fx) (hr.mono (by decide)) rfl fx.g_few fx.F_few.kp (b_few fx) (passes_call (takes_of rfl rfl rfl rfl) (fun _ _ _ _ h => h)) (pxA_cons px_int (pxA_cons (px_var 5) pxA_nil))) pxA_nil)))
 (pxs_cons (pxs_put (i := 5) rfl (Or.inl rfl) (px_frz (px_tup (pxA_cons px_int (pxA_cons px_int pxA_nil)))) px_int)
 (pxs_cons (pxs_asg (i := 6) sc__law_back_right.nd rfl (Or.inl rfl) (px_bin od_add (px_var 6) (px_frz (px_lst (pxA_cons (px_fnZ (ok_few fx) (hr.mono (by decide)) rfl fx.g_few fx.F_few.kp (b_few fx) (passes_call (takes_of rfl rfl rfl rfl) (fun _ _ _ _ h => h)) (pxA_cons px_int (pxA_cons (px_var 5) pxA_nil))) (pxA_cons (px_fld fx.at_minute (px_fnZ (ok_whole fx) (hr.mono (by decide)) rfl fx.g_whole fx.F_whole.kp (b_whole fx) (passes_call (takes_of rfl rfl rfl rfl) (fun _ _ _ _ h => h)) (pxA_cons px_int (pxA_cons (px_var 5) pxA_nil)))) pxA_nil))))))
 (pxs_cons (pxs_put (i := 5) rfl (Or.inl rfl) (px_frz (px_tup (pxA_cons px_int (pxA_cons px_int pxA_nil)))) px_int)
 (pxs_cons (pxs_app (i := 6) rfl (Or.inl rfl) (px_fnZ (ok_few fx) (hr.mono (by decide)) rfl fx.g_few fx.F_few.kp (b_few fx) (passes_call (takes_of rfl rfl rfl rfl) (fun _ _ _ _ h => h)) (pxA_cons px_int (pxA_cons (px_var 5) pxA_nil))))
 (pxs_one (pxs_ret (px_and (px_cmp (od_eq (u64 hr)) (px_var 2) (px_frz (px_lst (pxA_cons px_bl (pxA_cons px_bl (pxA_cons px_bl (pxA_cons px_bl (pxA_cons px_bl (pxA_cons px_bl pxA_nil)))))))) (nomark _)) (px_one (px_cmp (od_eq (u64 hr)) (px_var 6) (px_frz (px_lst (pxA_cons px_int (pxA_cons px_non (pxA_cons px_int (pxA_cons px_int pxA_nil)))))) (nomark _))))))))))))))))))))⟩
abbrev N__law_has : List Str := ["_law_part", "_law_minute"]
theorem sc__law_has : FnScope N__law_has ["_law_part", "_law_minute"] (defScope s__law_has) := ⟨rfl, rfl, rfl, by decide +kernel, rfl, by decide +kernel, by decide +kernel⟩
def m__law_has : MrS := (sRet (eInR (eVar 1) (eCons (eOp2 pIx (eVar 0) (eC (.int 0))) (eCons (eOp2 pIx (eVar 0) (eC (.int 1))) eNil))))
theorem b__law_has (fx : Fx K mg) : Binds K fx.fd__law_has ["_law_part", "_law_minute"] [] := fx.F__law_has.bindsN fun _ _ _ _ _ _ us hl => match us, hl with | [_, _], _ => rfl
abbrev f__law_has : Fm := runF 2 2 m__law_has
theorem ok__law_has (fx : Fx K mg) : FnOk P w K mg base (L2.CX P w) 1 (He.fAd K ("_law_has", none)) fx.fd__law_has ["_law_part", "_law_minute"] (spM K f__law_has) :=
  fn_pure (toFun fx.F__law_has) sc__law_has fun cdv A outer s H E hr => ⟨_, (pxs_one (pxs_ret (px_inR rfl fx.g_range (px_var 1) (pxA_cons (px_ix ixd (px_var 0) px_int (fun _ _ => rfl)) (pxA_cons (px_ix ixd (px_var 0) px_int (fun _ _ => rfl)) pxA_nil)))))⟩
abbrev N__law_is_bare : List Str := ["_law_length_here", "_law_parts_here", "_law_minute", "_law_part"]
theorem sc__law_is_bare : FnScope N__law_is_bare ["_law_length_here", "_law_parts_here", "_law_minute"] (defScope s__law_is_bare) := ⟨rfl, rfl, rfl, by decide +kernel, rfl, by decide +kernel, by decide +kernel⟩
def m__law_is_bare : MrS := (sRet (eAndV (eChain pLe pLt (eC (.int 0)) (eVar 2) (eVar 0)) (eNotV (eCall pAny (eCons (eFrz (eComp (iL (eVar 1)) unN [3] eYes (eFn f__law_has (eCons (eVar 3) (eCons (eVar 2) eNil))) [3])) eNil)))))
theorem b__law_is_bare (fx : Fx K mg) : Binds K fx.fd__law_is_bare ["_law_length_here", "_law_parts_here", "_law_minute"] [] := fx.F__law_is_bare.bindsN fun _ _ _ _ _ _ us hl => match us, hl with | [_, _, _], _ => rfl
abbrev f__law_is_bare : Fm := runF 3 4 m__law_is_bare
theorem ok__law_is_bare (fx : Fx K mg) : FnOk P w K mg base (L2.CX P w) 2 (He.fAd K ("_law_is_bare", none)) fx.fd__law_is_bare ["_law_length_here", "_law_parts_here", "_law_minute"] (spM K f__law_is_bare) :=
  fn_pure (toFun fx.F__law_is_bare) sc__law_is_bare fun cdv A outer s H E hr => ⟨_, (pxs_one (pxs_ret (px_and (px_chain od_le od_lt px_int (px_var 2) (px_var 0)) (px_one (px_not (px_callB (cd_any rfl) rfl fx.g_any rfl (pxA_cons (px_frz (px_lc (own := [("_law_part", 3)]) (g := (gName 3)) (t := tYes) (te := (tCall (spM K f__law_has) [] E0 (tCons (tVar 3) (tCons (tVar 2) tNil)))) rfl sc__law_is_bare.nd (pxi_list (px_var 1)) (blkOk_by (N := N__law_is_bare) (sc := defScope s__law_is_bare) (by decide +kernel)) (fun _ _ _ _ _ => (pxg_name (i := 3) sc__law_is_bare.nd rfl (Or.inl rfl))) (fun _ _ _ _ _ => pxts_nil) (fun _ _ _ _ _ => (px_fn (ok__law_has fx) (hr.mono (by decide)) rfl fx.g__law_has fx.F__law_has.kp (b__law_has fx) passL (pxA_cons (px_var 3) (pxA_cons (px_var 2) pxA_nil)))))) pxA_nil)))))))⟩
abbrev N__law_bare : List Str := ["_law_length_here", "_law_parts_here", "_law_minute"]
theorem sc__law_bare : FnScope N__law_bare ["_law_length_here", "_law_parts_here"] (defScope s__law_bare) := ⟨rfl, rfl, rfl, by decide +kernel, rfl, by decide +kernel, by decide +kernel⟩
def m__law_bare : MrS := (sRet (eFrz (eComp (iR1 (eCons (eVar 0) eNil)) unN [2] (eT (eFn f__law_is_bare (eCons (eVar 0) (eCons (eVar 1) (eCons (eVar 2) eNil))))) (eVar 2) [2])))
theorem b__law_bare (fx : Fx K mg) : Binds K fx.fd__law_bare ["_law_length_here", "_law_parts_here"] [] := fx.F__law_bare.bindsN fun _ _ _ _ _ _ us hl => match us, hl with | [_, _], _ => rfl
abbrev f__law_bare : Fm := runF 2 3 m__law_bare
theorem ok__law_bare (fx : Fx K mg) : FnOk P w K mg base (L2.CX P w) 3 (He.fAd K ("_law_bare", none)) fx.fd__law_bare ["_law_length_here", "_law_parts_here"] (spM K f__law_bare) :=
  fn_pure (toFun fx.F__law_bare) sc__law_bare fun cdv A outer s H E hr => ⟨_, (pxs_one (pxs_ret (px_frz (px_lc (own := [("_law_minute", 2)]) (g := (gName 2)) (t := (tTest (tCall (spM K f__law_is_bare) [] E0 (tCons (tVar 0) (tCons (tVar 1) (tCons (tVar 2) tNil)))))) (te := (tVar 2)) rfl sc__law_bare.nd (pxi_r1 rfl fx.g_range (pxA_cons (px_var 0) pxA_nil)) (blkOk_by (N := N__law_bare) (sc := defScope s__law_bare) (by decide +kernel)) (fun _ _ _ _ _ => (pxg_name (i := 2) sc__law_bare.nd rfl (Or.inl rfl))) (fun _ _ _ _ _ => (pxts_one (pxT_val (px_fn (ok__law_is_bare fx) (hr.mono (by decide)) rfl fx.g__law_is_bare fx.F__law_is_bare.kp (b__law_is_bare fx) passL (pxA_cons (px_var 0) (pxA_cons (px_var 1) (pxA_cons (px_var 2) pxA_nil))))))) (fun _ _ _ _ _ => (px_var 2))))))⟩
abbrev N__law_is_whole : List Str := ["_law_length_here", "_law_parts_here", "_law_places", "_law_cuts", "_law_minutes", "_law_at", "_law_place", "_law_begin", "_law_end", "_law_one", "_law_part"]
theorem sc__law_is_whole : FnScope N__law_is_whole ["_law_length_here", "_law_parts_here", "_law_places", "_law_cuts", "_law_minutes"] (defScope s__law_is_whole) := ⟨rfl, rfl, rfl, by decide +kernel, rfl, by decide +kernel, by decide +kernel⟩
def tl__law_is_whole_1 : MrS := (sSeq (sUnp [7, 8] (eOp2 pIx (eVar 1) (eVar 6)))
 (sIf (eNot (eT (eChain3 pLe pLt pLe (eVar 7) (eOp2 pIx (eVar 3) (eVar 5)) (eOp2 pIx (eVar 3) (eOp2 pAdd (eVar 5) (eC (.int 1)))) (eVar 8)))) (sRet (eC (.bool false))) sSkip))
def lb__law_is_whole_1 : MrS := (sSeq (sIf (eNot (eT (eChain pLe pLt (eC (.int 0)) (eVar 6) (eCall pLen (eCons (eVar 1) eNil))))) (sRet (eC (.bool false))) sSkip)
 tl__law_is_whole_1)
def tl__law_is_whole_2 : MrS := (sSeq (sIf (eOr (eT (eOp2 pNe (eFrz (eSet gSrt (eVar 4))) (eFrz (eCall pSrt (eCons (eVar 4) eNil))))) (eT (eCall pAny (eCons (eFrz (eComp (iL (eVar 4)) unN [9] eYes (eNotV (eChain pLe pLt (eC (.int 0)) (eVar 9) (eVar 0))) [9])) eNil)))) (sRet (eC (.bool false))) sSkip)
 (sRet (eCall pAll (eCons (eFrz (eComp (iL (eVar 1)) unN [10] eYes (eOp2 pLt (eCall pLen (eCons (eFrz (eComp (iL (eVar 4)) unN [9] (eT (eFn f__law_has (eCons (eVar 10) (eCons (eVar 9) eNil)))) (eVar 9) [9])) eNil)) (eC (.int 2))) [10])) eNil))))
def tl__law_is_whole_3 : MrS := (sSeq (sFor (iEn (eCons (eVar 2) eNil)) (unT 2) [5, 6]
 lb__law_is_whole_1)
 tl__law_is_whole_2)
def m__law_is_whole : MrS := (sSeq (sIf (eT (eOp2 pNe (eFrz (eSeq .L (eCons (eOp2 pIx (eVar 3) (eC (.int 0))) (eCons (eOp2 pIx (eVar 3) (eOp1 pNeg (eC (.int 1)))) (eCons (eCall pLen (eCons (eVar 3) eNil)) (eCons (eCall pLen (eCons (eVar 4) eNil)) eNil)))))) (eFrz (eSeq .L (eCons (eC (.int 0)) (eCons (eVar 0) (eCons (eOp2 pAdd (eCall pLen (eCons (eVar 2) eNil)) (eC (.int 1))) (eCons (eCall pLen (eCons (eVar 2) eNil)) eNil)))))))) (sRet (eC (.bool false))) sSkip)
 tl__law_is_whole_3)
theorem b__law_is_whole (fx : Fx K mg) : Binds K fx.fd__law_is_whole ["_law_length_here", "_law_parts_here", "_law_places", "_law_cuts", "_law_minutes"] [] := fx.F__law_is_whole.bindsN fun _ _ _ _ _ _ us hl => match us, hl with | [_, _, _, _, _], _ => rfl
abbrev f__law_is_whole : Fm := runF 5 11 m__law_is_whole
theorem ok__law_is_whole (fx : Fx K mg) : FnOk P w K mg base (L2.CX P w) 2 (He.fAd K ("_law_is_whole", none)) fx.fd__law_is_whole ["_law_length_here", "_law_parts_here", "_law_places", "_law_cuts", "_law_minutes"] (spM K f__law_is_whole) :=
  fn_pure (toFun fx.F__law_is_whole) sc__law_is_whole fun cdv A outer s H E hr => ⟨_, (pxs_cons (pxs_if (pxT_cmp (od_ne (u64 hr)) (px_frz (px_lst (pxA_cons (px_ix ixd (px_var 3) px_int (fun _ _ => rfl)) (pxA_cons (px_ix ixd (px_var 3) (px_un ud_neg px_int) (fun _ _ => rfl)) (pxA_cons (px_callB cd_len rfl fx.g_len rfl (pxA_cons (px_var 3) pxA_nil)) (pxA_cons (px_callB cd_len rfl fx.g_len rfl (pxA_cons (px_var 4) pxA_nil)) pxA_nil)))))) (px_frz (px_lst (pxA_cons px_int (pxA_cons (px_var 0) (pxA_cons (px_bin od_add (px_callB cd_len rfl fx.g_len rfl (pxA_cons (px_var 2) pxA_nil)) px_int) (pxA_cons (px_callB cd_len rfl fx.g_len rfl (pxA_cons (px_var 2) pxA_nil)) pxA_nil)))))) (nomark _)) (pxs_one (pxs_ret px_bl)) pxs_nil)
 (pxs_cons (pxs_for (passes_of rfl) rfl (pxi_enum rfl fx.g_enumerate (pxA_cons (px_var 2) pxA_nil)) (pxg_tup rfl (pxgs_cons (i := 5) sc__law_is_whole.nd rfl (Or.inl rfl) (pxgs_cons (i := 6) sc__law_is_whole.nd rfl (Or.inl rfl) pxgs_nil)))
 (pxs_cons (pxs_if (pxT_not (pxT_chain od_le od_lt px_int (px_var 6) (px_callB cd_len rfl fx.g_len rfl (pxA_cons (px_var 1) pxA_nil)))) (pxs_one (pxs_ret px_bl)) pxs_nil)
 (pxs_cons (pxs_unp rfl (px_ix ixd (px_var 1) (px_var 6) (fun _ _ => rfl)) (pxgs_cons (i := 7) sc__law_is_whole.nd rfl (Or.inl rfl) (pxgs_cons (i := 8) sc__law_is_whole.nd rfl (Or.inl rfl) pxgs_nil)))
 (pxs_one (pxs_if (pxT_not (pxT_chain3 od_le od_lt od_le (px_var 7) (px_ix ixd (px_var 3) (px_var 5) (fun _ _ => rfl)) (px_ix ixd (px_var 3) (px_bin od_add (px_var 5) px_int) (fun _ _ => rfl)) (px_var 8))) (pxs_one (pxs_ret px_bl)) pxs_nil)))))
 (pxs_cons (pxs_if (PxW.t (pxW_or (pxT_cmp (od_ne (u64 hr)) (px_frz (px_srtSet rfl rfl fx.g_sorted rfl fx.g_set (px_var 4))) (px_frz (px_callB cd_sorted rfl fx.g_sorted rfl (pxA_cons (px_var 4) pxA_nil))) (nomark _)) (pxW_or1 (pxT_val (px_callB (cd_any rfl) rfl fx.g_any rfl (pxA_cons (px_frz (px_lc (own := [("_law_one", 9)]) (g := (gName 9)) (t := tYes) (te := (tNotV (tChain (P2 K pLe) (P2 K pLt) (tC (.int 0)) (tVar 9) (tVar 0)))) rfl sc__law_is_whole.nd (pxi_list (px_var 4)) (blkOk_by (N := N__law_is_whole) (sc := defScope s__law_is_whole) (by decide +kernel)) (fun _ _ _ _ _ => (pxg_name (i := 9) sc__law_is_whole.nd rfl (Or.inl rfl))) (fun _ _ _ _ _ => pxts_nil) (fun _ _ _ _ _ => (px_not (px_chain od_le od_lt px_int (px_var 9) (px_var 0)))))) pxA_nil)))))) (pxs_one (pxs_ret px_bl)) pxs_nil)
 (pxs_one (pxs_ret (px_callB (cd_all rfl) rfl fx.g_all rfl (pxA_cons (px_frz (px_lc (own := [("_law_part", 10)]) (g := (gName 10)) (t := tYes) (te := (tOp (P2 K pLt) (tCB (Prm K pLen) (tCons (tLc (iList K (tVar 4)) (gName 9) (tTest (tCall (spM K f__law_has) [] E0 (tCons (tVar 10) (tCons (tVar 9) tNil)))) (tVar 9) [9]) tNil)) (tC (.int 2)))) rfl sc__law_is_whole.nd (pxi_list (px_var 1)) (blkOk_by (N := N__law_is_whole) (sc := defScope s__law_is_whole) (by decide +kernel)) (fun _ _ _ _ _ => (pxg_name (i := 10) sc__law_is_whole.nd rfl (Or.inr rfl))) (fun _ _ _ _ _ => pxts_nil) (fun _ _ _ _ _ => (px_cmp od_lt (px_callB cd_len rfl fx.g_len rfl (pxA_cons (px_frz (px_lc (own := [("_law_one", 9)]) (g := (gName 9)) (t := (tTest (tCall (spM K f__law_has) [] E0 (tCons (tVar 10) (tCons (tVar 9) tNil))))) (te := (tVar 9)) rfl sc__law_is_whole.nd (pxi_list (px_var 4)) (blkOk_by (by kernel_rfl)) (fun _ _ _ _ _ => (pxg_name (i := 9) sc__law_is_whole.nd rfl (Or.inl rfl))) (fun _ _ _ _ _ => (pxts_one (pxT_val (px_fn (ok__law_has fx) (hr.mono (by decide)) rfl fx.g__law_has fx.F__law_has.kp (b__law_has fx) passL (pxA_cons (px_var 10) (pxA_cons (px_var 9) pxA_nil)))))) (fun _ _ _ _ _ => (px_var 9)))) pxA_nil)) px_int (nomark _))))) pxA_nil)))))))⟩
abbrev N__law_due : List Str := ["_law_length_here", "_law_parts_here", "_law_found"]
theorem sc__law_due : FnScope N__law_due ["_law_length_here", "_law_parts_here", "_law_found"] (defScope s__law_due) := ⟨rfl, rfl, rfl, by decide +kernel, rfl, by decide +kernel, by decide +kernel⟩
def m__law_due : MrS := (sSeq (sIf (eT (eIsi tb_Whole (eVar 2))) (sRet (eFn f__law_is_whole (eCons (eVar 0) (eCons (eVar 1) (eCons (eFld cs_places "places" (eVar 2)) (eCons (eFld cs_cuts "cuts" (eVar 2)) (eCons (eFld cs_minutes "minutes" (eVar 2)) eNil))))))) sSkip)
 (sRet (eFn f__law_is_bare (eCons (eVar 0) (eCons (eVar 1) (eCons (eFld cs_minute "minute" (eVar 2)) eNil))))))
theorem b__law_due (fx : Fx K mg) : Binds K fx.fd__law_due ["_law_length_here", "_law_parts_here", "_law_found"] [] := fx.F__law_due.bindsN fun _ _ _ _ _ _ us hl => match us, hl with | [_, _, _], _ => rfl
abbrev f__law_due : Fm := runF 3 3 m__law_due
theorem ok__law_due (fx : Fx K mg) : FnOk P w K mg base (L2.CX P w) 3 (He.fAd K ("_law_due", none)) fx.fd__law_due ["_law_length_here", "_law_parts_here", "_law_found"] (spM K f__law_due) :=
  fn_pure (toFun fx.F__law_due) sc__law_due fun cdv A outer s H E hr => ⟨_, (pxs_cons (pxs_if (pxT_val (px_isiO rfl fx.g_isinstance rfl fx.g_Whole (tbC_kit fx.k_Whole) (tb_ins fx.ins (by decide +kernel)) (px_var 2))) (pxs_one (pxs_ret (px_fn (ok__law_is_whole fx) (hr.mono (by decide)) rfl fx.g__law_is_whole fx.F__law_is_whole.kp (b__law_is_whole fx) (passes_call (takes_of rfl rfl rfl rfl) (fun _ _ _ _ h => h)) (pxA_cons (px_var 0) (pxA_cons (px_var 1) (pxA_cons (px_fld fx.at_places (px_var 2)) (pxA_cons (px_fld fx.at_cuts (px_var 2)) (pxA_cons (px_fld fx.at_minutes (px_var 2)) pxA_nil)))))))) pxs_nil)
 (pxs_one (pxs_ret (px_fn (ok__law_is_bare fx) (hr.mono (by decide)) rfl fx.g__law_is_bare fx.F__law_is_bare.kp (b__law_is_bare fx) (passes_call (takes_of rfl rfl rfl rfl) (fun _ _ _ _ h => h)) (pxA_cons (px_var 0) (pxA_cons (px_var 1) (pxA_cons (px_fld fx.at_minute (px_var 2)) pxA_nil)))))))⟩
abbrev N__law_says : List Str := ["_law_said", "_law_due_here"]
theorem sc__law_says : FnScope N__law_says ["_law_said", "_law_due_here"] (defScope s__law_says) := ⟨rfl, rfl, rfl, by decide +kernel, rfl, by decide +kernel, by decide +kernel⟩
def m__law_says : MrS := (sRet (eAndV (eIsi tBool (eVar 0)) (eOp2 pEq (eVar 0) (eVar 1))))
theorem b__law_says (fx : Fx K mg) : Binds K fx.fd__law_says ["_law_said", "_law_due_here"] [] := fx.F__law_says.bindsN fun _ _ _ _ _ _ us hl => match us, hl with | [_, _], _ => rfl
abbrev f__law_says : Fm := runF 2 2 m__law_says
theorem ok__law_says (fx : Fx K mg) : FnOk P w K mg base (L2.CX P w) 1 (He.fAd K ("_law_says", none)) fx.fd__law_says ["_law_said", "_law_due_here"] (spM K f__law_says) :=
  fn_pure (toFun fx.F__law_says) sc__law_says fun cdv A outer s H E hr => ⟨_, (pxs_one (pxs_ret (px_and (px_isiB rfl fx.g_isinstance rfl fx.g_bool rfl (tbB_kit b_bool) (tbB_ins b_bool) (px_var 0)) (px_one (px_cmp (od_eq (u64 hr)) (px_var 0) (px_var 1) (nomark _))))))⟩
abbrev N__law_numbers : List Str := ["_law_told", "_law_one"]
theorem sc__law_numbers : FnScope N__law_numbers ["_law_told"] (defScope s__law_numbers) := ⟨rfl, rfl, rfl, by decide +kernel, rfl, by decide +kernel, by decide +kernel⟩
def m__law_numbers (rec : Fm) : MrS := (sSeq (sIf (eT (eIsi2 tList tTuple (eVar 0))) (sRet (eCall pAll (eCons (eFrz (eComp (iL (eVar 0)) unN [1] eYes (eFn rec (eCons (eVar 1) eNil)) [1])) eNil))) sSkip)
 (sRet (eOrV (eOp2 pIsN (eVar 0) (eC .none)) (eAndV (eNotV (eIsi tBool (eVar 0))) (eIsi2 tInt tStr (eVar 0))))))
theorem b__law_numbers (fx : Fx K mg) : Binds K fx.fd__law_numbers ["_law_told"] [] := fx.F__law_numbers.bindsN fun _ _ _ _ _ _ us hl => match us, hl with | [_], _ => rfl
def fR__law_numbers : Nat → Fm
  | 0 => fNo
  | n + 1 => runF 1 2 (m__law_numbers (fR__law_numbers n))
theorem okR__law_numbers (fx : Fx K mg) : ∀ n, FnOk P w K mg base (L2.CX P w) (0 + n) (He.fAd K ("_law_numbers", none)) fx.fd__law_numbers ["_law_told"] (spM K (fR__law_numbers n))
  | 0 => ok_no
  | n + 1 => fn_pure (toFun fx.F__law_numbers) sc__law_numbers fun cdv A outer s H E hr => ⟨_, (pxs_cons (pxs_if (pxT_val (px_isi2 rfl fx.g_isinstance rfl fx.g_list rfl rfl fx.g_tuple rfl (tbB_kit b_list) (tbB_ins b_list) (tbB_kit b_tuple) (px_var 0))) (pxs_one (pxs_ret (px_callB (cd_all rfl) rfl fx.g_all rfl (pxA_cons (px_frz (px_lc (own := [("_law_one", 1)]) (g := (gName 1)) (t := tYes) (te := (tCall (spM K (fR__law_numbers n)) [] E0 (tCons (tVar 1) tNil))) rfl sc__law_numbers.nd (pxi_list (px_var 0)) (blkOk_by (N := N__law_numbers) (sc := defScope s__law_numbers) (by decide +kernel)) (fun _ _ _ _ _ => (pxg_name (i := 1) sc__law_numbers.nd rfl (Or.inl rfl))) (fun _ _ _ _ _ => pxts_nil) (fun _ _ _ _ _ => (px_fn (okR__law_numbers fx n) (hr.mono (Nat.le_refl _)) rfl fx.g__law_numbers fx.F__law_numbers.kp (b__law_numbers fx) passL (pxA_cons (px_var 1) pxA_nil))))) pxA_nil)))) pxs_nil)
 (pxs_one (pxs_ret (px_or (px_cmp od_isN (px_var 0) px_non (nomark _)) (px_one (px_and (px_not (px_isiB rfl fx.g_isinstance rfl fx.g_bool rfl (tbB_kit b_bool) (tbB_ins b_bool) (px_var 0))) (px_one (px_isi2 rfl fx.g_isinstance rfl fx.g_int rfl rfl fx.g_str rfl (tbB_kit b_int) (tbB_ins b_int) (tbB_kit b_str) (px_var 0)))))))))⟩
abbrev f__law_numbers : Fm := fR__law_numbers 3
theorem ok__law_numbers (fx : Fx K mg) : FnOk P w K mg base (L2.CX P w) 3 (He.fAd K ("_law_numbers", none)) fx.fd__law_numbers ["_law_told"] (spM K f__law_numbers) := okR__law_numbers fx 3
abbrev N__law_whole_number : List Str := ["_law_found"]
theorem sc__law_whole_number : FnScope N__law_whole_number ["_law_found"] (defScope s__law_whole_number) := ⟨rfl, rfl, rfl, by decide +kernel, rfl, by decide +kernel, by decide +kernel⟩
def m__law_whole_number : MrS := (sRet (eAndV (eIsi tInt (eVar 0)) (eNotV (eIsi tBool (eVar 0)))))
theorem b__law_whole_number (fx : Fx K mg) : Binds K fx.fd__law_whole_number ["_law_found"] [] := fx.F__law_whole_number.bindsN fun _ _ _ _ _ _ us hl => match us, hl with | [_], _ => rfl
abbrev f__law_whole_number : Fm := runF 1 1 m__law_whole_number
theorem ok__law_whole_number (fx : Fx K mg) : FnOk P w K mg base (L2.CX P w) 1 (He.fAd K ("_law_whole_number", none)) fx.fd__law_whole_number ["_law_found"] (spM K f__law_whole_number) :=
  fn_pure (toFun fx.F__law_whole_number) sc__law_whole_number fun cdv A outer s H E hr => ⟨_, (pxs_one (pxs_ret (px_and (px_isiB rfl fx.g_isinstance rfl fx.g_int rfl (tbB_kit b_int) (tbB_ins b_int) (px_var 0)) (px_one (px_not (px_isiB rfl fx.g_isinstance rfl fx.g_bool rfl (tbB_kit b_bool) (tbB_ins b_bool) (px_var 0)))))))⟩
abbrev N__law_right : List Str := ["_law_length_here", "_law_parts_here", "_law_others", "_law_handed", "_law_good", "_law_again", "_law_found", "_law_sorts", "_law_long", "_law_some", "_law_row"]
theorem sc__law_right : FnScope N__law_right ["_law_length_here", "_law_parts_here", "_law_others"] (defScope s__law_right) := ⟨rfl, rfl, rfl, by decide +kernel, rfl, by decide +kernel, by decide +kernel⟩
def lb__law_right_1 : MrS := (sIf (eNot (eT (eFn f__law_says (eCons (eByC "Bare" (eVar 6) (eMethZ "Bare" "shows" f_Bare_shows (eVar 6) (eCons (eVar 8) (eCons (eVar 9) eNil))) (eMethZ "Whole" "shows" f_Whole_shows (eVar 6) (eCons (eVar 8) (eCons (eVar 9) eNil)))) (eCons (eFnZ f__law_due (eCons (eVar 8) (eCons (eVar 9) (eCons (eVar 6) eNil)))) eNil))))) (sRet (eC (.bool false))) sSkip)
def tl__law_right_1 : MrS := (sSeq (sAppP (pFld cs_minutes "minutes" (pSlot 6)) (eC (.int 0)))
 (sIf (eT (eOp2 pNotB (eByC "Bare" (eVar 6) (eMethZ "Bare" "shows" f_Bare_shows (eVar 6) (eCons (eVar 0) (eCons (eVar 1) eNil))) (eMethZ "Whole" "shows" f_Whole_shows (eVar 6) (eCons (eVar 0) (eCons (eVar 1) eNil)))) (eC (.bool false)))) (sRet (eC (.bool false))) sSkip))
def tl__law_right_2 : MrS := (sSeq (sFor (iL (eVar 2)) (unT 2) [8, 9]
 lb__law_right_1)
 (sIf (eT (eVar 4)) (sSeq (sIf (eNot (eT (eZ (eCall pAll (eCons (eFrz (eComp (iT (eFrz (eSeq .T (eCons (eFld cs_places "places" (eVar 6)) (eCons (eFld cs_cuts "cuts" (eVar 6)) (eCons (eFld cs_minutes "minutes" (eVar 6)) eNil)))))) unN [10] eYes (eIsi tList (eVar 10)) [10])) eNil))))) (sRet (eC (.bool false))) sSkip)
 tl__law_right_1) sSkip))
def tl__law_right_3 : MrS := (sSeq (sIf (eAnd (eNot (eT (eVar 4))) (eNot (eT (eFn f__law_whole_number (eCons (eFld cs_minute "minute" (eVar 6)) eNil))))) (sRet (eC (.bool false))) sSkip)
 tl__law_right_2)
def tl__law_right_4 : MrS := (sSeq (sIf (eAnd (eT (eVar 4)) (eNot (eT (eFnZ f__law_numbers (eCons (eSeqB .L (eCons (eFld cs_places "places" (eVar 6)) (eCons (eFld cs_cuts "cuts" (eVar 6)) (eCons (eFld cs_minutes "minutes" (eVar 6)) eNil)))) eNil))))) (sRet (eC (.bool false))) sSkip)
 tl__law_right_3)
def tl__law_right_5 : MrS := (sSeq (sIf (eT (eOp2 pNeS (eCall pStr (eCons (eFrz (eSeq .L (eCons (eFn f_few (eCons (eVar 0) (eCons (eVar 3) eNil))) eNil))) eNil)) (eCall pStr (eCons (eFrz (eSeq .L (eCons (eIf (eT (eVar 4)) (eCall pLen (eCons (eFld cs_places "places" (eVar 6)) eNil)) (eC .none)) eNil))) eNil)))) (sRet (eC (.bool false))) sSkip)
 tl__law_right_4)
def tl__law_right_6 : MrS := (sSeq (sIf (eOr (eT (eOp2 pNe (eVar 3) (eVar 1))) (eOr (eNot (eT (eFnZ f__law_due (eCons (eVar 0) (eCons (eVar 1) (eCons (eVar 6) eNil)))))) (eNot (eT (eFn f__law_says (eCons (eByC "Bare" (eVar 6) (eMethZ "Bare" "shows" f_Bare_shows (eVar 6) (eCons (eVar 0) (eCons (eVar 1) eNil))) (eMethZ "Whole" "shows" f_Whole_shows (eVar 6) (eCons (eVar 0) (eCons (eVar 1) eNil)))) (eCons (eC (.bool true)) eNil))))))) (sRet (eC (.bool false))) sSkip)
 tl__law_right_5)
def lb__law_right_2 : MrS := (sSeq (sAsg 6 (eFn f_whole (eCons (eVar 0) (eCons (eVar 3) eNil))))
 (sSeq (sAsg 7 (eFrz (eSeq .L (eCons (eIsi tb_Whole (eVar 6)) (eCons (eIsi tb_Bare (eVar 6)) (eCons (eIsi tb_Right (eVar 6)) eNil))))))
 (sSeq (sIf (eOr (eNot (eT (eIsi tb_Answer (eVar 6)))) (eOr (eT (eOp2 pNe (eVar 7) (eFrz (eSeq .L (eCons (eVar 4) (eCons (eNotV (eVar 4)) (eCons (eC (.bool false)) eNil))))))) (eT (eIsi tb_Wrong (eVar 6))))) (sRet (eC (.bool false))) sSkip)
 tl__law_right_6)))
def m__law_right : MrS := (sSeq (sPar [3, 4] (eCons (eFrz (eCall pList (eCons (eVar 1) eNil))) (eCons (eOp2 pEq (eFrz (eFn f__law_bare (eCons (eVar 0) (eCons (eVar 1) eNil)))) (eFrz (eSeq .L eNil))) eNil)))
 (sSeq (sFor (iR1 (eCons (eC (.int 2)) eNil)) unN [5]
 lb__law_right_2)
 (sRet (eC (.bool true)))))
theorem b__law_right (fx : Fx K mg) : Binds K fx.fd__law_right ["_law_length_here", "_law_parts_here", "_law_others"] [] := fx.F__law_right.bindsN fun _ _ _ _ _ _ us hl => match us, hl with | [_, _, _], _ => rfl
abbrev f__law_right : Fm := runF 3 11 m__law_right
theorem ok__law_right (fx : Fx K mg) : FnOkG P w K mg base (L2.CX P w) 5 (He.fAd K ("_law_right", none)) fx.fd__law_right ["_law_length_here", "_law_parts_here", "_law_others"] (spM K f__law_right) :=
  fn_pureG (toFun fx.F__law_right) sc__law_right fun cdv A outer s H E hg hr => ⟨_, (pxs_cons (pxs_par2 (i := 3) (j := 4) rfl sc__law_right.nd rfl rfl (by decide) rfl rfl (pxA_cons (px_frz (px_callTy cd_list rfl fx.g_list rfl (pxA_cons (px_var 1) pxA_nil))) (pxA_cons (px_cmp (od_eq (u64 hr)) (px_frz (px_fn (ok__law_bare fx) (hr.mono (by decide)) rfl fx.g__law_bare fx.F__law_bare.kp (b__law_bare fx) (passes_call (takes_of rfl rfl rfl rfl) (fun _ _ _ _ h => h)) (pxA_cons (px_var 0) (pxA_cons (px_var 1) pxA_nil)))) (px_frz (px_lst pxA_nil)) (nomark _)) pxA_nil)) (by rfl))
 (pxs_cons (pxs_for (passes_of rfl) rfl (pxi_r1 rfl fx.g_range (pxA_cons px_int pxA_nil)) (pxg_name (i := 5) sc__law_right.nd rfl (Or.inl rfl))
 (pxs_cons (pxs_asg (i := 6) sc__law_right.nd rfl (Or.inl rfl) (px_fn (ok_whole fx) (hr.mono (by decide)) rfl fx.g_whole fx.F_whole.kp (b_whole fx) (passes_call (takes_of rfl rfl rfl rfl) (fun _ _ _ _ h => h)) (pxA_cons (px_var 0) (pxA_cons (px_var 3) pxA_nil))))
 (pxs_cons (pxs_asg (i := 7) sc__law_right.nd rfl (Or.inl rfl) (px_frz (px_lst (pxA_cons (px_isiO rfl fx.g_isinstance rfl fx.g_Whole (tbC_kit fx.k_Whole) (tb_ins fx.ins (by decide +kernel)) (px_var 6)) (pxA_cons (px_isiO rfl fx.g_isinstance rfl fx.g_Bare (tbC_kit fx.k_Bare) (tb_ins fx.ins (by decide +kernel)) (px_var 6)) (pxA_cons (px_isiO rfl fx.g_isinstance rfl fx.g_Right (tbC_kit fx.k_Right) (tb_ins fx.ins (by decide +kernel)) (px_var 6)) pxA_nil))))))
 (pxs_cons (pxs_if (PxW.t (pxW_or (pxT_not (pxT_val (px_isiO rfl fx.g_isinstance rfl fx.g_Answer (tbC_kit fx.k_Answer) (tb_ins fx.ins (by decide +kernel)) (px_var 6)))) (pxW_or (pxT_cmp (od_ne (u64 hr)) (px_var 7) (px_frz (px_lst (pxA_cons (px_var 4) (pxA_cons (px_not (px_var 4)) (pxA_cons px_bl pxA_nil))))) (nomark _)) (pxW_or1 (pxT_val (px_isiO rfl fx.g_isinstance rfl fx.g_Wrong (tbC_kit fx.k_Wrong) (tb_ins fx.ins (by decide +kernel)) (px_var 6))))))) (pxs_one (pxs_ret px_bl)) pxs_nil)
 (pxs_cons (pxs_if (PxW.t (pxW_or (pxT_cmp (od_ne (u64 hr)) (px_var 3) (px_var 1) (nomark _)) (pxW_or (pxT_not (pxT_val (px_fnZ (ok__law_due fx) (hr.mono (by decide)) rfl fx.g__law_due fx.F__law_due.kp (b__law_due fx) (passes_call (takes_of rfl rfl rfl rfl) (fun _ _ _ _ h => h)) (pxA_cons (px_var 0) (pxA_cons (px_var 1) (pxA_cons (px_var 6) pxA_nil)))))) (pxW_or1 (pxT_not (pxT_val (px_fn (ok__law_says fx) (hr.mono (by decide)) rfl fx.g__law_says fx.F__law_says.kp (b__law_says fx) (passes_call (takes_of rfl rfl rfl rfl) (fun _ _ _ _ h => h)) (pxA_cons (px_byC "Bare" (eVar 6) (px_methZ (px_var 6) fx.c_Bare fx.me_Bare_shows (ok_Bare_shows fx) (hr.mono (by decide)) (b_Bare_shows fx) (passes_call (takes_of rfl rfl rfl rfl) (fun _ _ _ _ h => h)) (pxA_cons (px_var 0) (pxA_cons (px_var 1) pxA_nil))) (px_methZ (px_var 6) fx.c_Whole fx.me_Whole_shows (ok_Whole_shows fx) (hr.mono (by decide)) (b_Whole_shows fx) (passes_call (takes_of rfl rfl rfl rfl) (fun _ _ _ _ h => h)) (pxA_cons (px_var 0) (pxA_cons (px_var 1) pxA_nil)))) (pxA_cons px_bl pxA_nil))))))))) (pxs_one (pxs_ret px_bl)) pxs_nil)
 (pxs_cons (pxs_if (pxT_cmp od_neS (px_callTy (cd_str hg (u70 hr)) rfl fx.g_str rfl (pxA_cons (px_frz (px_lst (pxA_cons (px_fn (ok_few fx) (hr.mono (by decide)) rfl fx.g_few fx.F_few.kp (b_few fx) (passes_call (takes_of rfl rfl rfl rfl) (fun _ _ _ _ h => h)) (pxA_cons (px_var 0) (pxA_cons (px_var 3) pxA_nil))) pxA_nil))) pxA_nil)) (px_callTy (cd_str hg (u70 hr)) rfl fx.g_str rfl (pxA_cons (px_frz (px_lst (pxA_cons (px_if (pxT_val (px_var 4)) (px_callB cd_len rfl fx.g_len rfl (pxA_cons (px_fld fx.at_places (px_var 6)) pxA_nil)) px_non) pxA_nil))) pxA_nil)) (nomark _)) (pxs_one (pxs_ret px_bl)) pxs_nil)
 (pxs_cons (pxs_if (PxW.t (pxW_and (pxT_val (px_var 4)) (pxW_and1 (pxT_not (pxT_val (px_fnZ (ok__law_numbers fx) (hr.mono (by decide)) rfl fx.g__law_numbers fx.F__law_numbers.kp (b__law_numbers fx) (passes_call (takes_of rfl rfl rfl rfl) (fun _ _ _ _ h => h)) (pxA_cons (px_lstB (pxA_cons (px_fld fx.at_places (px_var 6)) (pxA_cons (px_fld fx.at_cuts (px_var 6)) (pxA_cons (px_fld fx.at_minutes (px_var 6)) pxA_nil)))) pxA_nil))))))) (pxs_one (pxs_ret px_bl)) pxs_nil)
 (pxs_cons (pxs_if (PxW.t (pxW_and (pxT_not (pxT_val (px_var 4))) (pxW_and1 (pxT_not (pxT_val (px_fn (ok__law_whole_number fx) (hr.mono (by decide)) rfl fx.g__law_whole_number fx.F__law_whole_number.kp (b__law_whole_number fx) (passes_call (takes_of rfl rfl rfl rfl) (fun _ _ _ _ h => h)) (pxA_cons (px_fld fx.at_minute (px_var 6)) pxA_nil))))))) (pxs_one (pxs_ret px_bl)) pxs_nil)
 (pxs_cons (pxs_for (passes_of rfl) rfl (pxi_list (px_var 2)) (pxg_tup rfl (pxgs_cons (i := 8) sc__law_right.nd rfl (Or.inl rfl) (pxgs_cons (i := 9) sc__law_right.nd rfl (Or.inl rfl) pxgs_nil)))
 (pxs_one (pxs_if (pxT_not (pxT_val (px_fn (ok__law_says fx) (hr.mono (by decide)) rfl fx.g__law_says fx.F__law_says.kp (b__law_says fx) (passes_call (takes_of rfl rfl rfl rfl) (fun _ _ _ _ h => h)) (pxA_cons (px_byC "Bare" (eVar 6) (px_methZ (px_var 6) fx.c_Bare fx.me_Bare_shows (ok_Bare_shows fx) (hr.mono (by decide)) (b_Bare_shows fx) (passes_call (takes_of rfl rfl rfl rfl) (fun _ _ _ _ h => h)) (pxA_cons (px_var 8) (pxA_cons (px_var 9) pxA_nil))) (px_methZ (px_var 6) fx.c_Whole fx.me_Whole_shows (ok_Whole_shows fx) (hr.mono (by decide)) (b_Whole_shows fx) (passes_call (takes_of rfl rfl rfl rfl) (fun _ _ _ _ h => h)) (pxA_cons (px_var 8) (pxA_cons (px_var 9) pxA_nil)))) (pxA_cons (px_fnZ (ok__law_due fx) (hr.mono (by decide)) rfl fx.g__law_due fx.F__law_due.kp (b__law_due fx) (passes_call (takes_of rfl rfl rfl rfl) (fun _ _ _ _ h => h)) (pxA_cons (px_var 8) (pxA_cons (px_var 9) (pxA_cons (px_var 6) pxA_nil)))) pxA_nil))))) (pxs_one (pxs_ret px_bl)) pxs_nil)))
 (pxs_one (pxs_if (pxT_val (px_var 4)) (pxs_cons (pxs_if (pxT_not (pxT_val (px_Z (px_callB (cd_all rfl) rfl fx.g_all rfl (pxA_cons (px_frz (px_lc (own := [("_law_row", 10)]) (g := (gName 10)) (t := tYes) (te := (tCB (rIsi K) (tCons (tVar 10) (tCons (tC (.ty "list")) tNil)))) rfl sc__law_right.nd (pxi_tup (px_frz (px_tup (pxA_cons (px_fld fx.at_places (px_var 6)) (pxA_cons (px_fld fx.at_cuts (px_var 6)) (pxA_cons (px_fld fx.at_minutes (px_var 6)) pxA_nil)))))) (blkOk_by (N := N__law_right) (sc := defScope s__law_right) (by decide +kernel)) (fun _ _ _ _ _ => (pxg_name (i := 10) sc__law_right.nd rfl (Or.inl rfl))) (fun _ _ _ _ _ => pxts_nil) (fun _ _ _ _ _ => (px_isiB rfl fx.g_isinstance rfl fx.g_list rfl (tbB_kit b_list) (tbB_ins b_list) (px_var 10))))) pxA_nil))))) (pxs_one (pxs_ret px_bl)) pxs_nil)
 (pxs_cons (pxs_appP (pxp_fld fx.at_minutes (pxp_var 6)) px_int)
 (pxs_one (pxs_if (pxT_cmp od_notB (px_byC "Bare" (eVar 6) (px_methZ (px_var 6) fx.c_Bare fx.me_Bare_shows (ok_Bare_shows fx) (hr.mono (by decide)) (b_Bare_shows fx) (passes_call (takes_of rfl rfl rfl rfl) (fun _ _ _ _ h => h)) (pxA_cons (px_var 0) (pxA_cons (px_var 1) pxA_nil))) (px_methZ (px_var 6) fx.c_Whole fx.me_Whole_shows (ok_Whole_shows fx) (hr.mono (by decide)) (b_Whole_shows fx) (passes_call (takes_of rfl rfl rfl rfl) (fun _ _ _ _ h => h)) (pxA_cons (px_var 0) (pxA_cons (px_var 1) pxA_nil)))) px_bl (nomark _)) (pxs_one (pxs_ret px_bl)) pxs_nil)))) pxs_nil)))))))))))
 (pxs_one (pxs_ret px_bl))))⟩
abbrev N_law : List Str := ["_law_script", "_law_by", "_law_length_here", "_law_parts_here", "_law_filled", "_law_others", "_law_at", "_law_some", "_law_found", "_law_minute"]
theorem sc_law : FnScope N_law ["_law_script"] (defScope s_law) := ⟨rfl, rfl, rfl, by decide +kernel, rfl, by decide +kernel, by decide +kernel⟩
def lb_law_1 : MrS := (sIf (eNot (eT (eFn f__law_right (eCons (eVar 2) (eCons (eVar 7) (eCons (eVar 5) eNil)))))) (sRet (eC (.bool false))) sSkip)
def tl_law_1 : MrS := (sSeq (sAsg 7 (eOp2 pAdd (eFrz (eCut (eVar 4) eNoP (eP (eC (.int 39))))) (eFrz (eSeq .L (eCons (eFrz (eSeq .T (eCons (eC (.int 0)) (eCons (eC (.int 1)) eNil)))) eNil)))))
 (sSeq (sExp (eFnZ f_whole (eCons (eVar 2) (eCons (eVar 7) eNil))))
 (sSeq (sPut 7 (eFrz (eSeq .T (eCons (eC (.int 0)) (eCons (eVar 2) eNil)))) (eOp1 pNeg (eC (.int 1))))
 (sSeq (sAsg 8 (eFnZ f_whole (eCons (eVar 2) (eCons (eVar 7) eNil))))
 (sIf (eOr (eNot (eT (eIsi tb_Whole (eVar 8)))) (eOr (eT (eOp2 pNe (eCall pLen (eCons (eFld cs_places "places" (eVar 8)) eNil)) (eC (.int 1)))) (eT (eOp2 pNe (eFld cs_cuts "cuts" (eVar 8)) (eFrz (eSeq .L (eCons (eC (.int 0)) (eCons (eVar 2) eNil)))))))) (sRet (eC (.bool false))) sSkip)))))
def lb_law_2 : MrS := (sSeq (sAsg 2 (eFn f__law_length (eCons (eVar 0) (eCons (eVar 1) (eCons (eC (.int 60)) eNil)))))
 (sSeq (sAsg 3 (eFrz (eFn f__law_parts (eCons (eVar 0) (eCons (eVar 1) (eCons (eVar 2) (eCons (eC (.int 12)) eNil)))))))
 (sSeq (sAsg 4 (eFrz (eOp2 pAdd (eVar 3) (eFrz (eComp (iL (eFrz (eFn f__law_bare (eCons (eVar 2) (eCons (eVar 3) eNil))))) unN [9] eYes (eFrz (eSeq .T (eCons (eVar 9) (eCons (eOp2 pAdd (eVar 9) (eC (.int 1))) eNil)))) [9])))))
 (sSeq (sAsg 5 (eFrz (eSeq .L (eCons (eFrz (eSeq .T (eCons (eVar 2) (eCons (eFrz (eCut (eVar 3) (eP (eC (.int 1))) eNoP)) eNil)))) (eCons (eFrz (eSeq .T (eCons (eVar 2) (eCons (eFrz (eRev (eVar 3))) eNil)))) (eCons (eFrz (eSeq .T (eCons (eC (.int 60)) (eCons (eVar 3) eNil)))) eNil))))))
 (sSeq (sAsg 6 (eFn f__law_number (eCons (eFn f__law_cell_at (eCons (eVar 0) (eCons (eVar 1) eNil))) (eCons (eOp2 pAdd (eVar 1) (eC (.int 4))) (eCons (eOp2 pAdd (eCall pLen (eCons (eVar 4) eNil)) (eC (.int 1))) eNil)))))
 (sSeq (sFor (iT (eFrz (eSeq .T (eCons (eVar 3) (eCons (eFrz (eCut (eVar 4) eNoP (eP (eC (.int 40))))) (eCons (eFrz (eCut (eFrz (eCut (eVar 4) (eP (eVar 6)) eNoP)) eNoP (eP (eC (.int 40))))) (eCons (eFrz (eCut (eFrz (eOp2 pAdd (eFrz (eCut (eVar 4) eNoP (eP (eVar 6)))) (eFrz (eSeq .L (eCons (eFrz (eSeq .T (eCons (eC (.int 0)) (eCons (eVar 2) eNil)))) eNil))))) eNoP (eP (eC (.int 40))))) eNil))))))) unN [7]
 lb_law_1)
 tl_law_1))))))
def tl_law_2 : MrS := (sSeq (sIf (eNot (eT (eFn f__law_back_right eNil))) (sRet (eC (.bool false))) sSkip)
 (sRet (eAndV (eOp2 pEq (eFld cs_minute "minute" (eFn f_whole (eCons (eC (.int 3)) (eCons (eFrz (eSeq .L (eCons (eFrz (eSeq .T (eCons (eC (.int 0)) (eCons (eC (.int 1)) eNil)))) (eCons (eFrz (eSeq .T (eCons (eC (.int 2)) (eCons (eC (.int 3)) eNil)))) eNil)))) eNil)))) (eC (.int 1))) (eAndV (eOp2 pEq (eFld cs_places "places" (eFn f_whole (eCons (eC (.int 1)) (eCons (eFrz (eSeq .L (eCons (eFrz (eSeq .T (eCons (eC (.int 0)) (eCons (eC (.int 1)) eNil)))) eNil))) eNil)))) (eFrz (eSeq .L (eCons (eC (.int 0)) eNil)))) (eOp2 pIsN (eFn f_few (eCons (eC (.int 2)) (eCons (eFrz (eSeq .L eNil)) eNil))) (eC .none))))))
def tl_law_3 : MrS := (sSeq (sAsg 8 (eFn f_whole (eCons (eC (.int 5)) (eCons (eFrz (eSeq .L (eCons (eFrz (eSeq .T (eCons (eC (.int 0)) (eCons (eC (.int 3)) eNil)))) (eCons (eFrz (eSeq .T (eCons (eC (.int 2)) (eCons (eC (.int 5)) eNil)))) (eCons (eFrz (eSeq .T (eCons (eC (.int 0)) (eCons (eC (.int 2)) eNil)))) eNil))))) eNil))))
 (sSeq (sIf (eOr (eNot (eT (eIsi tb_Whole (eVar 8)))) (eOr (eT (eOp2 pNe (eCall pLen (eCons (eFld cs_places "places" (eVar 8)) eNil)) (eC (.int 2)))) (eT (eOp2 pNotIn (eC (.int 1)) (eFld cs_places "places" (eVar 8)))))) (sRet (eC (.bool false))) sSkip)
 tl_law_2))
def m_law : MrS := (sSeq (sFor (iR1 (eCons (eC (.int 3)) eNil)) unN [1]
 lb_law_2)
 tl_law_3)
theorem b_law (fx : Fx K mg) : Binds K fx.fd_law ["_law_script"] [] := fx.F_law.bindsN fun _ _ _ _ _ _ us hl => match us, hl with | [_], _ => rfl
abbrev f_law : Fm := runF 1 10 m_law
theorem ok_law (fx : Fx K mg) : FnOkG P w K mg base (L2.CX P w) 6 (He.fAd K ("law", none)) fx.fd_law ["_law_script"] (spM K f_law) :=
  fn_pureG (toFun fx.F_law) sc_law fun cdv A outer s H E hg hr => ⟨_, (pxs_cons (pxs_for (passes_of rfl) rfl (pxi_r1 rfl fx.g_range (pxA_cons px_int pxA_nil)) (pxg_name (i := 1) sc_law.nd rfl (Or.inl rfl))
 (pxs_cons (pxs_asg (i := 2) sc_law.nd rfl (Or.inl rfl) (px_fn (ok__law_length fx) (hr.mono (by decide)) rfl fx.g__law_length fx.F__law_length.kp (b__law_length fx) (passes_call (takes_of rfl rfl rfl rfl) (fun _ _ _ _ h => h)) (pxA_cons (px_var 0) (pxA_cons (px_var 1) (pxA_cons px_int pxA_nil)))))
 (pxs_cons (pxs_asg (i := 3) sc_law.nd rfl (Or.inl rfl) (px_frz (px_fn (ok__law_parts fx) (hr.mono (by decide)) rfl fx.g__law_parts fx.F__law_parts.kp (b__law_parts fx) (passes_call (takes_of rfl rfl rfl rfl) (fun _ _ _ _ h => h)) (pxA_cons (px_var 0) (pxA_cons (px_var 1) (pxA_cons (px_var 2) (pxA_cons px_int pxA_nil)))))))
 (pxs_cons (pxs_asg (i := 4) sc_law.nd rfl (Or.inl rfl) (px_frz (px_bin od_add (px_var 3) (px_frz (px_lc (own := [("_law_minute", 9)]) (g := (gName 9)) (t := tYes) (te := (tTup (tCons (tVar 9) (tCons (tOp (P2 K pAdd) (tVar 9) (tC (.int 1))) tNil)))) rfl sc_law.nd (pxi_list (px_frz (px_fn (ok__law_bare fx) (hr.mono (by decide)) rfl fx.g__law_bare fx.F__law_bare.kp (b__law_bare fx) (passes_call (takes_of rfl rfl rfl rfl) (fun _ _ _ _ h => h)) (pxA_cons (px_var 2) (pxA_cons (px_var 3) pxA_nil))))) (blkOk_by (N := N_law) (sc := defScope s_law) (by decide +kernel)) (fun _ _ _ _ _ => (pxg_name (i := 9) sc_law.nd rfl (Or.inl rfl))) (fun _ _ _ _ _ => pxts_nil) (fun _ _ _ _ _ => (px_frz (px_tup (pxA_cons (px_var 9) (pxA_cons (px_bin od_add (px_var 9) px_int) pxA_nil))))))))))
 (pxs_cons (pxs_asg (i := 5) sc_law.nd rfl (Or.inl rfl) (px_frz (px_lst (pxA_cons (px_frz (px_tup (pxA_cons (px_var 2) (pxA_cons (px_frz (px_cut (px_var 3) (pxo_some px_int) pxo_none)) pxA_nil)))) (pxA_cons (px_frz (px_tup (pxA_cons (px_var 2) (pxA_cons (px_frz (px_rev (px_var 3))) pxA_nil)))) (pxA_cons (px_frz (px_tup (pxA_cons px_int (pxA_cons (px_var 3) pxA_nil)))) pxA_nil))))))
 (pxs_cons (pxs_asg (i := 6) sc_law.nd rfl (Or.inl rfl) (px_fn (ok__law_number fx) (hr.mono (by decide)) rfl fx.g__law_number fx.F__law_number.kp (b__law_number fx) (passes_call (takes_of rfl rfl rfl rfl) (fun _ _ _ _ h => h)) (pxA_cons (px_fn (ok__law_cell_at fx) (hr.mono (by decide)) rfl fx.g__law_cell_at fx.F__law_cell_at.kp (b__law_cell_at fx) (passes_call (takes_of rfl rfl rfl rfl) (fun _ _ _ _ h => h)) (pxA_cons (px_var 0) (pxA_cons (px_var 1) pxA_nil))) (pxA_cons (px_bin od_add (px_var 1) px_int) (pxA_cons (px_bin od_add (px_callB cd_len rfl fx.g_len rfl (pxA_cons (px_var 4) pxA_nil)) px_int) pxA_nil)))))
 (pxs_cons (pxs_for (passes_of rfl) rfl (pxi_tup (px_frz (px_tup (pxA_cons (px_var 3) (pxA_cons (px_frz (px_cut (px_var 4) pxo_none (pxo_some px_int))) (pxA_cons (px_frz (px_cut (px_frz (px_cut (px_var 4) (pxo_some (px_var 6)) pxo_none)) pxo_none (pxo_some px_int))) (pxA_cons (px_frz (px_cut (px_frz (px_bin od_add (px_frz (px_cut (px_var 4) pxo_none (pxo_some (px_var 6)))) (px_frz (px_lst (pxA_cons (px_frz (px_tup (pxA_cons px_int (pxA_cons (px_var 2) pxA_nil)))) pxA_nil))))) pxo_none (pxo_some px_int))) pxA_nil))))))) (pxg_name (i := 7) sc_law.nd rfl (Or.inl rfl))
 (pxs_one (pxs_if (pxT_not (pxT_val (px_fnG (ok__law_right fx) hg (hr.mono (by decide)) rfl fx.g__law_right fx.F__law_right.kp (b__law_right fx) (passes_call (takes_of rfl rfl rfl rfl) (fun _ _ _ _ h => h)) (pxA_cons (px_var 2) (pxA_cons (px_var 7) (pxA_cons (px_var 5) pxA_nil)))))) (pxs_one (pxs_ret px_bl)) pxs_nil)))
 (pxs_cons (pxs_asg (i := 7) sc_law.nd rfl (Or.inl rfl) (px_bin od_add (px_frz (px_cut (px_var 4) pxo_none (pxo_some px_int))) (px_frz (px_lst (pxA_cons (px_frz (px_tup (pxA_cons px_int (pxA_cons px_int pxA_nil)))) pxA_nil)))))
 (pxs_cons (pxs_exp (px_fnZ (ok_whole fx) (hr.mono (by decide)) rfl fx.g_whole fx.F_whole.kp (b_whole fx) (passes_call (takes_of rfl rfl rfl rfl) (fun _ _ _ _ h => h)) (pxA_cons (px_var 2) (pxA_cons (px_var 7) pxA_nil))))
 (pxs_cons (pxs_put (i := 7) rfl (Or.inl rfl) (px_frz (px_tup (pxA_cons px_int (pxA_cons (px_var 2) pxA_nil)))) (px_un ud_neg px_int))
 (pxs_cons (pxs_asg (i := 8) sc_law.nd rfl (Or.inl rfl) (px_fnZ (ok_whole fx) (hr.mono (by decide)) rfl fx.g_whole fx.F_whole.kp (b_whole fx) (passes_call (takes_of rfl rfl rfl rfl) (fun _ _ _ _ h => h)) (pxA_cons (px_var 2) (pxA_cons (px_var 7) pxA_nil))))
 (pxs_one (pxs_if (PxW.t (pxW_or (pxT_not (pxT_val (px_isiO rfl fx.g_isinstance rfl fx.g_Whole (tbC_kit fx.k_Whole) (tb_ins fx.ins (by decide +kernel)) (px_var 8)))) (pxW_or (pxT_cmp (od_ne (u64 hr)) (px_callB cd_len rfl fx.g_len rfl (pxA_cons (px_fld fx.at_places (px_var 8)) pxA_nil)) px_int (nomark _)) (pxW_or1 (pxT_cmp (od_ne (u64 hr)) (px_fld fx.at_cuts (px_var 8)) (px_frz (px_lst (pxA_cons px_int (pxA_cons (px_var 2) pxA_nil)))) (nomark _)))))) (pxs_one (pxs_ret px_bl)) pxs_nil)))))))))))))
 (pxs_cons (pxs_asg (i := 8) sc_law.nd rfl (Or.inl rfl) (px_fn (ok_whole fx) (hr.mono (by decide)) rfl fx.g_whole fx.F_whole.kp (b_whole fx) (passes_call (takes_of rfl rfl rfl rfl) (fun _ _ _ _ h => h)) (pxA_cons px_int (pxA_cons (px_frz (px_lst (pxA_cons (px_frz (px_tup (pxA_cons px_int (pxA_cons px_int pxA_nil)))) (pxA_cons (px_frz (px_tup (pxA_cons px_int (pxA_cons px_int pxA_nil)))) (pxA_cons (px_frz (px_tup (pxA_cons px_int (pxA_cons px_int pxA_nil)))) pxA_nil))))) pxA_nil))))
 (pxs_cons (pxs_if (PxW.t (pxW_or (pxT_not (pxT_val (px_isiO rfl fx.g_isinstance rfl fx.g_Whole (tbC_kit fx.k_Whole) (tb_ins fx.ins (by decide +kernel)) (px_var 8)))) (pxW_or (pxT_cmp (od_ne (u64 hr)) (px_callB cd_len rfl fx.g_len rfl (pxA_cons (px_fld fx.at_places (px_var 8)) pxA_nil)) px_int (nomark _)) (pxW_or1 (pxT_cmp (od_notIn (u65 hr)) px_int (px_fld fx.at_places (px_var 8)) rfl))))) (pxs_one (pxs_ret px_bl)) pxs_nil)
 (pxs_cons (pxs_if (pxT_not (pxT_val (px_fn0 (ok__law_back_right fx) (hr.mono (by decide)) rfl fx.g__law_back_right fx.F__law_back_right.kp (b__law_back_right fx) (passes_call (takes_of rfl rfl rfl rfl) (fun _ _ _ _ h => h))))) (pxs_one (pxs_ret px_bl)) pxs_nil)
 (pxs_one (pxs_ret (px_and (px_cmp (od_eq (u64 hr)) (px_fld fx.at_minute (px_fn (ok_whole fx) (hr.mono (by decide)) rfl fx.g_whole fx.F_whole.kp (b_whole fx) (passes_call (takes_of rfl rfl rfl rfl) (fun _ _ _ _ h => h)) (pxA_cons px_int (pxA_cons (px_frz (px_lst (pxA_cons (px_frz (px_tup (pxA_cons px_int (pxA_cons px_int pxA_nil)))) (pxA_cons (px_frz (px_tup (pxA_cons px_int (pxA_cons px_int pxA_nil)))) pxA_nil)))) pxA_nil)))) px_int (nomark _)) (px_and (px_cmp (od_eq (u64 hr)) (px_fld fx.at_places (px_fn (ok_whole fx) (hr.mono (by decide)) rfl fx.g_whole fx.F_whole.kp (b_whole fx) (passes_call (takes_of rfl rfl rfl rfl) (fun _ _ _ _ h => h)) (pxA_cons px_int (pxA_cons (px_frz (px_lst (pxA_cons (px_frz (px_tup (pxA_cons px_int (pxA_cons px_int pxA_nil)))) pxA_nil))) pxA_nil)))) (px_frz (px_lst (pxA_cons px_int pxA_nil))) (nomark _)) (px_one (px_cmp od_isN (px_fn (ok_few fx) (hr.mono (by decide)) rfl fx.g_few fx.F_few.kp (b_few fx) (passes_call (takes_of rfl rfl rfl rfl) (fun _ _ _ _ h => h)) (pxA_cons px_int (pxA_cons (px_frz (px_lst pxA_nil)) pxA_nil))) px_non (nomark _)))))))))))⟩
end
def d_is_whole : He.DefD := ⟨("is_whole", none), "is_whole", "is_whole", defArgs s_is_whole, defBody s_is_whole, defScope s_is_whole, [], []⟩
def d_is_between : He.DefD := ⟨("is_between", none), "is_between", "is_between", defArgs s_is_between, defBody s_is_between, defScope s_is_between, [], []⟩
def d_check_length : He.DefD := ⟨("check_length", none), "check_length", "check_length", defArgs s_check_length, defBody s_check_length, defScope s_check_length, [], []⟩
def d_is_stretch : He.DefD := ⟨("is_stretch", none), "is_stretch", "is_stretch", defArgs s_is_stretch, defBody s_is_stretch, defScope s_is_stretch, [], []⟩
def d_check_parts : He.DefD := ⟨("check_parts", none), "check_parts", "check_parts", defArgs s_check_parts, defBody s_check_parts, defScope s_check_parts, [], []⟩
def d_Whole_init : He.DefD := ⟨("Whole", some "__init__"), "__init__", "Whole.__init__", defArgs s_Whole_init, defBody s_Whole_init, defScope s_Whole_init, [], []⟩
def d_Bare_init : He.DefD := ⟨("Bare", some "__init__"), "__init__", "Bare.__init__", defArgs s_Bare_init, defBody s_Bare_init, defScope s_Bare_init, [], []⟩
def d_has : He.DefD := ⟨("has", none), "has", "has", defArgs s_has, defBody s_has, defScope s_has, [], []⟩
def d_whole_of : He.DefD := ⟨("whole_of", none), "whole_of", "whole_of", defArgs s_whole_of, defBody s_whole_of, defScope s_whole_of, [], []⟩
def d_whole : He.DefD := ⟨("whole", none), "whole", "whole", defArgs s_whole, defBody s_whole, defScope s_whole, [], []⟩
def d__law_draw : He.DefD := ⟨("_law_draw", none), "_law_draw", "_law_draw", defArgs s__law_draw, defBody s__law_draw, defScope s__law_draw, [], []⟩
def d__law_number : He.DefD := ⟨("_law_number", none), "_law_number", "_law_number", defArgs s__law_number, defBody s__law_number, defScope s__law_number, [], []⟩
def d__law_cell_at : He.DefD := ⟨("_law_cell_at", none), "_law_cell_at", "_law_cell_at", defArgs s__law_cell_at, defBody s__law_cell_at, defScope s__law_cell_at, [], []⟩
def d__law_length : He.DefD := ⟨("_law_length", none), "_law_length", "_law_length", defArgs s__law_length, defBody s__law_length, defScope s__law_length, [], []⟩
def d__law_parts : He.DefD := ⟨("_law_parts", none), "_law_parts", "_law_parts", defArgs s__law_parts, defBody s__law_parts, defScope s__law_parts, [], []⟩
def d_Bare_shows : He.DefD := ⟨("Bare", some "shows"), "shows", "Bare.shows", defArgs s_Bare_shows, defBody s_Bare_shows, defScope s_Bare_shows, [], []⟩
def d_Whole_shows : He.DefD := ⟨("Whole", some "shows"), "shows", "Whole.shows", defArgs s_Whole_shows, defBody s_Whole_shows, defScope s_Whole_shows, [], []⟩
def d_few : He.DefD := ⟨("few", none), "few", "few", defArgs s_few, defBody s_few, defScope s_few, [], []⟩
def d__law_back_right : He.DefD := ⟨("_law_back_right", none), "_law_back_right", "_law_back_right", defArgs s__law_back_right, defBody s__law_back_right, defScope s__law_back_right, [], []⟩
def d__law_has : He.DefD := ⟨("_law_has", none), "_law_has", "_law_has", defArgs s__law_has, defBody s__law_has, defScope s__law_has, [], []⟩
def d__law_is_bare : He.DefD := ⟨("_law_is_bare", none), "_law_is_bare", "_law_is_bare", defArgs s__law_is_bare, defBody s__law_is_bare, defScope s__law_is_bare, [], []⟩
def d__law_bare : He.DefD := ⟨("_law_bare", none), "_law_bare", "_law_bare", defArgs s__law_bare, defBody s__law_bare, defScope s__law_bare, [], []⟩
def d__law_is_whole : He.DefD := ⟨("_law_is_whole", none), "_law_is_whole", "_law_is_whole", defArgs s__law_is_whole, defBody s__law_is_whole, defScope s__law_is_whole, [], []⟩
def d__law_due : He.DefD := ⟨("_law_due", none), "_law_due", "_law_due", defArgs s__law_due, defBody s__law_due, defScope s__law_due, [], []⟩
def d__law_says : He.DefD := ⟨("_law_says", none), "_law_says", "_law_says", defArgs s__law_says, defBody s__law_says, defScope s__law_says, [], []⟩
def d__law_numbers : He.DefD := ⟨("_law_numbers", none), "_law_numbers", "_law_numbers", defArgs s__law_numbers, defBody s__law_numbers, defScope s__law_numbers, [], []⟩
def d__law_whole_number : He.DefD := ⟨("_law_whole_number", none), "_law_whole_number", "_law_whole_number", defArgs s__law_whole_number, defBody s__law_whole_number, defScope s__law_whole_number, [], []⟩
def d__law_right : He.DefD := ⟨("_law_right", none), "_law_right", "_law_right", defArgs s__law_right, defBody s__law_right, defScope s__law_right, [], []⟩
def d_law : He.DefD := ⟨("law", none), "law", "law", defArgs s_law, defBody s_law, defScope s_law, [], []⟩
def fa : List He.Fa := [.free "isinstance", .free "int", .free "bool", .free "list", .free "len", .free "tuple", .free "enumerate", .free "max", .free "range", .free "min", .free "any", .free "zip", .free "all", .free "set", .free "sorted", .free "str", .int "LONGEST" 60, .int "MOST_PARTS" 40, .glo "is_whole", .glo "is_between", .glo "check_length", .glo "is_stretch", .glo "check_parts", .glo "has", .glo "whole_of", .glo "whole", .glo "_law_draw", .glo "_law_number", .glo "_law_cell_at", .glo "_law_length", .glo "_law_parts", .glo "few", .glo "_law_back_right", .glo "_law_has", .glo "_law_is_bare", .glo "_law_bare", .glo "_law_is_whole", .glo "_law_due", .glo "_law_says", .glo "_law_numbers", .glo "_law_whole_number", .glo "_law_right", .glo "law", .glo "BadLength", .glo "BadParts", .glo "Whole", .glo "Bare", .glo "Right", .glo "Answer", .glo "Wrong", .exc "BadLength", .exc "BadParts", .mkr "Bare", .mkr "Whole", .meth "Bare" "shows", .meth "Whole" "shows", .cls "Whole", .cls "Bare", .noat "Whole" "places", .noat "Whole" "cuts", .noat "Whole" "minutes", .noat "Bare" "minute"]
def fn : List He.DefD := [d_is_whole, d_is_between, d_check_length, d_is_stretch, d_check_parts, d_Whole_init, d_Bare_init, d_has, d_whole_of, d_whole, d__law_draw, d__law_number, d__law_cell_at, d__law_length, d__law_parts, d_Bare_shows, d_Whole_shows, d_few, d__law_back_right, d__law_has, d__law_is_bare, d__law_bare, d__law_is_whole, d__law_due, d__law_says, d__law_numbers, d__law_whole_number, d__law_right, d_law]
def ex (K : PySem.W.Frag) : Bool := noLst K && (insB K "Whole" && (insB K "Bare" && (tbC K "Whole" tb_Whole && (tbC K "Right" tb_Right && (tbC K "Bare" tb_Bare && (tbC K "Answer" tb_Answer && (tbC K "Wrong" tb_Wrong)))))))
theorem facts {K : PySem.W.Frag} {h : Heap} {mg : Str → Option Value} (X : K.In h) (G : h.Ns mainGlobals mg) (c : He.SaysD fa fn K) (er : ex K = true) : Nonempty (Fx K mg) := by
  unfold ex at er
  obtain ⟨e0, er⟩ := He.ba er
  obtain ⟨e1, er⟩ := He.ba er
  obtain ⟨e2, er⟩ := He.ba er
  obtain ⟨e3, er⟩ := He.ba er
  obtain ⟨e4, er⟩ := He.ba er
  obtain ⟨e5, er⟩ := He.ba er
  obtain ⟨e6, er⟩ := He.ba er
  have e7 := er
  exact ⟨{
    g_isinstance := He.free_ok X G (c.facts (f := .free "isinstance") (by simp [fa]))
    g_int := He.free_ok X G (c.facts (f := .free "int") (by simp [fa]))
    g_bool := He.free_ok X G (c.facts (f := .free "bool") (by simp [fa]))
    g_list := He.free_ok X G (c.facts (f := .free "list") (by simp [fa]))
    g_len := He.free_ok X G (c.facts (f := .free "len") (by simp [fa]))
    g_tuple := He.free_ok X G (c.facts (f := .free "tuple") (by simp [fa]))
    g_enumerate := He.free_ok X G (c.facts (f := .free "enumerate") (by simp [fa]))
    g_max := He.free_ok X G (c.facts (f := .free "max") (by simp [fa]))
    g_range := He.free_ok X G (c.facts (f := .free "range") (by simp [fa]))
    g_min := He.free_ok X G (c.facts (f := .free "min") (by simp [fa]))
    g_any := He.free_ok X G (c.facts (f := .free "any") (by simp [fa]))
    g_zip := He.free_ok X G (c.facts (f := .free "zip") (by simp [fa]))
    g_all := He.free_ok X G (c.facts (f := .free "all") (by simp [fa]))
    g_set := He.free_ok X G (c.facts (f := .free "set") (by simp [fa]))
    g_sorted := He.free_ok X G (c.facts (f := .free "sorted") (by simp [fa]))
    g_str := He.free_ok X G (c.facts (f := .free "str") (by simp [fa]))
    t_LONGEST := (He.int_ok X G (c.facts (f := .int "LONGEST" 60) (by simp [fa]))).choose
    i_LONGEST := (He.int_ok X G (c.facts (f := .int "LONGEST" 60) (by simp [fa]))).choose_spec
    t_MOST_PARTS := (He.int_ok X G (c.facts (f := .int "MOST_PARTS" 40) (by simp [fa]))).choose
    i_MOST_PARTS := (He.int_ok X G (c.facts (f := .int "MOST_PARTS" 40) (by simp [fa]))).choose_spec
    g_is_whole := He.glo_ok X G (c.facts (f := .glo "is_whole") (by simp [fa]))
    g_is_between := He.glo_ok X G (c.facts (f := .glo "is_between") (by simp [fa]))
    g_check_length := He.glo_ok X G (c.facts (f := .glo "check_length") (by simp [fa]))
    g_is_stretch := He.glo_ok X G (c.facts (f := .glo "is_stretch") (by simp [fa]))
    g_check_parts := He.glo_ok X G (c.facts (f := .glo "check_parts") (by simp [fa]))
    g_has := He.glo_ok X G (c.facts (f := .glo "has") (by simp [fa]))
    g_whole_of := He.glo_ok X G (c.facts (f := .glo "whole_of") (by simp [fa]))
    g_whole := He.glo_ok X G (c.facts (f := .glo "whole") (by simp [fa]))
    g__law_draw := He.glo_ok X G (c.facts (f := .glo "_law_draw") (by simp [fa]))
    g__law_number := He.glo_ok X G (c.facts (f := .glo "_law_number") (by simp [fa]))
    g__law_cell_at := He.glo_ok X G (c.facts (f := .glo "_law_cell_at") (by simp [fa]))
    g__law_length := He.glo_ok X G (c.facts (f := .glo "_law_length") (by simp [fa]))
    g__law_parts := He.glo_ok X G (c.facts (f := .glo "_law_parts") (by simp [fa]))
    g_few := He.glo_ok X G (c.facts (f := .glo "few") (by simp [fa]))
    g__law_back_right := He.glo_ok X G (c.facts (f := .glo "_law_back_right") (by simp [fa]))
    g__law_has := He.glo_ok X G (c.facts (f := .glo "_law_has") (by simp [fa]))
    g__law_is_bare := He.glo_ok X G (c.facts (f := .glo "_law_is_bare") (by simp [fa]))
    g__law_bare := He.glo_ok X G (c.facts (f := .glo "_law_bare") (by simp [fa]))
    g__law_is_whole := He.glo_ok X G (c.facts (f := .glo "_law_is_whole") (by simp [fa]))
    g__law_due := He.glo_ok X G (c.facts (f := .glo "_law_due") (by simp [fa]))
    g__law_says := He.glo_ok X G (c.facts (f := .glo "_law_says") (by simp [fa]))
    g__law_numbers := He.glo_ok X G (c.facts (f := .glo "_law_numbers") (by simp [fa]))
    g__law_whole_number := He.glo_ok X G (c.facts (f := .glo "_law_whole_number") (by simp [fa]))
    g__law_right := He.glo_ok X G (c.facts (f := .glo "_law_right") (by simp [fa]))
    g_law := He.glo_ok X G (c.facts (f := .glo "law") (by simp [fa]))
    g_BadLength := He.glo_ok X G (c.facts (f := .glo "BadLength") (by simp [fa]))
    g_BadParts := He.glo_ok X G (c.facts (f := .glo "BadParts") (by simp [fa]))
    g_Whole := He.glo_ok X G (c.facts (f := .glo "Whole") (by simp [fa]))
    g_Bare := He.glo_ok X G (c.facts (f := .glo "Bare") (by simp [fa]))
    g_Right := He.glo_ok X G (c.facts (f := .glo "Right") (by simp [fa]))
    g_Answer := He.glo_ok X G (c.facts (f := .glo "Answer") (by simp [fa]))
    g_Wrong := He.glo_ok X G (c.facts (f := .glo "Wrong") (by simp [fa]))
    x_BadLength := He.exc_ok (c.facts (f := .exc "BadLength") (by simp [fa]))
    x_BadParts := He.exc_ok (c.facts (f := .exc "BadParts") (by simp [fa]))
    mk_Bare := He.mkr_ok (c.facts (f := .mkr "Bare") (by simp [fa]))
    mk_Whole := He.mkr_ok (c.facts (f := .mkr "Whole") (by simp [fa]))
    me_Bare_shows := He.meth_ok (c.facts (f := .meth "Bare" "shows") (by simp [fa]))
    me_Whole_shows := He.meth_ok (c.facts (f := .meth "Whole" "shows") (by simp [fa]))
    nl := e0
    c_Whole := He.cls_ok (c.facts (f := .cls "Whole") (by simp [fa]))
    c_Bare := He.cls_ok (c.facts (f := .cls "Bare") (by simp [fa]))
    ins := by
      intro z m
      simp only [List.mem_cons, List.mem_nil_iff, or_false] at m
      rcases m with rfl | rfl
      · exact insB_ok e1 (He.cls_ok (c.facts (f := .cls "Whole") (by simp [fa])))
      · exact insB_ok e2 (He.cls_ok (c.facts (f := .cls "Bare") (by simp [fa])))
    at_places := by
      intro z m
      simp only [cs_places, List.mem_cons, List.mem_nil_iff, or_false] at m
      rcases m with rfl
      · exact ⟨He.cls_ok (c.facts (f := .cls "Whole") (by simp [fa])), He.noat_ok (c.facts (f := .noat "Whole" "places") (by simp [fa]))⟩
    at_cuts := by
      intro z m
      simp only [cs_cuts, List.mem_cons, List.mem_nil_iff, or_false] at m
      rcases m with rfl
      · exact ⟨He.cls_ok (c.facts (f := .cls "Whole") (by simp [fa])), He.noat_ok (c.facts (f := .noat "Whole" "cuts") (by simp [fa]))⟩
    at_minutes := by
      intro z m
      simp only [cs_minutes, List.mem_cons, List.mem_nil_iff, or_false] at m
      rcases m with rfl
      · exact ⟨He.cls_ok (c.facts (f := .cls "Whole") (by simp [fa])), He.noat_ok (c.facts (f := .noat "Whole" "minutes") (by simp [fa]))⟩
    at_minute := by
      intro z m
      simp only [cs_minute, List.mem_cons, List.mem_nil_iff, or_false] at m
      rcases m with rfl
      · exact ⟨He.cls_ok (c.facts (f := .cls "Bare") (by simp [fa])), He.noat_ok (c.facts (f := .noat "Bare" "minute") (by simp [fa]))⟩
    k_Whole := e3
    k_Right := e4
    k_Bare := e5
    k_Answer := e6
    k_Wrong := e7
    fd_is_whole := (c.def_ 0 (d := d_is_whole) rfl).choose
    F_is_whole := (c.def_ 0 (d := d_is_whole) rfl).choose_spec
    fd_is_between := (c.def_ 1 (d := d_is_between) rfl).choose
    F_is_between := (c.def_ 1 (d := d_is_between) rfl).choose_spec
    fd_check_length := (c.def_ 2 (d := d_check_length) rfl).choose
    F_check_length := (c.def_ 2 (d := d_check_length) rfl).choose_spec
    fd_is_stretch := (c.def_ 3 (d := d_is_stretch) rfl).choose
    F_is_stretch := (c.def_ 3 (d := d_is_stretch) rfl).choose_spec
    fd_check_parts := (c.def_ 4 (d := d_check_parts) rfl).choose
    F_check_parts := (c.def_ 4 (d := d_check_parts) rfl).choose_spec
    fd_Whole_init := (c.def_ 5 (d := d_Whole_init) rfl).choose
    F_Whole_init := (c.def_ 5 (d := d_Whole_init) rfl).choose_spec
    fd_Bare_init := (c.def_ 6 (d := d_Bare_init) rfl).choose
    F_Bare_init := (c.def_ 6 (d := d_Bare_init) rfl).choose_spec
    fd_has := (c.def_ 7 (d := d_has) rfl).choose
    F_has := (c.def_ 7 (d := d_has) rfl).choose_spec
    fd_whole_of := (c.def_ 8 (d := d_whole_of) rfl).choose
    F_whole_of := (c.def_ 8 (d := d_whole_of) rfl).choose_spec
    fd_whole := (c.def_ 9 (d := d_whole) rfl).choose
    F_whole := (c.def_ 9 (d := d_whole) rfl).choose_spec
    fd__law_draw := (c.def_ 10 (d := d__law_draw) rfl).choose
    F__law_draw := (c.def_ 10 (d := d__law_draw) rfl).choose_spec
    fd__law_number := (c.def_ 11 (d := d__law_number) rfl).choose
    F__law_number := (c.def_ 11 (d := d__law_number) rfl).choose_spec
    fd__law_cell_at := (c.def_ 12 (d := d__law_cell_at) rfl).choose
    F__law_cell_at := (c.def_ 12 (d := d__law_cell_at) rfl).choose_spec
    fd__law_length := (c.def_ 13 (d := d__law_length) rfl).choose
    F__law_length := (c.def_ 13 (d := d__law_length) rfl).choose_spec
    fd__law_parts := (c.def_ 14 (d := d__law_parts) rfl).choose
    F__law_parts := (c.def_ 14 (d := d__law_parts) rfl).choose_spec
    fd_Bare_shows := (c.def_ 15 (d := d_Bare_shows) rfl).choose
    F_Bare_shows := (c.def_ 15 (d := d_Bare_shows) rfl).choose_spec
    fd_Whole_shows := (c.def_ 16 (d := d_Whole_shows) rfl).choose
    F_Whole_shows := (c.def_ 16 (d := d_Whole_shows) rfl).choose_spec
    fd_few := (c.def_ 17 (d := d_few) rfl).choose
    F_few := (c.def_ 17 (d := d_few) rfl).choose_spec
    fd__law_back_right := (c.def_ 18 (d := d__law_back_right) rfl).choose
    F__law_back_right := (c.def_ 18 (d := d__law_back_right) rfl).choose_spec
    fd__law_has := (c.def_ 19 (d := d__law_has) rfl).choose
    F__law_has := (c.def_ 19 (d := d__law_has) rfl).choose_spec
    fd__law_is_bare := (c.def_ 20 (d := d__law_is_bare) rfl).choose
    F__law_is_bare := (c.def_ 20 (d := d__law_is_bare) rfl).choose_spec
    fd__law_bare := (c.def_ 21 (d := d__law_bare) rfl).choose
    F__law_bare := (c.def_ 21 (d := d__law_bare) rfl).choose_spec
    fd__law_is_whole := (c.def_ 22 (d := d__law_is_whole) rfl).choose
    F__law_is_whole := (c.def_ 22 (d := d__law_is_whole) rfl).choose_spec
    fd__law_due := (c.def_ 23 (d := d__law_due) rfl).choose
    F__law_due := (c.def_ 23 (d := d__law_due) rfl).choose_spec
    fd__law_says := (c.def_ 24 (d := d__law_says) rfl).choose
    F__law_says := (c.def_ 24 (d := d__law_says) rfl).choose_spec
    fd__law_numbers := (c.def_ 25 (d := d__law_numbers) rfl).choose
    F__law_numbers := (c.def_ 25 (d := d__law_numbers) rfl).choose_spec
    fd__law_whole_number := (c.def_ 26 (d := d__law_whole_number) rfl).choose
    F__law_whole_number := (c.def_ 26 (d := d__law_whole_number) rfl).choose_spec
    fd__law_right := (c.def_ 27 (d := d__law_right) rfl).choose
    F__law_right := (c.def_ 27 (d := d__law_right) rfl).choose_spec
    fd_law := (c.def_ 28 (d := d_law) rfl).choose
    F_law := (c.def_ 28 (d := d_law) rfl).choose_spec }⟩
abbrev R : PySem.W.OpenRow := PySem.W.OpenLaw.row PySem.Challenge.rw_partfilm_k04_whole_whole
abbrev hk : PySem.W.Hook := He.hookX 4 fa fn [] [] ex
def ob (s : PySem.W.SharedT) : He.AlX := He.obsX 4 fa fn [] [] ex (HandSHeadRun.getT s)
theorem ob_eq (s : PySem.W.SharedT) : ob s = hk.obs s.abs := He.obsX_eq (HandSHeadRun.getT_eq s)
end W

namespace W
open PySem PySem.W PySem.Calls PyProof.Rows L2 Pf
abbrev nml : List PySem.Str := ("__name__" : PySem.Str) :: ("FilmError" : PySem.Str) :: ("BadLength" : PySem.Str) :: ("BadParts" : PySem.Str) :: ("LONGEST" : PySem.Str) :: ("MOST_PARTS" : PySem.Str) :: ("is_whole" : PySem.Str) :: ("is_between" : PySem.Str) :: ("check_length" : PySem.Str) :: ("is_stretch" : PySem.Str) :: ("check_parts" : PySem.Str) :: ("has" : PySem.Str) :: ("shared" : PySem.Str) :: ("Answer" : PySem.Str) :: ("Whole" : PySem.Str) :: ("Bare" : PySem.Str) :: ("Desk" : PySem.Str) :: ("can_come" : PySem.Str) :: ("wrong_of" : PySem.Str) :: ("Right" : PySem.Str) :: ("Wrong" : PySem.Str) :: ("whole_of" : PySem.Str) :: ("whole" : PySem.Str) :: ("few" : PySem.Str) :: ("_law_cell_at" : PySem.Str) :: ("_law_draw" : PySem.Str) :: ("_law_number" : PySem.Str) :: ("_law_parts" : PySem.Str) :: ("_law_length" : PySem.Str) :: ("_law_has" : PySem.Str) :: ("_law_is_whole" : PySem.Str) :: ("_law_is_bare" : PySem.Str) :: ("_law_bare" : PySem.Str) :: ("_law_whole_number" : PySem.Str) :: ("_law_says" : PySem.Str) :: ("_law_due" : PySem.Str) :: ("_law_numbers" : PySem.Str) :: ("_law_right" : PySem.Str) :: ("_law_back_right" : PySem.Str) :: []
theorem run (w : World) : HandSHeadRun.RunEq R (PySem.W.view R.prog [43]) hk ob 8000 nml w := by
  intro os
  kernel_rfl
theorem holds (pl : ∀ ns : List Int, ns.length ≤ 63 → f_law [scr ns] = .ok ⟨.own, .dat (.bool true)⟩) : PySem.Challenge.rw_partfilm_k04_whole_whole.Holds := by
  w_on; o_law
  refine HandSHeadRun.head_any (r := R) (q := view R.prog [43]) (H := W.hk) (ob := W.ob) (M := 8000) (loose := nml) (d := HandSHeadRun.topDef R.prog 43) (kwd := []) W.ob_eq
    (by kernel_rfl) (fun s => by kernel_rfl) W.run (by kernel_rfl) (by kernel_rfl) (by kernel_rfl) (by rfl) (by first | assumption | decide +kernel) (by decide +kernel) ⟨rfl, rfl, rfl, rfl, rfl, by decide +kernel⟩ ?hw ?hc
  case hw => w_witness2
  case hc =>
    refine walk_g (l := PySem.Challenge.rw_partfilm_k04_whole_whole) (n := 63) (k := 6) (x := "_law_script") rfl (by decide) (by kernel_rfl) ⟨rfl, by decide, by decide⟩ ?F
    · intro w mg f h Y G hmg0
      obtain ⟨K, KX, c⟩ := Y
      have hmg : mg ("law" : PySem.Str) = some (.ref f) := by
        have e : (HandSHeadRun.topDef R.prog 43).name = ("law" : PySem.Str) := by kernel_rfl
        rw [← e]
        exact hmg0
      obtain ⟨fx⟩ := W.facts KX G c.t.d c.more
      have e := hmg.symm.trans fx.g_law
      cases e
      have b := FunD.bindsA (ps := ["_law_script"]) fx.F_law fun _ _ _ _ _ _ us hl => match us, hl with | [_], _ => rfl
      exact ⟨K, fx.fd_law, spM K f_law, KX, fun s v => b s [v] rfl, fun H a ns hl hO hS => law_sp fx.nl hO hS (pl ns hl), fun base _ _ => ok_law fx⟩
end W

namespace W
open PySem Pf
theorem has_ok (p : Int × Int) (m : Int) : f_has [dp p, di m] = ob1 (hasI p m) := by
  have e : f_has [dp p, di m] = fin2 (ret1 (match decide (p.1 ≤ m) with | true => .ok ⟨.own, .dat (.bool (decide (m < p.2)))⟩ | false => .ok ⟨.own, .dat (.bool false)⟩) (initG 2 [dp p, di m])) := rfl
  rw [e]
  unfold hasI
  cases decide (p.1 ≤ m) <;> rfl
theorem is_whole_int (n : Int) : f_is_whole [di n] = ob1 true := rfl
theorem is_between_int (n lo hi : Int) : f_is_between [di n, di lo, di hi] = ob1 (decide (lo ≤ n) && decide (n ≤ hi)) := by
  have e : f_is_between [di n, di lo, di hi] = fin2 (ret1 (match decide (lo ≤ n) with | true => .ok ⟨.own, .dat (.bool (decide (n ≤ hi)))⟩ | false => .ok ⟨.own, .dat (.bool false)⟩) (initG 3 [di n, di lo, di hi])) := rfl
  rw [e]
  cases decide (lo ≤ n) <;> rfl
theorem check_length_ok {n : Int} (h : 1 ≤ n ∧ n ≤ 60) : f_check_length [di n] = od .none := by
  refine run_nx (Γ' := initG 1 [di n]) rfl ?_
  refine if_f (not_ok (x := true) (test_ok (fn_d (rs := [⟨.own, di n⟩, ⟨.own, di 1⟩, ⟨.own, di 60⟩]) rfl ?_)))
  have e := is_between_int n 1 60
  rw [decide_eq_true h.1, decide_eq_true h.2] at e
  exact e
theorem is_stretch_int (n a b : Int) : f_is_stretch [di n, di a, di b] = ob1 (decide (0 ≤ a) && decide (a < b) && decide (b ≤ n)) := by
  have e : f_is_stretch [di n, di a, di b] = fin2 (ret1 (match decide (0 ≤ a) with | true => (match decide (a < b) with | true => .ok ⟨.own, .dat (.bool (decide (b ≤ n)))⟩ | false => .ok ⟨.own, .dat (.bool false)⟩) | false => .ok ⟨.own, .dat (.bool false)⟩) (initG 3 [di n, di a, di b])) := rfl
  rw [e]
  cases decide (0 ≤ a) <;> cases decide (a < b) <;> rfl
def okP (n : Int) (p : Int × Int) : Prop := 0 ≤ p.1 ∧ p.1 < p.2 ∧ p.2 ≤ n
instance (n : Int) (p : Int × Int) : Decidable (okP n p) := inferInstanceAs (Decidable (_ ∧ _ ∧ _))
theorem chk_loop {n : Int} {L : PyData} : ∀ (ps : List (Int × Int)) (x : Option Rv), (∀ p ∈ ps, okP n p) → ∃ y, floop unN [2] (sIf (eOr (eNot (eT (eIsi tTuple (eVar 2)))) (eOr (eT (eOp2 pNe (eCall pLen (eCons (eVar 2) eNil)) (eC (.int 2)))) (eNot (eT (eFn f_is_stretch (eCons (eVar 0) (eCons (eOp2 pIx (eVar 2) (eC (.int 0))) (eCons (eOp2 pIx (eVar 2) (eC (.int 1))) eNil)))))))) (sRaise "BadParts") sSkip) (ps.map prD) [some ⟨.own, di n⟩, some ⟨.own, .dat L⟩, x] = .nx [some ⟨.own, di n⟩, some ⟨.own, .dat L⟩, y]
  | [], x, _ => ⟨x, rfl⟩
  | p :: ps, x, h => by
    obtain ⟨y, ih⟩ := chk_loop (L := L) ps (some ⟨.own, dp p⟩) fun q m => h q (List.mem_cons_of_mem _ m)
    refine ⟨y, (floop_nx (es := [prD p]) rfl ?_).trans ih⟩
    show sIf _ _ _ [some ⟨.own, di n⟩, some ⟨.own, .dat L⟩, some ⟨.own, dp p⟩] = _
    refine if_f (or_ok (x := false) (y := false) rfl fun _ => or_ok (x := false) (y := false) rfl fun _ => not_ok (x := true) (test_ok (fn_d (rs := [⟨.own, di n⟩, ⟨.own, di p.1⟩, ⟨.own, di p.2⟩]) rfl ?_)))
    obtain ⟨h1, h2, h3⟩ := h p List.mem_cons_self
    have e := is_stretch_int n p.1 p.2
    rw [decide_eq_true h1, decide_eq_true h2, decide_eq_true h3] at e
    exact e
theorem check_parts_ok {n : Int} {ps : List (Int × Int)} (h : ∀ p ∈ ps, okP n p) (hl : ps.length ≤ 40) : f_check_parts [di n, dps ps] = od .none := by
  obtain ⟨y, hy⟩ := chk_loop (n := n) (L := plD ps) ps none h
  refine run_nx rfl ((seq_nx (if_f (or_ok (x := false) (y := false) rfl fun _ => test_ok ?_))).trans ((for_ok (ds := ps.map prD) rfl).trans hy))
  refine op2_ok (r := ⟨.own, di (ps.map prD).length⟩) (r' := ⟨.own, di 40⟩) rfl rfl ?_
  show some (Sl.dat (.bool (decide (((ps.map prD).length : Int) > 40)))) = _
  rw [decide_eq_false]
  rw [List.length_map]
  omega
end W

namespace W
open PySem Pf
abbrev nL (xs : List Int) : Sl := .node .L (xs.map di)
theorem nL_its (xs : List Int) : itsS (nL xs) = some (xs.map .int) := datAll_dat PyData.int xs
theorem nL_new (xs : List Int) : newL (xs.map .int) = nL xs := by
  show Sl.node .L ((xs.map PyData.int).map Sl.dat) = _
  rw [List.map_map]
  rfl
theorem nL_list (xs : List Int) : pList [nL xs] = some (nL xs) := by
  show (match itsS (nL xs) with | some ds => some (newL ds) | none => none) = _
  rw [nL_its]
  dsimp only
  rw [nL_new]
theorem dL_list (xs : List Int) : pList [.dat (.list (xs.map .int))] = some (nL xs) := by
  show some (newL (xs.map .int)) = _
  rw [nL_new]
def wholeS (ps cs ms : List Int) : Sl := .node (.O "Whole" ["places", "cuts", "minutes"]) [nL ps, nL cs, nL ms]
def bareS (m : Int) : Sl := .node (.O "Bare" ["minute"]) [di m]
theorem bare_init (m : Int) : f_Bare_init [.node (.O "Bare" []) []] [di m] = .ok ⟨.own, .dat .none⟩ [bareS m] := rfl
theorem whole_init (ps cs ms : List Int) : f_Whole_init [.node (.O "Whole" []) []] [nL ps, nL cs, .dat (.list (ms.map .int))] = .ok ⟨.own, .dat .none⟩ [wholeS ps cs ms] := by
  have h1 : eCall pList (eCons (eVar 1) eNil) [some ⟨.own, .node (.O "Whole" []) []⟩, some ⟨.par, nL ps⟩, some ⟨.par, nL cs⟩, some ⟨.own, .dat (.list (ms.map .int))⟩] = .ok ⟨.own, nL ps⟩ := call_ok (rs := [⟨.par, nL ps⟩]) rfl (nL_list ps)
  have h2 : eCall pList (eCons (eVar 2) eNil) [some ⟨.own, .node (.O "Whole" ["places"]) [nL ps]⟩, some ⟨.par, nL ps⟩, some ⟨.par, nL cs⟩, some ⟨.own, .dat (.list (ms.map .int))⟩] = .ok ⟨.own, nL cs⟩ := call_ok (rs := [⟨.par, nL cs⟩]) rfl (nL_list cs)
  have h3 : eCall pList (eCons (eVar 3) eNil) [some ⟨.own, .node (.O "Whole" ["places", "cuts"]) [nL ps, nL cs]⟩, some ⟨.par, nL ps⟩, some ⟨.par, nL cs⟩, some ⟨.own, .dat (.list (ms.map .int))⟩] = .ok ⟨.own, nL ms⟩ := call_ok (rs := [⟨.own, .dat (.list (ms.map .int))⟩]) rfl (dL_list ms)
  have e1 : sFldS 0 cs_places "places" (eCall pList (eCons (eVar 1) eNil)) [some ⟨.own, .node (.O "Whole" []) []⟩, some ⟨.par, nL ps⟩, some ⟨.par, nL cs⟩, some ⟨.own, .dat (.list (ms.map .int))⟩] = .nx [some ⟨.own, .node (.O "Whole" ["places"]) [nL ps]⟩, some ⟨.par, nL ps⟩, some ⟨.par, nL cs⟩, some ⟨.own, .dat (.list (ms.map .int))⟩] := by
    unfold sFldS
    rw [h1]
    rfl
  have e2 : sFldS 0 cs_cuts "cuts" (eCall pList (eCons (eVar 2) eNil)) [some ⟨.own, .node (.O "Whole" ["places"]) [nL ps]⟩, some ⟨.par, nL ps⟩, some ⟨.par, nL cs⟩, some ⟨.own, .dat (.list (ms.map .int))⟩] = .nx [some ⟨.own, .node (.O "Whole" ["places", "cuts"]) [nL ps, nL cs]⟩, some ⟨.par, nL ps⟩, some ⟨.par, nL cs⟩, some ⟨.own, .dat (.list (ms.map .int))⟩] := by
    unfold sFldS
    rw [h2]
    rfl
  have e3 : sFldS 0 cs_minutes "minutes" (eCall pList (eCons (eVar 3) eNil)) [some ⟨.own, .node (.O "Whole" ["places", "cuts"]) [nL ps, nL cs]⟩, some ⟨.par, nL ps⟩, some ⟨.par, nL cs⟩, some ⟨.own, .dat (.list (ms.map .int))⟩] = .nx [some ⟨.own, wholeS ps cs ms⟩, some ⟨.par, nL ps⟩, some ⟨.par, nL cs⟩, some ⟨.own, .dat (.list (ms.map .int))⟩] := by
    unfold sFldS
    rw [h3]
    rfl
  have e : m_Whole_init [some ⟨.own, .node (.O "Whole" []) []⟩, some ⟨.par, nL ps⟩, some ⟨.par, nL cs⟩, some ⟨.own, .dat (.list (ms.map .int))⟩] = .nx [some ⟨.own, wholeS ps cs ms⟩, some ⟨.par, nL ps⟩, some ⟨.par, nL cs⟩, some ⟨.own, .dat (.list (ms.map .int))⟩] := (seq_nx e1).trans ((seq_nx e2).trans e3)
  show fin3 1 (m_Whole_init [some ⟨.own, .node (.O "Whole" []) []⟩, some ⟨.par, nL ps⟩, some ⟨.par, nL cs⟩, some ⟨.own, .dat (.list (ms.map .int))⟩]) = _
  rw [e]
  rfl
/-! the parts that have a minute -/
def cand (ps : List (Int × Int)) (here : Int) : List (Int × Int) := (ps.zipIdx.filter fun q => hasI q.1 here).map fun q => (q.1.2, (q.2 : Int))
theorem enum_zip : ∀ (ps : List (Int × Int)) (k : Nat), enumD k (ps.map prD) = (ps.zipIdx k).map fun q => PyData.tuple [.int (q.2 : Int), prD q.1]
  | [], _ => rfl
  | p :: ps, k => by
    show PyData.tuple [.int (k : Int), prD p] :: enumD (k + 1) (ps.map prD) = _
    rw [enum_zip ps (k + 1)]
    rfl
theorem lay_prs : ∀ ps : List (Int × Int), PyData.canLayAll0 (ps.map prD) = true
  | [] => rfl
  | p :: ps => by
    show (PyData.canLay0 (prD p) && PyData.canLayAll0 (ps.map prD)) = true
    rw [lay_prs ps]
    rfl
theorem shp_prs (ps : List (Int × Int)) : shp (plD ps) = true := by
  show (PyData.canLayAll0 (ps.map prD) && decide (PyData.depthAll (ps.map prD) + 1 ≤ 64)) = true
  have h := depth_pr ps
  rw [lay_prs, decide_eq_true (by omega)]
  rfl
theorem lay_ints : ∀ ns : List Int, PyData.canLayAll0 (ns.map .int) = true ∧ PyData.depthAll (ns.map .int) = 0
  | [] => ⟨rfl, rfl⟩
  | n :: ns => by
    obtain ⟨h1, h2⟩ := lay_ints ns
    constructor
    · show (PyData.canLay0 (.int n) && PyData.canLayAll0 (ns.map .int)) = true
      rw [h1]
      rfl
    · show max (PyData.depth (.int n)) (PyData.depthAll (ns.map .int)) = 0
      rw [h2]
      rfl
theorem shp_ints (ns : List Int) : shp (.list (ns.map .int)) = true := by
  show (PyData.canLayAll0 (ns.map .int) && decide (PyData.depthAll (ns.map .int) + 1 ≤ 64)) = true
  rw [(lay_ints ns).1, (lay_ints ns).2]
  rfl
theorem eqv_pr (p q : Int × Int) : PyData.eqv (prD p) (prD q) = decide (p = q) := by
  obtain ⟨a, b⟩ := p
  obtain ⟨c, d⟩ := q
  show ((a == c) && ((b == d) && true)) = _
  by_cases h1 : a = c <;> by_cases h2 : b = d <;> simp [h1, h2]
theorem eqv_prs : ∀ (ps qs : List (Int × Int)), PyData.eqvAll (ps.map prD) (qs.map prD) = decide (ps = qs)
  | [], [] => rfl
  | [], _ :: _ => rfl
  | _ :: _, [] => rfl
  | p :: ps, q :: qs => by
    show (PyData.eqv (prD p) (prD q) && PyData.eqvAll (ps.map prD) (qs.map prD)) = _
    rw [eqv_pr, eqv_prs ps qs]
    by_cases h1 : p = q <;> by_cases h2 : ps = qs <;> simp [h1, h2]
theorem eqv_ints : ∀ (ps qs : List Int), PyData.eqvAll (ps.map .int) (qs.map .int) = decide (ps = qs)
  | [], [] => rfl
  | [], _ :: _ => rfl
  | _ :: _, [] => rfl
  | p :: ps, q :: qs => by
    show ((p == q) && PyData.eqvAll (ps.map .int) (qs.map .int)) = _
    rw [eqv_ints ps qs]
    by_cases h1 : p = q <;> by_cases h2 : ps = qs <;> simp [h1, h2]
theorem eq_prs (ps qs : List (Int × Int)) : pEq [dps ps, dps qs] = some (.dat (.bool (decide (ps = qs)))) := by
  show (if shp (plD ps) = true ∧ shp (plD qs) = true then some (Sl.dat (.bool (PyData.eqvAll (ps.map prD) (qs.map prD)))) else none) = _
  rw [if_pos ⟨shp_prs ps, shp_prs qs⟩, eqv_prs]
theorem ne_prs (ps qs : List (Int × Int)) : pNe [dps ps, dps qs] = some (.dat (.bool (!decide (ps = qs)))) := by
  show (if shp (plD ps) = true ∧ shp (plD qs) = true then some (Sl.dat (.bool (!PyData.eqvAll (ps.map prD) (qs.map prD)))) else none) = _
  rw [if_pos ⟨shp_prs ps, shp_prs qs⟩, eqv_prs]
theorem eq_nil (ps : List (Int × Int)) : pEq [dps ps, .dat (.list [])] = some (.dat (.bool (decide (ps = [])))) := eq_prs ps []
theorem prs_map : ∀ ps : List (Int × Int), prsOf (ps.map prD) = some ps
  | [] => rfl
  | p :: ps => by
    show (prsOf (ps.map prD)).map ((p.1, p.2) :: ·) = _
    rw [prs_map ps]
    rfl
theorem max_prs (p : Int × Int) (ps : List (Int × Int)) : pMax [dps (p :: ps)] = some (dp (mxP ps p)) := by
  show (match prsOf ((p :: ps).map prD) with | some (p :: ps) => some (Sl.dat (prD (mxP ps p))) | _ => none) = _
  rw [prs_map]
inductive Wr where
  | bare (m : Int) | whole (ps cs : List Int)
  deriving DecidableEq
def Wr.sl : Wr → Sl
  | .bare m => bareS m
  | .whole ps cs => wholeS ps cs (cs.take (cs.length - 1))
/-- the greedy walk -/
def wlp (ps : List (Int × Int)) (n : Int) : Nat → Int → List Int → List Int → Option Wr
  | 0, _, _, _ => none
  | k + 1, here, pl, cs => if here < n then (match cand ps here with
    | [] => some (.bare here)
    | c :: r => wlp ps n k (mxP r c).1 (pl ++ [(mxP r c).2]) (cs ++ [(mxP r c).1])) else some (.whole pl cs)
def wOf (n : Int) (ps : List (Int × Int)) : Option Wr := wlp ps n 200 0 [] [0]
def gW (n : Int) (ps : List (Int × Int)) (pl cs : List Int) (here : Int) (a b c : Option Rv) : Gm := [some ⟨.own, di n⟩, some ⟨.own, dps ps⟩, some ⟨.own, nL pl⟩, some ⟨.own, nL cs⟩, some ⟨.own, di here⟩, a, b, c]
def cW : MrT := eT (eOp2 pLt (eVar 4) (eVar 0))
def sW : Mr := eFrz (eComp (iEn (eCons (eVar 1) eNil)) (unT 2) [6, 7] (eT (eFn f_has (eCons (eVar 7) (eCons (eVar 4) eNil)))) (eFrz (eSeq .T (eCons (eOp2 pIx (eVar 7) (eC (.int 1))) (eCons (eVar 6) eNil)))) [6, 7])
def bW : MrS := (sSeq (sAsg 5 sW)
 (sSeq (sIf (eT (eOp2 pEq (eVar 5) (eFrz (eSeq .L eNil)))) (sRet (eMake "Bare" f_Bare_init (eCons (eVar 4) eNil))) sSkip)
 (sSeq (sUnp [4, 6] (eCall pMax (eCons (eVar 5) eNil)))
 (sSeq (sApp 2 (eVar 6))
 (sApp 3 (eVar 4))))))
theorem some_ok (n : Int) (ps : List (Int × Int)) (pl cs : List Int) (here : Int) (a b c : Option Rv) (hl : ps.length ≤ 40) : sW (gW n ps pl cs here a b c) = od (plD (cand ps here)) := by
  have e : od (plD (cand ps here)) = od (.list ((ps.zipIdx.filter fun q => hasI q.1 here).map fun q => prD (q.1.2, (q.2 : Int)))) := by
    unfold plD cand
    rw [List.map_map]
    rfl
  rw [e]
  refine compF_ok (fl := true) (xs := ps.zipIdx) (fun q => PyData.tuple [.int (q.2 : Int), prD q.1]) (fun q => [.int (q.2 : Int), prD q.1]) (fun q => hasI q.1 here) (fun q => prD (q.1.2, (q.2 : Int))) ?_ (fun q => rfl) (fun q _ => ?_) (fun q _ _ => ?_) ?_
  · rw [← enum_zip]
    rfl
  · exact test_ok (fn_d (rs := [⟨.own, dp q.1⟩, ⟨.own, di here⟩]) rfl (has_ok q.1 here))
  · rfl
  · rw [List.length_zipIdx]
    exact Nat.le_trans hl (by decide)
end W

namespace W
open PySem Pf
theorem app_int {i : Nat} {Γ : Gm} {xs : List Int} {m : Mr} {k : Int} (hg : Γ[i]? = some (some ⟨.own, nL xs⟩)) (h : m Γ = oi k) (hl : xs.length < most) : sApp i m Γ = .nx (Γ.set i (some ⟨.own, nL (xs ++ [k])⟩)) := by
  show app1 i Γ (m Γ) = _
  rw [h]
  unfold app1
  rw [hg]
  show (if (xs.map di).length < most then Oz.nx (Γ.set i (some ⟨.own, .node .L (xs.map di ++ [di k])⟩)) else .no) = _
  rw [if_pos (by rw [List.length_map]; exact hl)]
  show _ = Oz.nx (Γ.set i (some ⟨.own, .node .L ((xs ++ [k]).map di)⟩))
  rw [List.map_append]
  rfl
theorem wl_ok (n : Int) (ps : List (Int × Int)) (hl : ps.length ≤ 40) : ∀ (k : Nat) (here : Int) (pl cs : List Int) (a b c : Option Rv), pl.length + k ≤ 1000 → cs.length + k ≤ 1001 →
    (∀ m, wlp ps n k here pl cs = some (.bare m) → ∃ Γ', wloop cW bW k (gW n ps pl cs here a b c) = .rt ⟨.own, bareS m⟩ Γ') ∧
    (∀ pl' cs', wlp ps n k here pl cs = some (.whole pl' cs') → ∃ h a' b' c', wloop cW bW k (gW n ps pl cs here a b c) = .nx (gW n ps pl' cs' h a' b' c'))
  | 0, _, _, _, _, _, _, _, _ => ⟨fun _ h => (nomatch h), fun _ _ h => (nomatch h)⟩
  | k + 1, here, pl, cs, a, b, c, l1, l2 => by
    by_cases hn : here < n
    · have hc : cW (gW n ps pl cs here a b c) = .ok true := by
        have e : cW (gW n ps pl cs here a b c) = .ok (decide (here < n)) := rfl
        rw [e, decide_eq_true hn]
      have e1 : sAsg 5 sW (gW n ps pl cs here a b c) = .nx (gW n ps pl cs here (some ⟨.own, dps (cand ps here)⟩) b c) := asg_ok (some_ok n ps pl cs here a b c hl)
      have e2 : eT (eOp2 pEq (eVar 5) (eFrz (eSeq .L eNil))) (gW n ps pl cs here (some ⟨.own, dps (cand ps here)⟩) b c) = .ok (decide (cand ps here = [])) := test_ok (op2_ok (r := ⟨.own, dps (cand ps here)⟩) (r' := ⟨.own, .dat (.list [])⟩) rfl rfl (eq_nil _))
      have st : wlp ps n (k + 1) here pl cs = (match cand ps here with | [] => some (.bare here) | c :: r => wlp ps n k (mxP r c).1 (pl ++ [(mxP r c).2]) (cs ++ [(mxP r c).1])) := by
        rw [wlp, if_pos hn]
        all_goals (cases cand ps here <;> rfl)
      rw [st]
      cases q : cand ps here with
      | nil =>
        rw [q] at e2
        have e3 : bW (gW n ps pl cs here a b c) = .rt ⟨.own, bareS here⟩ (gW n ps pl cs here (some ⟨.own, dps (cand ps here)⟩) b c) := (seq_nx e1).trans (seq_rt ((if_t (by rw [q]; exact e2)).trans (ret_ok rfl)))
        refine ⟨fun m h => ?_, fun _ _ h => (nomatch h)⟩
        cases h
        exact ⟨_, wl_rt hc e3⟩
      | cons p r =>
        rw [q] at e1 e2
        have e2' : eT (eOp2 pEq (eVar 5) (eFrz (eSeq .L eNil))) (gW n ps pl cs here (some ⟨.own, dps (p :: r)⟩) b c) = .ok false := e2
        have e4 : sUnp [4, 6] (eCall pMax (eCons (eVar 5) eNil)) (gW n ps pl cs here (some ⟨.own, dps (p :: r)⟩) b c) = .nx (gW n ps pl cs (mxP r p).1 (some ⟨.own, dps (p :: r)⟩) (some ⟨.own, di (mxP r p).2⟩) c) := by
          have h0 : eCall pMax (eCons (eVar 5) eNil) (gW n ps pl cs here (some ⟨.own, dps (p :: r)⟩) b c) = .ok ⟨.own, dp (mxP r p)⟩ := call_ok (rs := [⟨.own, dps (p :: r)⟩]) rfl (max_prs p r)
          unfold sUnp
          rw [h0]
          rfl
        have e5 : sApp 2 (eVar 6) (gW n ps pl cs (mxP r p).1 (some ⟨.own, dps (p :: r)⟩) (some ⟨.own, di (mxP r p).2⟩) c) = .nx (gW n ps (pl ++ [(mxP r p).2]) cs (mxP r p).1 (some ⟨.own, dps (p :: r)⟩) (some ⟨.own, di (mxP r p).2⟩) c) := app_int (xs := pl) rfl rfl (by unfold most; omega)
        have e6 : sApp 3 (eVar 4) (gW n ps (pl ++ [(mxP r p).2]) cs (mxP r p).1 (some ⟨.own, dps (p :: r)⟩) (some ⟨.own, di (mxP r p).2⟩) c) = .nx (gW n ps (pl ++ [(mxP r p).2]) (cs ++ [(mxP r p).1]) (mxP r p).1 (some ⟨.own, dps (p :: r)⟩) (some ⟨.own, di (mxP r p).2⟩) c) := app_int (xs := cs) rfl rfl (by unfold most; omega)
        have eb : bW (gW n ps pl cs here a b c) = .nx (gW n ps (pl ++ [(mxP r p).2]) (cs ++ [(mxP r p).1]) (mxP r p).1 (some ⟨.own, dps (p :: r)⟩) (some ⟨.own, di (mxP r p).2⟩) c) :=
          (seq_nx e1).trans ((seq_nx (if_f e2')).trans ((seq_nx e4).trans ((seq_nx e5).trans e6)))
        rw [wl_nx hc eb]
        exact wl_ok n ps hl k _ _ _ _ _ _ (by rw [List.length_append]; simp only [List.length_cons, List.length_nil]; omega) (by rw [List.length_append]; simp only [List.length_cons, List.length_nil]; omega)
    · have hc : cW (gW n ps pl cs here a b c) = .ok false := by
        have e : cW (gW n ps pl cs here a b c) = .ok (decide (here < n)) := rfl
        rw [e, decide_eq_false hn]
      have st : wlp ps n (k + 1) here pl cs = some (.whole pl cs) := by
        rw [wlp, if_neg hn]
      rw [st, wl_end hc]
      refine ⟨fun _ h => (nomatch h), fun pl' cs' h => ?_⟩
      cases h
      exact ⟨_, _, _, _, rfl⟩
theorem cut_last (cs : List Int) : cutD (cs.map .int) none (some (-1)) = (cs.take (cs.length - 1)).map PyData.int := by
  unfold cutD
  have e : HT.sIx (cs.map PyData.int).length 0 none = 0 := rfl
  have e2 : HT.sIx (cs.map PyData.int).length (cs.map PyData.int).length (some (-1)) = cs.length - 1 := by
    rw [List.length_map]
    show (if (-1 : Int) < 0 then ((-1 : Int) + (cs.length : Int)).toNat else min (-1 : Int).toNat cs.length) = _
    rw [if_pos (by decide)]
    omega
  rw [e, e2, List.drop_zero, List.map_take]
  rfl
theorem whole_of_ok (n : Int) (ps : List (Int × Int)) (hl : ps.length ≤ 40) {r : Wr} (h : wOf n ps = some r) : f_whole_of [di n, dps ps] = .ok ⟨.own, r.sl⟩ := by
  have e0 : sUnp [2, 3, 4] (eSeq .T (eCons (eSeq .L eNil) (eCons (eSeq .L (eCons (eC (.int 0)) eNil)) (eCons (eC (.int 0)) eNil)))) (initG 8 [di n, dps ps]) = .nx (gW n ps [] [0] 0 none none none) := rfl
  obtain ⟨h1, h2⟩ := wl_ok n ps hl 200 0 [] [0] none none none (by decide) (by decide)
  cases r with
  | bare m =>
    obtain ⟨Γ', e⟩ := h1 m h
    exact run_rt rfl ((seq_nx e0).trans (seq_rt e))
  | whole pl cs =>
    obtain ⟨hh, a, b, c, e⟩ := h2 pl cs h
    refine run_rt (Γ' := gW n ps pl cs hh a b c) rfl ((seq_nx e0).trans ((seq_nx e).trans (ret_ok ?_)))
    have ec : eFrz (eCut (eVar 3) eNoP (eP (eOp1 pNeg (eC (.int 1))))) (gW n ps pl cs hh a b c) = od (.list ((cs.take (cs.length - 1)).map .int)) := by
      have e1 : eCut (eVar 3) eNoP (eP (eOp1 pNeg (eC (.int 1)))) (gW n ps pl cs hh a b c) = .ok ⟨.own, newL ((cs.take (cs.length - 1)).map .int)⟩ := by
        have e2 : eCut (eVar 3) eNoP (eP (eOp1 pNeg (eC (.int 1)))) (gW n ps pl cs hh a b c) = (match itsS (nL cs) with | some ds => Rz.ok (⟨.own, newL (cutD ds none (some (-1)))⟩ : Rv) | none => .no) := rfl
        rw [e2, nL_its]
        dsimp only
        rw [cut_last]
      refine frz_ok e1 ?_
      rw [nL_new]
      exact toD_dat PyData.int _
    have ea : eCons (eVar 2) (eCons (eVar 3) (eCons (eFrz (eCut (eVar 3) eNoP (eP (eOp1 pNeg (eC (.int 1)))))) eNil)) (gW n ps pl cs hh a b c) = .ok [⟨.bor, nL pl⟩, ⟨.bor, nL cs⟩, ⟨.own, .dat (.list ((cs.take (cs.length - 1)).map .int))⟩] :=
      cons_ok rfl (cons_ok rfl (cons_ok ec rfl))
    show (eCons (eVar 2) (eCons (eVar 3) (eCons (eFrz (eCut (eVar 3) eNoP (eP (eOp1 pNeg (eC (.int 1)))))) eNil)) (gW n ps pl cs hh a b c)).bind (fun rs => mk1 (f_Whole_init [.node (.O "Whole" []) []] (rs.map Rv.s))) = _
    rw [ea]
    show mk1 (f_Whole_init [.node (.O "Whole" []) []] [nL pl, nL cs, .dat (.list ((cs.take (cs.length - 1)).map .int))]) = _
    rw [whole_init]
    rfl
abbrev nP (xs : List (Int × Int)) : Sl := .node .L (xs.map dp)
end W

namespace W
open PySem Pf
def fewW : Wr → PyData
  | .bare _ => .none
  | .whole pl _ => .int pl.length
theorem few_ok {n : Int} {ps : List (Int × Int)} (hn : 1 ≤ n ∧ n ≤ 60) (h : ∀ p ∈ ps, okP n p) (hl : ps.length ≤ 40) {r : Wr} (hw : wOf n ps = some r) : f_few [di n, dps ps] = od (fewW r) := by
  have e := fn_ok (Γ := initG 3 [di n, dps ps]) (ma := eCons (eVar 0) (eCons (eVar 1) eNil)) (f := f_whole_of) (rs := [⟨.own, di n⟩, ⟨.own, dps ps⟩]) rfl (whole_of_ok n ps hl hw)
  have e' : eFn f_whole_of (eCons (eVar 0) (eCons (eVar 1) eNil)) (initG 3 [di n, dps ps]) = .ok ⟨.own, r.sl⟩ := by
    rw [e]
    cases r <;> rfl
  refine run_rt (Γ' := [some ⟨.own, di n⟩, some ⟨.own, dps ps⟩, some ⟨.own, r.sl⟩]) rfl ((seq_nx (exp_ok (fn_d (rs := [⟨.own, di n⟩]) rfl (check_length_ok hn)))).trans ((seq_nx (exp_ok (fn_d (rs := [⟨.own, di n⟩, ⟨.own, dps ps⟩]) rfl (check_parts_ok h hl)))).trans ((seq_nx (asg_ok e')).trans (ret_ok ?_))))
  cases r with
  | bare m => rfl
  | whole pl cs =>
    have z : pLen [nL pl] = some (di pl.length) := by
      show (match sIt (nL pl) with | some (_, ds) => some (Sl.dat (.int ds.length)) | none => none) = _
      unfold sIt
      rw [nL_its]
      dsimp only
      rw [List.length_map]
    exact call_ok (Γ := [some ⟨.own, di n⟩, some ⟨.own, dps ps⟩, some ⟨.own, wholeS pl cs (cs.take (cs.length - 1))⟩]) (ma := eCons (eFld cs_places "places" (eVar 2)) eNil) (rs := [⟨.bor, nL pl⟩]) rfl z
end W

namespace W
open PySem Pf
theorem whole_ok {n : Int} {ps : List (Int × Int)} (hn : 1 ≤ n ∧ n ≤ 60) (h : ∀ p ∈ ps, okP n p) (hl : ps.length ≤ 40) {r : Wr} (hw : wOf n ps = some r) : f_whole [di n, dps ps] = .ok ⟨.own, r.sl⟩ := by
  refine run_rt (Γ' := initG 2 [di n, dps ps]) rfl ((seq_nx (exp_ok (fn_d (rs := [⟨.own, di n⟩]) rfl (check_length_ok hn)))).trans ((seq_nx (exp_ok (fn_d (rs := [⟨.own, di n⟩, ⟨.own, dps ps⟩]) rfl (check_parts_ok h hl)))).trans (ret_ok ?_)))
  have e := fn_ok (Γ := initG 2 [di n, dps ps]) (ma := eCons (eVar 0) (eCons (eVar 1) eNil)) (f := f_whole_of) (rs := [⟨.own, di n⟩, ⟨.own, dps ps⟩]) rfl (whole_of_ok n ps hl hw)
  rw [e]
  cases r <;> rfl
end W

namespace W
open PySem Pf
def cellI (ns : List Int) (k : Nat) : Int := ns.getD k 0
theorem scr_its (ns : List Int) : itsS (scr ns) = some (ns.map .int) := datAll_dat PyData.int ns
theorem cell_ok (ns : List Int) (k : Nat) : f__law_cell_at [scr ns, di k] = oi (cellI ns k) := by
  have e1 : eCall pLen (eCons (eVar 0) eNil) (initG 2 [scr ns, di k]) = oi ns.length := by
    refine call_ok (rs := [⟨.par, scr ns⟩]) rfl ?_
    show (match sIt (scr ns) with | some (_, ds) => some (Sl.dat (.int ds.length)) | none => none) = _
    unfold sIt
    rw [scr_its]
    dsimp only
    rw [List.length_map]
  have e2 : eT (eOp2 pLt (eVar 1) (eCall pLen (eCons (eVar 0) eNil))) (initG 2 [scr ns, di k]) = .ok (decide ((k : Int) < ns.length)) := test_ok (op2_ok (r := ⟨.own, di k⟩) rfl e1 rfl)
  by_cases c : k < ns.length
  · rw [decide_eq_true (by omega)] at e2
    refine run_rt (Γ' := initG 2 [scr ns, di k]) rfl (seq_rt ((if_t e2).trans (ret_ok (op2_ok (r := ⟨.par, scr ns⟩) (r' := ⟨.own, di k⟩) rfl rfl ?_))))
    show (match sIt (scr ns) with | some (_, ds) => (L2.atI ds k).map Sl.dat | none => none) = _
    unfold sIt
    rw [scr_its]
    show (L2.atI (ns.map .int) k).map Sl.dat = _
    unfold L2.atI L2.ixN
    rw [List.length_map, if_pos (by omega), if_pos (by omega)]
    show ((ns.map PyData.int)[((k : Int)).toNat]?).map Sl.dat = _
    rw [Int.toNat_natCast, List.getElem?_map, List.getElem?_eq_getElem c]
    unfold cellI
    rw [List.getD_eq_getElem?_getD, List.getElem?_eq_getElem c]
    rfl
  · rw [decide_eq_false (by omega)] at e2
    refine run_rt (Γ' := initG 2 [scr ns, di k]) rfl ((seq_nx (if_f e2)).trans (ret_ok ?_))
    unfold cellI
    rw [List.getD_eq_getElem?_getD, List.getElem?_eq_none (by omega)]
    rfl
def primes : List Int := [1000003, 1000033, 1000037, 1000039, 1000081, 1000099, 1000117, 1000121, 1000133, 1000151, 1000159, 1000171, 1000183, 1000187, 1000193, 1000199]
def drawI (c : Int) (k : Nat) (m : Int) : Int := (c * 48271 + (k : Int) * 69621) % (primes.getD (k % 16) 1) % m
def sevens : List Int := [1, 7, 49, 343, 2401]
def numI (c : Int) (k : Nat) (lim : Int) : Int := if c ≥ 10 ^ 18 then (c - 10 ^ 18) / (sevens.getD (k % 5) 1) % lim else
  drawI ((c % 1000003 + 977 * (k : Int)) * (c % 1000003 + 31 * (k : Int) + 5)) (k % 9 + 1) 999983 % lim
theorem mul_int {a b : Int} (h : (-(2 ^ 64) < a ∧ a < 2 ^ 64) ∨ (-(2 ^ 64) < b ∧ b < 2 ^ 64)) : pMul [di a, di b] = some (di (a * b)) := by
  show (dMulI a b).map Sl.dat = _
  unfold dMulI
  rw [if_pos h]
  rfl
theorem mod_int {a b : Int} (h : 0 < b) : pMod [di a, di b] = some (di (a % b)) := by
  show (dMod a b).map Sl.dat = _
  unfold dMod
  rw [if_pos h]
  rfl
theorem div_int {a b : Int} (h : 0 < b ∧ b < 1073741824) : pDiv [di a, di b] = some (di (a / b)) := by
  show (dDiv a b).map Sl.dat = _
  unfold dDiv
  rw [if_pos h]
  rfl
theorem modc (k : Nat) (b : Nat) (h : 0 < b) : pMod [di k, di b] = some (di ((k % b : Nat) : Int)) := by
  rw [mod_int (by omega)]
  rfl
theorem tup_ix {ds : List Int} {k : Nat} (h : k < ds.length) : pIx [.dat (.tuple (ds.map .int)), di k] = some (di (ds.getD k 1)) := by
  show (L2.atI (ds.map .int) k).map Sl.dat = _
  unfold L2.atI L2.ixN
  rw [List.length_map, if_pos (by omega), if_pos (by omega)]
  show ((ds.map PyData.int)[((k : Int)).toNat]?).map Sl.dat = _
  rw [Int.toNat_natCast, List.getElem?_map, List.getElem?_eq_getElem h, List.getD_eq_getElem?_getD, List.getElem?_eq_getElem h]
  rfl
theorem pos_of (ds : List Int) (hd : ∀ d ∈ ds, 0 < d ∧ d < 1073741824) {k : Nat} (h : k < ds.length) : 0 < ds.getD k 1 ∧ ds.getD k 1 < 1073741824 := by
  rw [List.getD_eq_getElem?_getD, List.getElem?_eq_getElem h]
  exact hd _ (List.getElem_mem h)
theorem draw_ok (c : Int) (k : Nat) (m : Int) (hm : 0 < m) : f__law_draw [di c, di k, di m] = oi (drawI c k m) := by
  have hk : k % 16 < primes.length := Nat.mod_lt _ (by decide)
  obtain ⟨p0, p1⟩ := pos_of primes (by decide) hk
  refine run_rt (Γ' := [some ⟨.own, di c⟩, some ⟨.own, di k⟩, some ⟨.own, di m⟩, some ⟨.own, .dat (.tuple (primes.map .int))⟩]) rfl ((seq_nx rfl).trans (ret_ok ?_))
  refine op2_ok (op2_ok (op2_ok (op2_ok (r := ⟨.own, di c⟩) (r' := ⟨.own, di 48271⟩) rfl rfl (mul_int (.inr (by decide)))) (op2_ok (r := ⟨.own, di k⟩) (r' := ⟨.own, di 69621⟩) rfl rfl (mul_int (.inr (by decide)))) rfl) (op2_ok (r := ⟨.own, .dat (.tuple (primes.map .int))⟩) rfl (op2_ok (r := ⟨.own, di k⟩) (r' := ⟨.own, di 16⟩) rfl rfl (modc k 16 (by decide))) (tup_ix hk)) (mod_int p0)) (r' := ⟨.own, di m⟩) rfl (mod_int hm)
theorem num_ok (c : Int) (k : Nat) (lim : Int) (hk : k ≤ 100000) (hl : 0 < lim) : f__law_number [di c, di k, di lim] = oi (numI c k lim) := by
  have e0 : eT (eOp2 pGe (eVar 0) (eOp2 pPow (eC (.int 10)) (eC (.int 18)))) (initG 4 [di c, di k, di lim]) = .ok (decide (c ≥ 10 ^ 18)) := rfl
  unfold numI
  by_cases h : c ≥ 10 ^ 18
  · rw [if_pos h]
    rw [decide_eq_true h] at e0
    have h5 : k % 5 < sevens.length := Nat.mod_lt _ (by decide)
    obtain ⟨p0, p1⟩ := pos_of sevens (by decide) h5
    refine run_rt (Γ' := initG 4 [di c, di k, di lim]) rfl (seq_rt ((if_t e0).trans (ret_ok ?_)))
    exact op2_ok (op2_ok (r := ⟨.own, di (c - 10 ^ 18)⟩) rfl (op2_ok (r := ⟨.own, .dat (.tuple (sevens.map .int))⟩) rfl (op2_ok (r := ⟨.own, di k⟩) (r' := ⟨.own, di 5⟩) rfl rfl (modc k 5 (by decide))) (tup_ix h5)) (div_int ⟨p0, p1⟩)) (r' := ⟨.own, di lim⟩) rfl (mod_int hl)
  · rw [if_neg h]
    rw [decide_eq_false h] at e0
    have q0 : 0 ≤ c % 1000003 := Int.emod_nonneg _ (by decide)
    have q1 : c % 1000003 < 1000003 := Int.emod_lt_of_pos _ (by decide)
    let Γ : Gm := [some ⟨.own, di c⟩, some ⟨.own, di k⟩, some ⟨.own, di lim⟩, some ⟨.own, di (c % 1000003)⟩]
    refine run_rt (Γ' := Γ) rfl ((seq_nx (if_f e0)).trans ((seq_nx (Γ' := Γ) (asg_ok (op2_ok (r := ⟨.own, di c⟩) (r' := ⟨.own, di 1000003⟩) rfl rfl (mod_int (by decide))))).trans (ret_ok ?_)))
    have a1 : eOp2 pAdd (eVar 3) (eOp2 pMul (eC (.int 977)) (eVar 1)) Γ = oi (c % 1000003 + 977 * (k : Int)) := op2_ok (r := ⟨.own, di (c % 1000003)⟩) rfl (op2_ok (r := ⟨.own, di 977⟩) (r' := ⟨.own, di k⟩) rfl rfl (mul_int (.inl (by decide)))) rfl
    have a2 : eOp2 pAdd (eOp2 pAdd (eVar 3) (eOp2 pMul (eC (.int 31)) (eVar 1))) (eC (.int 5)) Γ = oi (c % 1000003 + 31 * (k : Int) + 5) := op2_ok (op2_ok (r := ⟨.own, di (c % 1000003)⟩) rfl (op2_ok (r := ⟨.own, di 31⟩) (r' := ⟨.own, di k⟩) rfl rfl (mul_int (.inl (by decide)))) rfl) (r' := ⟨.own, di 5⟩) rfl rfl
    have a3 := op2_ok (f := pMul) a1 a2 (mul_int (.inl (by omega)))
    have a4 : eOp2 pAdd (eOp2 pMod (eVar 1) (eC (.int 9))) (eC (.int 1)) Γ = oi ((k % 9 + 1 : Nat) : Int) := op2_ok (op2_ok (r := ⟨.own, di k⟩) (r' := ⟨.own, di 9⟩) rfl rfl (modc k 9 (by decide))) (r' := ⟨.own, di 1⟩) rfl rfl
    exact op2_ok (fn_d (cons_ok a3 (cons_ok a4 (cons_ok (r := ⟨.own, di 999983⟩) rfl rfl))) (draw_ok _ _ _ (by decide))) (r' := ⟨.own, di lim⟩) rfl (mod_int hl)
theorem num_lt (c : Int) (k : Nat) (lim : Int) (hl : 0 < lim) : 0 ≤ numI c k lim ∧ numI c k lim < lim := by
  unfold numI
  split
  · exact ⟨Int.emod_nonneg _ (by omega), Int.emod_lt_of_pos _ hl⟩
  · exact ⟨Int.emod_nonneg _ (by omega), Int.emod_lt_of_pos _ hl⟩
end W

namespace W
open PySem Pf
/-! numbers and cells by ints -/
def numZ (c k lim : Int) : Int := numI c k.toNat lim
def cellZ (ns : List Int) (k : Int) : Int := cellI ns k.toNat
theorem num_z {c k lim : Int} (hk : 0 ≤ k ∧ k ≤ 100000 ∧ 0 < lim) : f__law_number [di c, di k, di lim] = oi (numZ c k lim) := by
  have h := num_ok c k.toNat lim (by omega) (by omega)
  have e : ((k.toNat : Nat) : Int) = k := by omega
  rw [e] at h
  exact h
theorem num_b (c k lim : Int) (hl : 0 < lim) : 0 ≤ numZ c k lim ∧ numZ c k lim < lim := num_lt c k.toNat lim hl
theorem cell_z {ns : List Int} {k : Int} (hk : 0 ≤ k) : f__law_cell_at [scr ns, di k] = oi (cellZ ns k) := by
  have h := cell_ok ns k.toNat
  have e : ((k.toNat : Nat) : Int) = k := by omega
  rw [e] at h
  exact h
end W

namespace W
open PySem Pf Mw
/-! the greedy walk and the fewest -/
theorem hasI_iff {p : Int × Int} {m : Int} : hasI p m = true ↔ Hs p m := by
  unfold hasI Hs
  simp
theorem mxP_mem : ∀ (l : List (Int × Int)) (c : Int × Int), mxP l c = c ∨ mxP l c ∈ l
  | [], c => .inl rfl
  | x :: l, c => by
    have e : mxP (x :: l) c = mxP l (if ltP c x then x else c) := rfl
    rw [e]
    rcases mxP_mem l (if ltP c x then x else c) with h | h
    · rw [h]
      split
      · exact .inr List.mem_cons_self
      · exact .inl rfl
    · exact .inr (List.mem_cons_of_mem _ h)
theorem mxP_up : ∀ (l : List (Int × Int)) (c : Int × Int), c.1 ≤ (mxP l c).1 ∧ ∀ q ∈ l, q.1 ≤ (mxP l c).1
  | [], c => ⟨Int.le_refl _, fun _ m => nomatch m⟩
  | x :: l, c => by
    have e : mxP (x :: l) c = mxP l (if ltP c x then x else c) := rfl
    rw [e]
    obtain ⟨h1, h2⟩ := mxP_up l (if ltP c x then x else c)
    have h3 : c.1 ≤ (if ltP c x then x else c).1 ∧ x.1 ≤ (if ltP c x then x else c).1 := by
      unfold ltP
      split
      next h => simp at h; omega
      next h => simp at h; omega
    exact ⟨by omega, fun q m => by
      rcases List.mem_cons.mp m with e | m
      · subst e; omega
      · exact h2 q m⟩
theorem cand_mem {ps : List (Int × Int)} {here : Int} {q : Int × Int} : q ∈ cand ps here ↔ ∃ (i : Nat) (p : Int × Int), ps[i]? = some p ∧ Hs p here ∧ q = (p.2, (i : Int)) := by
  unfold cand
  simp only [List.mem_map, List.mem_filter, hasI_iff]
  constructor
  · rintro ⟨⟨p, i⟩, ⟨m, h⟩, rfl⟩
    exact ⟨i, p, List.mem_zipIdx_iff_getElem?.mp m, h, rfl⟩
  · rintro ⟨i, p, e, h, rfl⟩
    exact ⟨(p, i), ⟨List.mem_zipIdx_iff_getElem?.mpr e, h⟩, rfl⟩
/-- a greedy run from here to n: places and ends -/
inductive Gr (ps : List (Int × Int)) (n : Int) : Int → List Int → List Int → Prop
  | nil : Gr ps n n [] []
  | cons {here e : Int} {j : Nat} {p : Int × Int} {ql es : List Int} : here < n → ps[j]? = some p → Hs p here → p.2 = e → Far ps here e → Gr ps n e ql es → Gr ps n here ((j : Int) :: ql) (e :: es)
theorem Gr.few {ps : List (Int × Int)} {n : Int} (hn : ∀ p ∈ ps, p.2 ≤ n) {here : Int} {ql es : List Int} (h : Gr ps n here ql es) : Ch ps here n ql.length ∧ ∀ k', Ch ps here n k' → ql.length ≤ k' := by
  induction h with
  | nil => exact greedy_end
  | @cons here e j p ql es h1 h2 h3 h4 h5 _ ih =>
    have := greedy_step (o := some ql.length) h5 (by rw [← h4]; exact hn p (List.mem_of_getElem? h2)) ih
    exact this
theorem Gr.len {ps : List (Int × Int)} {n here : Int} {ql es : List Int} (h : Gr ps n here ql es) : ql.length = es.length := by
  induction h with
  | nil => rfl
  | cons _ _ _ _ _ _ ih => simp only [List.length_cons, ih]
def WrOk (ps : List (Int × Int)) (n here : Int) (pl cs : List Int) : Wr → Prop
  | .bare m => here ≤ m ∧ m < n ∧ (∀ p ∈ ps, ¬ Hs p m) ∧ ∀ k', ¬ Ch ps here n k'
  | .whole pl' cs' => ∃ ql es, pl' = pl ++ ql ∧ cs' = cs ++ es ∧ Gr ps n here ql es
theorem wlp_ok {ps : List (Int × Int)} {n : Int} (hn : ∀ p ∈ ps, p.2 ≤ n) : ∀ (k : Nat) (here : Int) (pl cs : List Int), here ≤ n → n - here < k → ∃ r, wlp ps n k here pl cs = some r ∧ WrOk ps n here pl cs r
  | 0, here, _, _, h1, h2 => by omega
  | k + 1, here, pl, cs, h1, h2 => by
    rw [wlp]
    by_cases hh : here < n
    · rw [if_pos hh]
      cases hc : cand ps here with
      | nil =>
        have hb : ∀ p ∈ ps, ¬ Hs p here := by
          intro p mp hp
          obtain ⟨i, hi⟩ := List.mem_iff_getElem?.mp mp
          have : (p.2, (i : Int)) ∈ cand ps here := cand_mem.mpr ⟨i, p, hi, hp, rfl⟩
          rw [hc] at this
          cases this
        exact ⟨_, rfl, Int.le_refl _, hh, hb, greedy_bare hh hb⟩
      | cons c r =>
        have hm : mxP r c ∈ cand ps here := by
          rw [hc]
          rcases mxP_mem r c with h | h
          · rw [h]; exact List.mem_cons_self
          · exact List.mem_cons_of_mem _ h
        obtain ⟨u1, u2⟩ := mxP_up r c
        obtain ⟨i, p, hi, hp, e⟩ := cand_mem.mp hm
        have e1 : (mxP r c).1 = p.2 := by rw [e]
        have e2 : (mxP r c).2 = i := by rw [e]
        have far : Far ps here p.2 := ⟨⟨p, List.mem_of_getElem? hi, hp, rfl⟩, fun q mq hq => by
          obtain ⟨i', hi'⟩ := List.mem_iff_getElem?.mp mq
          have hq2 : (q.2, (i' : Int)) ∈ cand ps here := cand_mem.mpr ⟨i', q, hi', hq, rfl⟩
          rw [hc] at hq2
          rw [← e1]
          rcases List.mem_cons.mp hq2 with z | z
          · have z1 : q.2 = c.1 := by rw [← z]
            omega
          · exact u2 _ z⟩
        have hpn := hn p (List.mem_of_getElem? hi)
        have hp2 := hp.2
        obtain ⟨r', er, ok⟩ := wlp_ok hn k p.2 (pl ++ [(i : Int)]) (cs ++ [p.2]) hpn (by omega)
        refine ⟨r', ?_, ?_⟩
        · dsimp only
          rw [e1, e2]
          exact er
        · cases r' with
          | bare m =>
            obtain ⟨a, b, d, f⟩ := ok
            exact ⟨by omega, b, d, greedy_step (o := none) far hpn f⟩
          | whole pl' cs' =>
            obtain ⟨ql, es, a, b, g⟩ := ok
            refine ⟨(i : Int) :: ql, p.2 :: es, ?_, ?_, .cons hh hi hp rfl far g⟩
            · rw [a, List.append_assoc]; rfl
            · rw [b, List.append_assoc]; rfl
    · rw [if_neg hh]
      have e : here = n := by omega
      subst e
      exact ⟨_, rfl, [], [], (List.append_nil _).symm, (List.append_nil _).symm, .nil⟩
theorem wOf_ok {ps : List (Int × Int)} {n : Int} (hn0 : 0 ≤ n ∧ n < 199) (hn : ∀ p ∈ ps, p.2 ≤ n) : ∃ r, wOf n ps = some r ∧ WrOk ps n 0 [] [0] r := wlp_ok hn 200 0 [] [0] hn0.1 (by omega)
def fewO (n : Int) (ps : List (Int × Int)) : Option Nat := match wOf n ps with
  | some (.whole pl _) => some pl.length
  | _ => none
def optD : Option Nat → PyData
  | some k => .int k
  | none => .none
theorem few_few {ps : List (Int × Int)} {n : Int} (hn0 : 0 ≤ n ∧ n < 199) (hn : ∀ p ∈ ps, p.2 ≤ n) : Few ps n (fewO n ps) := by
  obtain ⟨r, e, ok⟩ := wOf_ok hn0 hn
  unfold fewO
  rw [e]
  cases r with
  | bare m => exact ok.2.2.2
  | whole pl cs =>
    obtain ⟨ql, es, a, b, g⟩ := ok
    simp only [List.nil_append] at a
    subst a
    exact g.few hn
theorem okP_okQ {n : Int} {p : Int × Int} : okP n p ↔ okQ n p := Iff.rfl
end W

namespace W
open PySem Pf Mw
theorem few_z {n : Int} {ps : List (Int × Int)} (hn : 1 ≤ n ∧ n ≤ 60) (h : ∀ p ∈ ps, okP n p) (hl : ps.length ≤ 40) : f_few [di n, dps ps] = od (optD (fewO n ps)) := by
  obtain ⟨r, e, ok⟩ := wOf_ok (n := n) (by omega) fun p m => (h p m).2.2
  rw [few_ok hn h hl e]
  unfold fewO
  rw [e]
  cases r <;> rfl
end W

namespace W
open PySem Pf
/-! the law's own has, bare, length -/
theorem lhas_ok (p : Int × Int) (m : Int) : f__law_has [dp p, di m] = ob1 (hasI p m) := by
  refine run_eq ?_
  simp [m__law_has, hasI]
theorem lbare1_ok (n m : Int) (ps : List (Int × Int)) (hl : ps.length ≤ 100) : f__law_is_bare [di n, dps ps, di m] = ob1 (decide (0 ≤ m) && decide (m < n) && !(ps.any fun p => hasI p m)) := by
  refine run_eq ?_
  simp (disch := first | omega | simp) [m__law_is_bare, Function.comp_def, lhas_ok]
def bareI (n : Int) (ps : List (Int × Int)) : List Int := (rgI n).filter fun m => decide (0 ≤ m) && decide (m < n) && !(ps.any fun p => hasI p m)
theorem lbare_ok (n : Int) (ps : List (Int × Int)) (hn : 0 ≤ n ∧ n ≤ 100) (hl : ps.length ≤ 100) : f__law_bare [di n, dps ps] = od (.list ((bareI n ps).map .int)) := by
  refine run_eq ?_
  simp (disch := first | omega | (simp; done) | (simp; omega)) [m__law_bare, Function.comp_def, lbare1_ok, hl, bareI]
end W

namespace W
open PySem Pf
theorem length_ok (ns : List Int) (k most : Int) (hk : 0 ≤ k ∧ k ≤ 1000 ∧ 0 < most) : f__law_length [scr ns, di k, di most] = oi (1 + numZ (cellZ ns k) (k + 1) most) := by
  refine run_eq ?_
  simp (disch := first | omega | simp) [m__law_length, cell_z, num_z]
end W

namespace W
open PySem Pf
/-! parts by the cells -/
def gP (ns : List Int) (k L most lead : Int) (l : List (Int × Int)) (here kind : Int) (a b c d : Option Rv) : Gm := [some ⟨.par, scr ns⟩, some ⟨.own, di k⟩, some ⟨.own, di L⟩, some ⟨.own, di most⟩, some ⟨.own, di lead⟩, some ⟨.own, nP l⟩, some ⟨.own, di here⟩, some ⟨.own, di kind⟩, a, b, c, d]
theorem parts_step {ns : List Int} {k L most lead here kind x : Int} {l : List (Int × Int)} {a b c d : Option Rv} (hk : 0 ≤ k ∧ k ≤ 1000) (hL : 1 ≤ L ∧ L ≤ 100) (hh : 0 ≤ here ∧ here ≤ L) (hi : 0 ≤ kind ∧ kind < 4) (hx : 0 ≤ x ∧ x < 200) (hl : l.length < 1000) (ho : ∀ p ∈ l, okP L p) :
    ∃ l' here' b' c' d', lb__law_parts_1 (gP ns k L most lead l here kind (some ⟨.own, di x⟩) b c d) = .nx (gP ns k L most lead l' here' kind (some ⟨.own, di x⟩) b' c' d') ∧ l'.length = l.length + 1 ∧ (∀ p ∈ l', okP L p) ∧ 0 ≤ here' ∧ here' ≤ L := by
  have hx7 : 0 ≤ x % 7 := Int.emod_nonneg _ (by decide)
  have fin : ∀ (be wi : Int) (j : Int), 0 ≤ be → be < L → 0 < wi → okP L (be, min L (be + wi)) ∧ (l.take j.toNat ++ [(be, min L (be + wi))] ++ l.drop j.toNat).length = l.length + 1 ∧ ∀ p ∈ l.take j.toNat ++ [(be, min L (be + wi))] ++ l.drop j.toNat, okP L p := by
    intro be wi j h1 h2 h3
    have o : okP L (be, min L (be + wi)) := by unfold okP; simp only; omega
    refine ⟨o, ?_, fun p m => ?_⟩
    · simp only [List.length_append, List.length_take, List.length_drop, List.length_cons, List.length_nil]; omega
    · simp only [List.mem_append, List.mem_singleton] at m
      rcases m with (m | m) | m
      · exact ho p (List.mem_of_mem_take m)
      · rw [m]; exact o
      · exact ho p (List.mem_of_mem_drop m)
  generalize hcell : cellZ ns (k + x % 7) + 19 * x = cell
  have n1 := num_b cell (x + 1) L (by omega)
  have n3 := num_b cell (x + 3) 4 (by omega)
  have n4 := num_b cell (x + 4) (x + 1) (by omega)
  have main : ∀ (W be : Int), (kind = 0 ∨ kind = 1 → W = 8) → (kind = 2 → W = L) → (kind = 3 → W = 4) → (be = if kind < 2 ∧ here < L then max 0 (here - kind * numZ cell (x + 3) 4) else numZ cell (x + 1) L) →
      lb__law_parts_1 (gP ns k L most lead l here kind (some ⟨.own, di x⟩) b c d) = .nx (gP ns k L most lead (l.take (numZ cell (x + 4) (x + 1)).toNat ++ [(be, min L (be + (1 + numZ cell (x + 2) W)))] ++ l.drop (numZ cell (x + 4) (x + 1)).toNat) (min L (be + (1 + numZ cell (x + 2) W))) kind (some ⟨.own, di x⟩) (some ⟨.own, di cell⟩) (some ⟨.own, di be⟩) (some ⟨.own, di (1 + numZ cell (x + 2) W)⟩)) := by
    intro W be h1 h2 h3 h4
    have hk4 : kind = 0 ∨ kind = 1 ∨ kind = 2 ∨ kind = 3 := by omega
    subst hcell
    rcases hk4 with e | e | e | e <;> subst e <;> by_cases hlt : here < L <;> simp only [hlt] at h4 <;> simp at h1 h2 h3 h4 <;> subst h4 <;> first | subst h1 | subst h2 | subst h3
    all_goals simp (disch := first | omega | (simp; done) | (simp; omega)) [lb__law_parts_1, tl__law_parts_1, gP, cell_z, num_z, hlt, L2.atI, L2.ixN, prD]
  obtain ⟨W, hW1, hW2, hW3, hW0⟩ : ∃ W : Int, (kind = 0 ∨ kind = 1 → W = 8) ∧ (kind = 2 → W = L) ∧ (kind = 3 → W = 4) ∧ 0 < W := by
    have hk4 : kind = 0 ∨ kind = 1 ∨ kind = 2 ∨ kind = 3 := by omega
    rcases hk4 with e | e | e | e
    · exact ⟨8, by omega⟩
    · exact ⟨8, by omega⟩
    · exact ⟨L, by omega⟩
    · exact ⟨4, by omega⟩
  obtain ⟨be, hbe⟩ : ∃ be : Int, be = if kind < 2 ∧ here < L then max 0 (here - kind * numZ cell (x + 3) 4) else numZ cell (x + 1) L := ⟨_, rfl⟩
  have hb : 0 ≤ be ∧ be < L := by
    rw [hbe]
    split
    · have : 0 ≤ kind * numZ cell (x + 3) 4 := Int.mul_nonneg hi.1 n3.1
      omega
    · exact n1
  have n2 := num_b cell (x + 2) W hW0
  obtain ⟨f1, f2, f3⟩ := fin be (1 + numZ cell (x + 2) W) (numZ cell (x + 4) (x + 1)) hb.1 hb.2 (by omega)
  exact ⟨_, _, _, _, _, main W be hW1 hW2 hW3 hbe, f2, f3, by omega, by omega⟩
theorem parts_ok (ns : List Int) (k L most : Int) (hk : 0 ≤ k ∧ k ≤ 1000) (hL : 1 ≤ L ∧ L ≤ 100) (hm : 0 ≤ most ∧ most ≤ 100) :
    ∃ ps : List (Int × Int), f__law_parts [scr ns, di k, di L, di most] = .ok ⟨.own, nP ps⟩ ∧ (∀ p ∈ ps, okP L p) ∧ (ps.length : Int) ≤ most := by
  have hi := num_b (cellZ ns k) (k + 2) 4 (by omega)
  have hc := num_b (cellZ ns k) (k + 3) (most + 1) (by omega)
  obtain ⟨Γ, e, l, here, a, b, c, d, eG, ho, hlen, _⟩ := floop_I (un := unN) (is := [8]) (body := lb__law_parts_1) PyData.int (fun x => [.int x]) (fun _ => rfl)
    (fun rest Γ => ∃ l here a b c d, Γ = gP ns k L most (cellZ ns k) l here (numZ (cellZ ns k) (k + 2) 4) a b c d ∧ (∀ p ∈ l, okP L p) ∧ (l.length + rest.length : Int) = numZ (cellZ ns k) (k + 3) (most + 1) ∧ (0 ≤ here ∧ here ≤ L) ∧ ∀ y ∈ rest, 0 ≤ y ∧ y < 200)
    (fun x xs Γ ⟨l, here, a, b, c, d, eG, ho, hlen, hh, hr⟩ => by
      subst eG
      have hx := hr x List.mem_cons_self
      obtain ⟨l', here', b', c', d', e, h1, h2, h3⟩ := parts_step (ns := ns) (k := k) (L := L) (most := most) (lead := cellZ ns k) (here := here) (kind := numZ (cellZ ns k) (k + 2) 4) (x := x) (l := l) (a := a) (b := b) (c := c) (d := d) hk hL hh hi hx (by simp only [List.length_cons] at hlen; omega) ho
      exact ⟨_, e, l', here', _, b', c', d', rfl, h2, by simp only [List.length_cons] at hlen; omega, h3, fun y m => hr y (List.mem_cons_of_mem _ m)⟩)
    (rgI (numZ (cellZ ns k) (k + 3) (most + 1))) (gP ns k L most (cellZ ns k) [] 0 (numZ (cellZ ns k) (k + 2) 4) none none none none)
    ⟨[], 0, none, none, none, none, rfl, (fun _ m => nomatch m), by simp only [rg_len, List.length_nil]; omega, by omega, fun y m => by
      unfold rgI at m
      obtain ⟨i, mi, rfl⟩ := List.mem_map.mp m
      have := List.mem_range.mp mi
      omega⟩
  subst eG
  refine ⟨l, run_eq ?_, ho, by simp only [List.length_nil] at hlen; omega⟩
  simp only [gP, nP, List.map_nil] at e
  simp (disch := first | omega | simp) [m__law_parts, cell_z, num_z, e, ev_retV]
end W

namespace W
open PySem Pf
/-! Whole's own words, in full -/
abbrev dI (xs : List Int) : PyData := .list (xs.map .int)
abbrev wholeZ (pl cs ms : List Int) : Sl := .node (.O "Whole" ["places", "cuts", "minutes"]) [.dat (dI pl), .dat (dI cs), .dat (dI ms)]
def oneB (ps : List (Int × Int)) (p b e : Int) : Bool := match ps[p.toNat]? with
  | some q => decide (0 ≤ p) && (decide (b < e) && (decide (q.1 ≤ b) && decide (e ≤ q.2)))
  | none => false
def stpB (ps : List (Int × Int)) : List Int → List Int → Bool
  | [], _ => true
  | p :: pl, b :: e :: cs => oneB ps p b e && stpB ps pl (e :: cs)
  | _ :: _, _ => false
def minB (L : Int) (ps : List (Int × Int)) (ms : List Int) : Bool := (ms.all fun m => decide (0 ≤ m) && decide (m < L)) && (decide ((ddp ms).length = ms.length) && ps.all fun p => decide ((ms.filter fun m => hasI p m).length < 2))
def shwB (L : Int) (ps : List (Int × Int)) (pl cs ms : List Int) : Bool := decide (cs.length = pl.length + 1) && (decide (cs.head? = some 0) && (decide (cs.getLast? = some L) && (stpB ps pl cs && (decide (ms.length = pl.length) && minB L ps ms))))
theorem ix_pr {ps : List (Int × Int)} {p : Int} {q : Int × Int} (h0 : 0 ≤ p) (h : ps[p.toNat]? = some q) : pIx [dps ps, di p] = some (dp q) := by
  obtain ⟨n, rfl⟩ := Int.eq_ofNat_of_zero_le h0
  rw [Int.toNat_natCast] at h
  have hn : n < ps.length := (List.getElem?_eq_some_iff.mp h).1
  rw [ev_ixL, at_n (by rw [List.length_map]; exact hn), List.getElem?_map, h]
  rfl
theorem ix_first {c : Int} {cs : List Int} : pIx [.dat (dI (c :: cs)), di 0] = some (di c) := by
  rw [ev_ixL, List.map_cons, at_0]
  rfl
theorem ix_lastD {cs : List Int} {L : Int} (h : cs.getLast? = some L) : pIx [.dat (dI cs), di (-1)] = some (di L) := by
  have hn : 0 < cs.length := by
    cases cs with
    | nil => cases h
    | cons => simp
  rw [ev_ixL]
  unfold L2.atI L2.ixN
  rw [List.length_map, if_neg (by omega), if_pos (by omega)]
  show ((cs.map PyData.int)[((-1 : Int) + (cs.length : Int)).toNat]?).map Sl.dat = _
  rw [List.getLast?_eq_getElem?] at h
  have e : ((-1 : Int) + (cs.length : Int)).toNat = cs.length - 1 := by omega
  rw [e, List.getElem?_map, h]
  rfl
abbrev shG (pl cs ms : List Int) (L : Int) (ps : List (Int × Int)) (x3 x4 x5 x6 x7 : Option Rv) : Gm := [some ⟨.par, wholeZ pl cs ms⟩, some ⟨.own, di L⟩, some ⟨.own, dps ps⟩, x3, x4, x5, x6, x7]
theorem sh1_z (pl cs ms : List Int) (L : Int) (ps : List (Int × Int)) (p b e : Int) (x6 x7 : Option Rv) : lb_Whole_shows_1 (shG pl cs ms L ps (some ⟨.own, di p⟩) (some ⟨.own, di b⟩) (some ⟨.own, di e⟩) x6 x7) = (if oneB ps p b e = true then .nx (shG pl cs ms L ps (some ⟨.own, di p⟩) (some ⟨.own, di b⟩) (some ⟨.own, di e⟩) x6 x7) else .rt ⟨.own, db false⟩ (shG pl cs ms L ps (some ⟨.own, di p⟩) (some ⟨.own, di b⟩) (some ⟨.own, di e⟩) x6 x7)) := by
  unfold oneB
  by_cases h0 : 0 ≤ p
  · cases hq : ps[p.toNat]? with
    | none =>
      have hl : ¬ p < (ps.length : Int) := by
        have := List.getElem?_eq_none_iff.mp hq
        omega
      simp [lb_Whole_shows_1, h0, hl, -Int.not_lt]
    | some q =>
      have hl : p < (ps.length : Int) := by
        have := (List.getElem?_eq_some_iff.mp hq).1
        omega
      have e1 := ix_pr h0 hq
      by_cases h1 : b < e
      · have h1' : ¬ e ≤ b := by omega
        by_cases h2 : q.1 ≤ b
        · have h2' : ¬ b < q.1 := by omega
          by_cases h3 : e ≤ q.2
          · have h3' : ¬ q.2 < e := by omega
            simp [lb_Whole_shows_1, h0, hl, e1, h1, h1', h2, h2', h3, h3', -Int.not_lt, -Int.not_le]
          · have h3' : q.2 < e := by omega
            simp [lb_Whole_shows_1, h0, hl, e1, h1, h1', h2, h2', h3, h3', -Int.not_lt, -Int.not_le]
        · have h2' : b < q.1 := by omega
          simp [lb_Whole_shows_1, h0, hl, e1, h1, h1', h2, h2', -Int.not_lt, -Int.not_le]
      · have h1' : e ≤ b := by omega
        simp [lb_Whole_shows_1, h0, hl, e1, h1, h1', -Int.not_lt, -Int.not_le]
  · have : (match ps[p.toNat]? with | some q => decide (0 ≤ p) && (decide (b < e) && (decide (q.1 ≤ b) && decide (e ≤ q.2))) | none => false) = false := by
      split
      · simp [h0]
      · rfl
    rw [this]
    simp [lb_Whole_shows_1, h0, -Int.not_le]
theorem flp_rt {un : PyData → Option (List PyData)} {is : List Nat} {a : MrS} {r : Rv} {Γ Γ' : Gm} {d : PyData} {ds es : List PyData} (hu : un d = some es) (h : a (asgG is es Γ) = .rt r Γ') : floop un is a (d :: ds) Γ = .rt r Γ' := by
  rw [floop, hu]
  dsimp only
  rw [h]
theorem not_any {α : Type} {f g : α → Bool} (h : ∀ x, g x = !f x) : ∀ xs : List α, (!xs.any f) = xs.all g
  | [] => rfl
  | x :: xs => by
    rw [List.any_cons, List.all_cons, Bool.not_or, h x, not_any h xs]
theorem sh2_z (pl cs ms : List Int) (L : Int) (ps : List (Int × Int)) (x6 x7 : Option Rv) : ∀ (ql ds : List Int) (x3 x4 x5 : Option Rv), ds.length = ql.length + 1 →
    (stpB ps ql ds = true → ∃ y3 y4 y5, floop (unT 3) [3, 4, 5] lb_Whole_shows_1 (z3D (ql.map .int) (ds.map .int) ((ds.drop 1).map .int)) (shG pl cs ms L ps x3 x4 x5 x6 x7) = .nx (shG pl cs ms L ps y3 y4 y5 x6 x7)) ∧
    (stpB ps ql ds = false → ∃ Γ', floop (unT 3) [3, 4, 5] lb_Whole_shows_1 (z3D (ql.map .int) (ds.map .int) ((ds.drop 1).map .int)) (shG pl cs ms L ps x3 x4 x5 x6 x7) = .rt ⟨.own, db false⟩ Γ')
  | [], ds, x3, x4, x5, _ => ⟨fun _ => ⟨x3, x4, x5, by rw [List.map_nil]; unfold z3D; rfl⟩, fun h => by
      unfold stpB at h
      cases h⟩
  | p :: ql, [], _, _, _, h => by cases h
  | p :: ql, [b], _, _, _, h => by
    have h' : (1 : Nat) = (ql.length + 1) + 1 := h
    omega
  | p :: ql, b :: e :: ds, x3, x4, x5, h => by
    have h' : (e :: ds).length = ql.length + 1 := Nat.succ.inj h
    have ih := sh2_z pl cs ms L ps x6 x7 ql (e :: ds) (some ⟨.own, di p⟩) (some ⟨.own, di b⟩) (some ⟨.own, di e⟩) h'
    have hz : z3D ((p :: ql).map .int) ((b :: e :: ds).map .int) (((b :: e :: ds).drop 1).map .int) = PyData.tuple [.int p, .int b, .int e] :: z3D (ql.map .int) ((e :: ds).map .int) (((e :: ds).drop 1).map .int) := rfl
    have hs : stpB ps (p :: ql) (b :: e :: ds) = (oneB ps p b e && stpB ps ql (e :: ds)) := by rw [stpB]
    rw [hz, hs]
    have e1 := sh1_z pl cs ms L ps p b e x6 x7
    cases h1 : oneB ps p b e with
    | true =>
      rw [h1, if_pos rfl] at e1
      rw [Bool.true_and]
      refine ⟨fun q => ?_, fun q => ?_⟩
      · obtain ⟨y3, y4, y5, e2⟩ := ih.1 q
        exact ⟨y3, y4, y5, (floop_nx (es := [.int p, .int b, .int e]) rfl e1).trans e2⟩
      · obtain ⟨Γ', e2⟩ := ih.2 q
        exact ⟨Γ', (floop_nx (es := [.int p, .int b, .int e]) rfl e1).trans e2⟩
    | false =>
      rw [h1, if_neg Bool.false_ne_true] at e1
      refine ⟨fun q => (by cases q), fun _ => ⟨shG pl cs ms L ps (some ⟨.own, di p⟩) (some ⟨.own, di b⟩) (some ⟨.own, di e⟩) x6 x7, ?_⟩⟩
      exact flp_rt (es := [.int p, .int b, .int e]) rfl e1
theorem setLen {ms : List Int} (h : ms.length < 64) {Γ : Gm} {m : Mr} {fl : Fl} (hm : m Γ = .ok ⟨fl, .dat (dI ms)⟩) : eSet gLen m Γ = oi ((ddp ms).length : Nat) := by
  have z : eSet gLen m Γ = (m Γ).bind fun x => fin (set1 gLen x.s) := rfl
  rw [z, hm]
  show fin (match intsOf (ms.map .int) with | some ns => if ns.length < 64 then some (gLen ns) else none | none => none) = _
  have : intsOf (ms.map PyData.int) = some ms := by
    have := ev_ints (q := id) (xs := ms)
    rw [List.map_id] at this
    exact this
  rw [this]
  dsimp only
  rw [if_pos h]
  rfl
theorem ddp_le : ∀ ms : List Int, (ddp ms).length ≤ ms.length
  | [] => Nat.zero_le _
  | x :: r => by
    have := ddp_le r
    unfold ddp
    split
    · rw [List.length_cons]; omega
    · rw [List.length_cons, List.length_cons]; omega
theorem tail_z (pl cs ms : List Int) (L : Int) (ps : List (Int × Int)) (hp : ps.length ≤ 100) (hm : ms.length < 64) (x3 x4 x5 : Option Rv) : fin2 (tl_Whole_shows_2 (shG pl cs ms L ps x3 x4 x5 none none)) = ob1 (decide (ms.length = pl.length) && minB L ps ms) := by
  have ea := comp_ofP (mi := iL (eFld cs_minutes "minutes" (eVar 0))) (un := unN) (is := [6]) (vs := [6]) (mt := eYes) (me := eChain pLe pLt (eC (.int 0)) (eVar 6) (eVar 1)) (Γ := shG pl cs ms L ps x3 x4 x5 none none) (xs := ms) (enc := PyData.int) (b := true) (g := fun m => db (decide (0 ≤ m) && decide (m < L))) (by simp [cs_minutes, ofStr_inj]) (fun m _ => by
    by_cases c : 0 ≤ m
    · simp [c]
    · simp [c, -Int.not_le]) (by omega)
  have es := setLen (ms := ms) hm (Γ := shG pl cs ms L ps x3 x4 x5 none none) (m := eFld cs_minutes "minutes" (eVar 0)) (fl := .own) (by simp [cs_minutes, ofStr_inj])
  have ei : ∀ p : Int × Int, eComp (iL (eFld cs_minutes "minutes" (eVar 0))) unN [6] (eT (eFn f_has (eCons (eVar 7) (eCons (eVar 6) eNil)))) (eVar 6) [6] (shG pl cs ms L ps x3 x4 x5 none (some ⟨.own, dp p⟩)) = .ok ⟨.own, .node .L ((ms.filter fun m => hasI p m).map fun m => di m)⟩ := fun p => by
    refine comp_ifP (xs := ms) (enc := PyData.int) (b := true) (q := fun m => hasI p m) (g := fun m => di m) (by simp [cs_minutes, ofStr_inj]) (fun m _ => ?_) (by omega)
    have := has_ok p m
    simp [this]
  have eo := comp_ofP (mi := iL (eVar 2)) (un := unN) (is := [7]) (vs := [7]) (mt := eYes) (me := eOp2 pGt (eCall pLen (eCons (eFrz (eComp (iL (eFld cs_minutes "minutes" (eVar 0))) unN [6] (eT (eFn f_has (eCons (eVar 7) (eCons (eVar 6) eNil)))) (eVar 6) [6])) eNil)) (eC (.int 1))) (Γ := shG pl cs ms L ps x3 x4 x5 none none) (xs := ps) (enc := prD) (b := true) (g := fun p => db (decide (1 < (((ms.filter fun m => hasI p m).length : Nat) : Int)))) (by simp) (fun p _ => by
    have := ei p
    simp (disch := first | omega | (simp; done) | (simp; omega)) [-ev_comp, this]) (by omega)
  have hd := ddp_le ms
  simp only [cs_minutes] at ea es eo
  unfold minB
  by_cases h1 : ms.length = pl.length
  · have h1' : ((ms.length : Nat) : Int) = pl.length := by omega
    cases h2 : ms.all (fun m => decide (0 ≤ m) && decide (m < L)) with
    | true =>
      by_cases h3 : (ddp ms).length = ms.length
      · have h3' : ¬ (((ddp ms).length : Nat) : Int) < (ms.length : Nat) := by omega
        have e5 : (!ps.any fun p => decide (1 < (((ms.filter fun m => hasI p m).length : Nat) : Int))) = ps.all fun p => decide ((ms.filter fun m => hasI p m).length < 2) := not_any (fun p => by
          by_cases c : (ms.filter fun m => hasI p m).length < 2
          · rw [decide_eq_true c, decide_eq_false (by omega)]
            rfl
          · rw [decide_eq_false c, decide_eq_true (by omega)]
            rfl) ps
        simp (disch := first | omega | (simp; done) | (simp; omega)) [tl_Whole_shows_2, tl_Whole_shows_1, -ev_comp, ea, es, eo, cs_minutes, cs_places, ofStr_inj, h1, h2, h3, h3', Function.comp_def, e5, -Int.not_lt]
      · have h3' : (ddp ms).length < pl.length := by omega
        have h3 : ¬ (ddp ms).length = pl.length := by omega
        simp (disch := first | omega | (simp; done) | (simp; omega)) [tl_Whole_shows_2, tl_Whole_shows_1, -ev_comp, ea, es, cs_minutes, cs_places, ofStr_inj, h1, h2, h3, h3', Function.comp_def]
    | false =>
      simp (disch := first | omega | (simp; done) | (simp; omega)) [tl_Whole_shows_2, -ev_comp, ea, cs_minutes, cs_places, ofStr_inj, h1, h2, Function.comp_def]
  · have h1' : ¬ ((ms.length : Nat) : Int) = pl.length := by omega
    simp (disch := first | omega | (simp; done) | (simp; omega)) [tl_Whole_shows_2, cs_minutes, cs_places, ofStr_inj, h1, h1']
theorem cut_tl {d : PyData} {ds : List PyData} : cutD (d :: ds) (some 1) none = ds := by
  have h : HT.sIx (ds.length + 1) 0 (some 1) = 1 := by
    unfold HT.sIx
    simp
  have h2 : HT.sIx (ds.length + 1) (ds.length + 1) none = ds.length + 1 := rfl
  unfold cutD
  rw [List.length_cons, h, h2, List.drop_one, List.tail_cons, Nat.add_sub_cancel, List.take_length]
theorem shows_w (pl cs ms : List Int) (L : Int) (ps : List (Int × Int)) (hp : ps.length ≤ 100) (hm : ms.length < 64 ∨ ¬ cs.getLast? = some L) : f_Whole_shows [wholeZ pl cs ms, di L, dps ps] = ob1 (shwB L ps pl cs ms) := by
  refine run_eq ?_
  unfold shwB
  by_cases h1 : cs.length = pl.length + 1
  · have h1' : ((cs.length : Nat) : Int) = (pl.length : Int) + 1 := by omega
    cases cs with
    | nil => cases h1
    | cons c cs =>
      have i1 := ix_first (c := c) (cs := cs)
      by_cases h2 : c = 0
      · subst h2
        obtain ⟨La, hLa⟩ : ∃ La, ((0 : Int) :: cs).getLast? = some La := ⟨_, List.getLast?_eq_some_getLast (by simp)⟩
        have i2 := ix_lastD hLa
        by_cases h3 : La = L
        · subst h3
          have hm' : ms.length < 64 := hm.resolve_right (fun z => z hLa)
          have t := fun x3 x4 x5 => tail_z pl (0 :: cs) ms La ps hp hm' x3 x4 x5
          have lp := sh2_z pl (0 :: cs) ms La ps none none pl (0 :: cs) none none none h1
          cases h4 : stpB ps pl (0 :: cs) with
          | true =>
            obtain ⟨y3, y4, y5, e⟩ := lp.1 h4
            have t := t y3 y4 y5
            rw [decide_eq_true h1, (decide_eq_true (p := ((0 : Int) :: cs).head? = some 0) rfl), decide_eq_true hLa, Bool.true_and, Bool.true_and, Bool.true_and, Bool.true_and, ← t]
            have e' := congrArg (fun z => fin2 (nxt z tl_Whole_shows_2)) e
            refine Eq.trans ?_ e'
            have h1'' : cs.length = pl.length := Nat.succ.inj h1
            simp (disch := first | omega | (simp; done) | (simp; omega)) [m_Whole_shows, tl_Whole_shows_3, cs_cuts, cs_places, ofStr_inj, h1'', i1, i2, cut_tl]
          | false =>
            obtain ⟨Γ', e⟩ := lp.2 h4
            rw [Bool.false_and, Bool.and_false, Bool.and_false, Bool.and_false]
            have e' := congrArg (fun z => fin2 (nxt z tl_Whole_shows_2)) e
            refine Eq.trans ?_ e'
            have h1'' : cs.length = pl.length := Nat.succ.inj h1
            simp (disch := first | omega | (simp; done) | (simp; omega)) [m_Whole_shows, tl_Whole_shows_3, cs_cuts, cs_places, ofStr_inj, h1'', i1, i2, cut_tl]
        · have h3' : ¬ ((0 : Int) :: cs).getLast? = some L := by
            rw [hLa]
            intro z
            exact h3 (Option.some.inj z)
          simp (disch := first | omega | (simp; done) | (simp; omega)) [m_Whole_shows, cs_cuts, cs_places, ofStr_inj, h1', i1, i2, h3, h3']
      · simp (disch := first | omega | (simp; done) | (simp; omega)) [m_Whole_shows, cs_cuts, cs_places, ofStr_inj, h1', i1, h2]
  · have h1' : ¬ ((cs.length : Nat) : Int) = (pl.length : Int) + 1 := by omega
    simp (disch := first | omega | (simp; done) | (simp; omega)) [m_Whole_shows, cs_cuts, cs_places, ofStr_inj, h1, h1']
end W

namespace W
open PySem Pf
/-! the law's own is_whole, in full -/
abbrev iwG (L : Int) (ps : List (Int × Int)) (pl cs ms : List Int) (x5 x6 x7 x8 x9 x10 : Option Rv) : Gm := [some ⟨.own, di L⟩, some ⟨.own, dps ps⟩, some ⟨.own, .dat (dI pl)⟩, some ⟨.own, .dat (dI cs)⟩, some ⟨.own, .dat (dI ms)⟩, x5, x6, x7, x8, x9, x10]
theorem ix_dI {cs : List Int} {k : Nat} {c : Int} (h : cs[k]? = some c) : pIx [.dat (dI cs), di k] = some (di c) := by
  have hn : k < cs.length := (List.getElem?_eq_some_iff.mp h).1
  rw [ev_ixL, at_n (by rw [List.length_map]; exact hn), List.getElem?_map, h]
  rfl
theorem iw1_z (L : Int) (ps : List (Int × Int)) (pl cs ms : List Int) (k : Nat) (p b e : Int) (hb : cs[k]? = some b) (he : cs[k + 1]? = some e) (x7 x8 x9 x10 : Option Rv) :
    (oneB ps p b e = true → ∃ y7 y8, lb__law_is_whole_1 (iwG L ps pl cs ms (some ⟨.own, di k⟩) (some ⟨.own, di p⟩) x7 x8 x9 x10) = .nx (iwG L ps pl cs ms (some ⟨.own, di k⟩) (some ⟨.own, di p⟩) y7 y8 x9 x10)) ∧
    (oneB ps p b e = false → ∃ Γ', lb__law_is_whole_1 (iwG L ps pl cs ms (some ⟨.own, di k⟩) (some ⟨.own, di p⟩) x7 x8 x9 x10) = .rt ⟨.own, db false⟩ Γ') := by
  have i1 := ix_dI hb
  have i2 := ix_dI he
  rw [Int.natCast_add] at i2
  have i2 : pIx [.dat (dI cs), di ((k : Int) + 1)] = some (di e) := i2
  by_cases h0 : 0 ≤ p
  · cases hq : ps[p.toNat]? with
    | none =>
      have hl : ¬ p < (ps.length : Int) := by
        have := List.getElem?_eq_none_iff.mp hq
        omega
      refine ⟨fun z => (by unfold oneB at z; rw [hq] at z; cases z), fun _ => ⟨iwG L ps pl cs ms (some ⟨.own, di k⟩) (some ⟨.own, di p⟩) x7 x8 x9 x10, ?_⟩⟩
      simp [lb__law_is_whole_1, h0, hl, -Int.not_lt]
    | some q =>
      have hl : p < (ps.length : Int) := by
        have := (List.getElem?_eq_some_iff.mp hq).1
        omega
      have e1 : pIx [dps ps, di p] = some (.dat (.tuple [.int q.1, .int q.2])) := ix_pr h0 hq
      unfold oneB
      rw [hq]
      refine ⟨fun z => ?_, fun z => ⟨iwG L ps pl cs ms (some ⟨.own, di k⟩) (some ⟨.own, di p⟩) (some ⟨.own, di q.1⟩) (some ⟨.own, di q.2⟩) x9 x10, ?_⟩⟩
      · simp at z
        obtain ⟨_, h1, h2, h3⟩ := z
        refine ⟨some ⟨.own, di q.1⟩, some ⟨.own, di q.2⟩, ?_⟩
        simp [lb__law_is_whole_1, tl__law_is_whole_1, h0, hl, e1, i1, i2, h1, h2, h3, prD]
      · by_cases h2 : q.1 ≤ b
        · by_cases h1 : b < e
          · have h3 : ¬ e ≤ q.2 := by
              intro h3
              simp [h0, h1, h2, h3] at z
            simp [lb__law_is_whole_1, tl__law_is_whole_1, h0, hl, e1, i1, i2, h1, h2, h3, prD, -Int.not_lt, -Int.not_le]
          · simp [lb__law_is_whole_1, tl__law_is_whole_1, h0, hl, e1, i1, i2, h1, h2, prD, -Int.not_lt, -Int.not_le]
        · simp [lb__law_is_whole_1, tl__law_is_whole_1, h0, hl, e1, i1, i2, h2, prD, -Int.not_lt, -Int.not_le]
  · have : oneB ps p b e = false := by
      unfold oneB
      split
      · simp [h0]
      · rfl
    rw [this]
    refine ⟨fun z => (by cases z), fun _ => ⟨iwG L ps pl cs ms (some ⟨.own, di k⟩) (some ⟨.own, di p⟩) x7 x8 x9 x10, ?_⟩⟩
    simp [lb__law_is_whole_1, h0, -Int.not_le]
theorem iw2_z (L : Int) (ps : List (Int × Int)) (pl cs ms : List Int) (x9 x10 : Option Rv) : ∀ (ql ds : List Int) (k : Nat) (x5 x6 x7 x8 : Option Rv), ds = cs.drop k → ds.length = ql.length + 1 →
    (stpB ps ql ds = true → ∃ y5 y6 y7 y8, floop (unT 2) [5, 6] lb__law_is_whole_1 (enumD k (ql.map .int)) (iwG L ps pl cs ms x5 x6 x7 x8 x9 x10) = .nx (iwG L ps pl cs ms y5 y6 y7 y8 x9 x10)) ∧
    (stpB ps ql ds = false → ∃ Γ', floop (unT 2) [5, 6] lb__law_is_whole_1 (enumD k (ql.map .int)) (iwG L ps pl cs ms x5 x6 x7 x8 x9 x10) = .rt ⟨.own, db false⟩ Γ')
  | [], ds, k, x5, x6, x7, x8, _, _ => ⟨fun _ => ⟨x5, x6, x7, x8, rfl⟩, fun h => by
      unfold stpB at h
      cases h⟩
  | p :: ql, [], _, _, _, _, _, _, h => by cases h
  | p :: ql, [b], _, _, _, _, _, _, h => by
    have h' : (1 : Nat) = (ql.length + 1) + 1 := h
    omega
  | p :: ql, b :: e :: ds, k, x5, x6, x7, x8, hd, h => by
    have h' : (e :: ds).length = ql.length + 1 := Nat.succ.inj h
    have hd' : e :: ds = cs.drop (k + 1) := by
      have := congrArg List.tail hd
      rw [List.tail_drop] at this
      exact this
    have hb : cs[k]? = some b := by
      have := congrArg List.head? hd
      rw [List.head?_drop] at this
      exact this.symm
    have he : cs[k + 1]? = some e := by
      have := congrArg List.head? hd'
      rw [List.head?_drop] at this
      exact this.symm
    have hs : stpB ps (p :: ql) (b :: e :: ds) = (oneB ps p b e && stpB ps ql (e :: ds)) := by rw [stpB]
    have hz : enumD k ((p :: ql).map .int) = PyData.tuple [.int (k : Int), .int p] :: enumD (k + 1) (ql.map .int) := rfl
    rw [hz, hs]
    have e1 := iw1_z L ps pl cs ms k p b e hb he x7 x8 x9 x10
    cases h1 : oneB ps p b e with
    | true =>
      rw [h1] at e1
      obtain ⟨y7, y8, e1⟩ := e1.1 rfl
      have ih := iw2_z L ps pl cs ms x9 x10 ql (e :: ds) (k + 1) (some ⟨.own, di k⟩) (some ⟨.own, di p⟩) y7 y8 hd' h'
      rw [Bool.true_and]
      refine ⟨fun q => ?_, fun q => ?_⟩
      · obtain ⟨y5, y6, y7, y8, e2⟩ := ih.1 q
        exact ⟨y5, y6, y7, y8, (floop_nx (es := [.int (k : Int), .int p]) rfl e1).trans e2⟩
      · obtain ⟨Γ', e2⟩ := ih.2 q
        exact ⟨Γ', (floop_nx (es := [.int (k : Int), .int p]) rfl e1).trans e2⟩
    | false =>
      rw [h1] at e1
      obtain ⟨Γ', e1⟩ := e1.2 rfl
      exact ⟨fun q => (by cases q), fun _ => ⟨Γ', flp_rt (es := [.int (k : Int), .int p]) rfl e1⟩⟩
theorem ddp_nodup : ∀ {ms : List Int}, (ddp ms).length = ms.length → ddp ms = ms
  | [], _ => rfl
  | x :: r, h => by
    have := ddp_le r
    unfold ddp at h ⊢
    by_cases c : x ∈ ddp r
    · rw [if_pos c] at h
      rw [List.length_cons] at h
      omega
    · rw [if_neg c] at h ⊢
      rw [List.length_cons, List.length_cons] at h
      rw [ddp_nodup (by omega)]
theorem srt_ddp {ms : List Int} : srt (ddp ms) = srt ms ↔ (ddp ms).length = ms.length := by
  constructor
  · intro h
    have := congrArg List.length h
    rw [(srt_perm _).length_eq, (srt_perm _).length_eq] at this
    exact this
  · intro h
    rw [ddp_nodup h]
abbrev setSrt (ms : List Int) : Sl := .dat (dI (srt (ddp ms)))
theorem ints_dI (ms : List Int) : intsOf (ms.map PyData.int) = some ms := by
  have := ev_ints (q := id) (xs := ms)
  rw [List.map_id] at this
  exact this
theorem setSrt_z {ms : List Int} (h : ms.length < 64) {Γ : Gm} {m : Mr} {fl : Fl} (hm : m Γ = .ok ⟨fl, .dat (dI ms)⟩) : eSet gSrt m Γ = .ok ⟨.own, newL ((srt (ddp ms)).map .int)⟩ := by
  have z : eSet gSrt m Γ = (m Γ).bind fun x => fin (set1 gSrt x.s) := rfl
  have z2 : set1 gSrt (.dat (dI ms)) = some (gSrt ms) := by
    show (match intsOf (ms.map .int) with | some ns => if ns.length < 64 then some (gSrt ns) else none | none => none) = _
    rw [ints_dI]
    dsimp only
    rw [if_pos h]
  rw [z, hm, ev_bok, z2]
  rfl
theorem srt_z (ms : List Int) : pSrt [.dat (dI ms)] = some (newL ((srt ms).map .int)) := by
  show ((itsS (.dat (dI ms))).bind intsOf).map _ = _
  have : itsS (.dat (dI ms)) = some (ms.map .int) := rfl
  rw [this]
  show (intsOf (ms.map .int)).map _ = _
  rw [ints_dI]
  rfl
theorem ne_ints (xs ys : List Int) : pNe [.dat (dI xs), .dat (dI ys)] = some (.dat (.bool (!decide (xs = ys)))) := by
  show (if shp (dI xs) = true ∧ shp (dI ys) = true then some (Sl.dat (.bool (!PyData.eqvAll (xs.map .int) (ys.map .int)))) else none) = _
  rw [if_pos ⟨shp_ints xs, shp_ints ys⟩, eqv_ints]
theorem iw3_z (pl cs ms : List Int) (L : Int) (ps : List (Int × Int)) (hp : ps.length ≤ 100) (hm : ms.length < 64) (x5 x6 x7 x8 : Option Rv) : fin2 (tl__law_is_whole_2 (iwG L ps pl cs ms x5 x6 x7 x8 none none)) = ob1 (minB L ps ms) := by
  have es := setSrt_z (ms := ms) hm (Γ := iwG L ps pl cs ms x5 x6 x7 x8 none none) (m := eVar 4) (fl := .own) (by simp)
  have ea := comp_ofP (mi := iL (eVar 4)) (un := unN) (is := [9]) (vs := [9]) (mt := eYes) (me := eNotV (eChain pLe pLt (eC (.int 0)) (eVar 9) (eVar 0))) (Γ := iwG L ps pl cs ms x5 x6 x7 x8 none none) (xs := ms) (enc := PyData.int) (b := true) (g := fun m => db (!(decide (0 ≤ m) && decide (m < L)))) (by simp) (fun m _ => by
    by_cases c : 0 ≤ m
    · simp [c]
    · simp [c, -Int.not_le]) (by omega)
  have ei : ∀ p : Int × Int, eComp (iL (eVar 4)) unN [9] (eT (eFn f__law_has (eCons (eVar 10) (eCons (eVar 9) eNil)))) (eVar 9) [9] (iwG L ps pl cs ms x5 x6 x7 x8 none (some ⟨.own, dp p⟩)) = .ok ⟨.own, .node .L ((ms.filter fun m => hasI p m).map fun m => di m)⟩ := fun p => by
    refine comp_ifP (xs := ms) (enc := PyData.int) (b := true) (q := fun m => hasI p m) (g := fun m => di m) (by simp) (fun m _ => ?_) (by omega)
    have := lhas_ok p m
    simp [this]
  have eo := comp_ofP (mi := iL (eVar 1)) (un := unN) (is := [10]) (vs := [10]) (mt := eYes) (me := eOp2 pLt (eCall pLen (eCons (eFrz (eComp (iL (eVar 4)) unN [9] (eT (eFn f__law_has (eCons (eVar 10) (eCons (eVar 9) eNil)))) (eVar 9) [9])) eNil)) (eC (.int 2))) (Γ := iwG L ps pl cs ms x5 x6 x7 x8 none none) (xs := ps) (enc := prD) (b := true) (g := fun p => db (decide ((((ms.filter fun m => hasI p m).length : Nat) : Int) < 2))) (by simp) (fun p _ => by
    have := ei p
    simp (disch := first | omega | (simp; done) | (simp; omega)) [-ev_comp, this]) (by omega)
  have sz := srt_z ms
  have hd := srt_ddp (ms := ms)
  have ne := ne_ints (srt (ddp ms)) (srt ms)
  have lt2 : (fun p => decide ((((ms.filter fun m => hasI p m).length : Nat) : Int) < 2)) = fun p => decide ((ms.filter fun m => hasI p m).length < 2) := funext fun p => by
    by_cases c : (ms.filter fun m => hasI p m).length < 2
    · rw [decide_eq_true c, decide_eq_true (by omega)]
    · rw [decide_eq_false c, decide_eq_false (by omega)]
  have na : (ms.any fun m => !(decide (0 ≤ m) && decide (m < L))) = !ms.all fun m => decide (0 ≤ m) && decide (m < L) := by
    rw [← Bool.not_not (ms.any _), not_any (fun x => rfl)]
    simp only [Bool.not_not]
  simp only [Bool.not_and] at na
  unfold minB
  by_cases h1 : (ddp ms).length = ms.length
  · rw [decide_eq_true (hd.mpr h1)] at ne
    cases h2 : ms.all (fun m => decide (0 ≤ m) && decide (m < L)) with
    | true =>
      rw [h2] at na
      simp (disch := first | omega | (simp; done) | (simp; omega)) [tl__law_is_whole_2, -ev_comp, ea, es, eo, sz, ne, h1, na, Function.comp_def, lt2]
    | false =>
      rw [h2] at na
      simp (disch := first | omega | (simp; done) | (simp; omega)) [tl__law_is_whole_2, -ev_comp, ea, es, sz, ne, h1, na, Function.comp_def]
  · rw [decide_eq_false (fun z => h1 (hd.mp z))] at ne
    simp (disch := first | omega | (simp; done) | (simp; omega)) [tl__law_is_whole_2, -ev_comp, es, sz, ne, h1]
end W

namespace W
open PySem Pf
theorem iw_z (pl cs ms : List Int) (L : Int) (ps : List (Int × Int)) (hp : ps.length ≤ 100) (hm : ms.length < 64) (hc : cs ≠ []) : f__law_is_whole [di L, dps ps, .dat (dI pl), .dat (dI cs), .dat (dI ms)] = ob1 (shwB L ps pl cs ms) := by
  refine run_eq ?_
  cases cs with
  | nil => exact absurd rfl hc
  | cons c cs =>
    obtain ⟨La, hLa⟩ : ∃ La, (c :: cs).getLast? = some La := ⟨_, List.getLast?_eq_some_getLast (by simp)⟩
    have i1 := ix_first (c := c) (cs := cs)
    have i2 := ix_lastD hLa
    have ne : pNe [.dat (.list [.int c, .int La, .int ((cs.length : Int) + 1), .int ms.length]), .dat (.list [.int 0, .int L, .int ((pl.length : Int) + 1), .int pl.length])] = _ := ne_ints [c, La, (cs.length : Int) + 1, ms.length] [0, L, (pl.length : Int) + 1, pl.length]
    by_cases h : c = 0 ∧ La = L ∧ cs.length = pl.length ∧ ms.length = pl.length
    · obtain ⟨rfl, rfl, h3, h4⟩ := h
      have e0 : decide (([0, La, (cs.length : Int) + 1, ms.length] : List Int) = [0, La, (pl.length : Int) + 1, pl.length]) = true := by
        rw [h3, h4]
        simp
      rw [e0] at ne
      have h1 : ((0 : Int) :: cs).length = pl.length + 1 := by rw [List.length_cons, h3]
      have lp := iw2_z La ps pl (0 :: cs) ms none none pl (0 :: cs) 0 none none none none rfl h1
      have sw : shwB La ps pl (0 :: cs) ms = (stpB ps pl (0 :: cs) && minB La ps ms) := by
        unfold shwB
        rw [decide_eq_true h1, (decide_eq_true (p := ((0 : Int) :: cs).head? = some 0) rfl), decide_eq_true hLa, decide_eq_true h4]
        simp only [Bool.true_and]
      rw [sw]
      cases h5 : stpB ps pl (0 :: cs) with
      | true =>
        obtain ⟨y5, y6, y7, y8, e⟩ := lp.1 h5
        have t := iw3_z pl (0 :: cs) ms La ps hp hm y5 y6 y7 y8
        rw [Bool.true_and, ← t]
        have e' := congrArg (fun z => fin2 (nxt z tl__law_is_whole_2)) e
        refine Eq.trans ?_ e'
        simp (disch := first | omega | (simp; done) | (simp; omega)) [m__law_is_whole, tl__law_is_whole_3, i1, i2, ne]
      | false =>
        obtain ⟨Γ', e⟩ := lp.2 h5
        rw [Bool.false_and]
        have e' := congrArg (fun z => fin2 (nxt z tl__law_is_whole_2)) e
        refine Eq.trans ?_ e'
        simp (disch := first | omega | (simp; done) | (simp; omega)) [m__law_is_whole, tl__law_is_whole_3, i1, i2, ne]
    · have e0 : decide (([c, La, (cs.length : Int) + 1, ms.length] : List Int) = [0, L, (pl.length : Int) + 1, pl.length]) = false := by
        refine decide_eq_false fun z => h ?_
        injection z with z1 z
        injection z with z2 z
        injection z with z3 z
        injection z with z4 z
        omega
      rw [e0] at ne
      have sw : shwB L ps pl (c :: cs) ms = false := by
        cases q : shwB L ps pl (c :: cs) ms with
        | false => rfl
        | true =>
          unfold shwB at q
          simp only [Bool.and_eq_true, decide_eq_true_eq] at q
          obtain ⟨q1, q2, q3, _, q4, _⟩ := q
          refine absurd ⟨?_, ?_, ?_, q4⟩ h
          · exact Option.some.inj q2
          · rw [hLa] at q3
            exact Option.some.inj q3
          · rw [List.length_cons] at q1
            omega
      rw [sw]
      simp (disch := first | omega | (simp; done) | (simp; omega)) [m__law_is_whole, i1, i2, ne]
theorem says_z (a b : Bool) : f__law_says [db a, db b] = ob1 (a == b) := by
  cases a <;> cases b <;> rfl
theorem bshows_z (n m : Int) (ps : List (Int × Int)) (hl : ps.length ≤ 100) : f_Bare_shows [.node (.O "Bare" ["minute"]) [di m], di n, dps ps] = ob1 (decide (0 ≤ m) && decide (m < n) && !(ps.any fun p => hasI p m)) := by
  refine run_eq ?_
  simp (disch := first | omega | (simp; done) | (simp; omega)) [m_Bare_shows, cs_minute, ofStr_inj, Function.comp_def, has_ok]
end W

namespace W
open PySem Pf Mw
/-! the greedy walk's answer: cuts, minutes -/
abbrev msOf (here : Int) (es : List Int) : List Int := (here :: es).take es.length
theorem msOf_cons (here e : Int) (es : List Int) : msOf here (e :: es) = here :: msOf e es := rfl
section
variable {ps : List (Int × Int)} {n here : Int} {ql es : List Int}
theorem Gr.last (h : Gr ps n here ql es) : (here :: es).getLast? = some n := by
  induction h with
  | nil => rfl
  | cons _ _ _ _ _ _ ih => rw [List.getLast?_cons_cons]; exact ih
theorem Gr.le (h : Gr ps n here ql es) : here ≤ n := by
  induction h with
  | nil => exact Int.le_refl _
  | cons h1 _ _ _ _ _ _ => omega
theorem Gr.ms_b (h : Gr ps n here ql es) : ∀ m ∈ msOf here es, here ≤ m ∧ m < n := by
  induction h with
  | nil => intro m hm; cases hm
  | @cons here e j p ql es h1 h2 h3 h4 h5 _ ih =>
    intro m hm
    rw [msOf_cons] at hm
    rcases List.mem_cons.mp hm with rfl | hm
    · exact ⟨Int.le_refl _, h1⟩
    · have := ih m hm
      have h32 := h3.2
      omega
theorem Gr.ms_p (h : Gr ps n here ql es) : (msOf here es).Pairwise (· < ·) := by
  induction h with
  | nil => exact List.Pairwise.nil
  | @cons here e j p ql es h1 h2 h3 h4 h5 g ih =>
    rw [msOf_cons]
    refine List.Pairwise.cons (fun m hm => ?_) ih
    have := g.ms_b m hm
    have h32 := h3.2
    omega
theorem Gr.ms_1 (h : Gr ps n here ql es) : ∀ p ∈ ps, ((msOf here es).filter fun m => decide (p.1 ≤ m ∧ m < p.2)).length < 2 := by
  induction h with
  | nil => intro p hp; show (0 : Nat) < 2; omega
  | @cons here e j q ql es h1 h2 h3 h4 h5 g ih =>
    intro p hp
    rw [msOf_cons]
    by_cases hh : p.1 ≤ here ∧ here < p.2
    · rw [List.filter_cons_of_pos (by simpa using hh)]
      have up := h5.up p hp hh
      have e0 : (msOf e es).filter (fun m => decide (p.1 ≤ m ∧ m < p.2)) = [] := by
        rw [List.filter_eq_nil_iff]
        intro m hm
        have := g.ms_b m hm
        simp only [decide_eq_true_eq]
        omega
      rw [e0]
      show (1 : Nat) < 2
      omega
    · rw [List.filter_cons_of_neg (by simpa using hh)]
      exact ih p hp
theorem Gr.nd (h : Gr ps n here ql es) : (msOf here es).Nodup := h.ms_p.imp fun z => Int.ne_of_lt z
theorem ms_len : (msOf here es).length = es.length := by
  rw [List.length_take, List.length_cons]
  omega
theorem Gr.len_le (h : Gr ps n here ql es) : (es.length : Int) ≤ n - here := by
  induction h with
  | nil => simp
  | @cons here e j p ql es h1 h2 h3 h4 h5 g ih =>
    have h32 := h3.2
    rw [List.length_cons]
    omega
end
end W

namespace W
open PySem Pf Mw
/-! k04: what whole tells shows itself -/
section
variable {ps : List (Int × Int)} {n here : Int} {ql es : List Int}
theorem gr_stp (h : Gr ps n here ql es) : stpB ps ql (here :: es) = true := by
  induction h with
  | nil => unfold stpB; rfl
  | @cons here e j p ql es h1 h2 h3 h4 h5 g ih =>
    have hs : stpB ps ((j : Int) :: ql) (here :: e :: es) = (oneB ps j here e && stpB ps ql (e :: es)) := by rw [stpB]
    rw [hs, ih, Bool.and_true]
    unfold oneB
    rw [Int.toNat_natCast, h2]
    obtain ⟨a, b⟩ := h3
    dsimp only
    rw [decide_eq_true (by omega : (0 : Int) ≤ (j : Int)), decide_eq_true (by omega : here < e), decide_eq_true a, decide_eq_true (by omega : e ≤ p.2)]
    rfl
theorem gr_shw (h : Gr ps n 0 ql es) : shwB n ps ql (0 :: es) (msOf 0 es) = true := by
  have l := h.len
  have i : ∀ p : Int × Int, (fun m => hasI p m) = fun m => decide (p.1 ≤ m ∧ m < p.2) := fun p => funext fun m => by
    unfold hasI
    rw [Bool.decide_and]
  have a2 : ((msOf 0 es).all fun m => decide (0 ≤ m) && decide (m < n)) = true := by
    rw [List.all_eq_true]
    intro m hm
    have := h.ms_b m hm
    rw [decide_eq_true this.1, decide_eq_true this.2]
    rfl
  have a3 : (ps.all fun p => decide (((msOf 0 es).filter fun m => hasI p m).length < 2)) = true := by
    rw [List.all_eq_true]
    intro p hp
    refine decide_eq_true ?_
    rw [i p]
    exact h.ms_1 p hp
  have nd : (ddp (msOf 0 es)).length = (msOf 0 es).length := by
    have : ∀ {l : List Int}, l.Nodup → ddp l = l := fun {l} => by
      induction l with
      | nil => exact fun _ => rfl
      | cons x r ih =>
        intro hn
        have h' := List.nodup_cons.mp hn
        unfold ddp
        rw [ih h'.2, if_neg h'.1]
    rw [this h.nd]
  unfold shwB minB
  rw [decide_eq_true (by rw [List.length_cons, l] : ((0 : Int) :: es).length = ql.length + 1), (decide_eq_true (p := ((0 : Int) :: es).head? = some 0) rfl), decide_eq_true h.last, gr_stp h, decide_eq_true (by rw [ms_len, l] : (msOf 0 es).length = ql.length), a2, decide_eq_true nd, a3]
  rfl
end
/-- what whole tells, typed -/
theorem w_cases {n : Int} {ps : List (Int × Int)} (hn0 : 0 ≤ n ∧ n ≤ 60) (hn : ∀ p ∈ ps, p.2 ≤ n) : (∃ m, wOf n ps = some (.bare m) ∧ 0 ≤ m ∧ m < n ∧ (∀ p ∈ ps, hasI p m = false) ∧ fewO n ps = none) ∨ (∃ pl es, wOf n ps = some (.whole pl (0 :: es)) ∧ shwB n ps pl (0 :: es) (msOf 0 es) = true ∧ fewO n ps = some pl.length ∧ pl.length = es.length ∧ es.length ≤ 60 ∧ ∀ m, 0 ≤ m → m < n → ∃ p ∈ ps, hasI p m = true) := by
  obtain ⟨r, e, ok⟩ := wOf_ok (n := n) (ps := ps) (by omega) hn
  have fe : fewO n ps = (match some r with | some (.whole pl _) => some pl.length | _ => none) := by
    unfold fewO
    rw [e]
    all_goals rfl
  cases r with
  | bare m =>
    obtain ⟨a, b, c, _⟩ := ok
    refine .inl ⟨m, e, a, b, fun p mp => ?_, fe⟩
    cases q : hasI p m with
    | false => rfl
    | true => exact absurd (hasI_iff.mp q) (c p mp)
  | whole pl cs =>
    obtain ⟨ql, es, a, b, g⟩ := ok
    simp only [List.nil_append] at a
    subst a
    have b' : cs = 0 :: es := b
    subst b'
    have ll := g.len_le
    refine .inr ⟨pl, es, e, gr_shw g, fe, g.len, by omega, fun m h1 h2 => ?_⟩
    obtain ⟨p, mp, hp⟩ := (g.few hn).1.has m h1 h2
    exact ⟨p, mp, hasI_iff.mpr hp⟩
end W

namespace W
open PySem Pf Mw
/-! k04: what is due, by the kind of the answer -/
theorem isWW (xs : List Sl) : isi1 tb_Whole (.node (.O "Whole" ["places", "cuts", "minutes"]) xs) = ob1 true := by rfl
theorem isWB (xs : List Sl) : isi1 tb_Whole (.node (.O "Bare" ["minute"]) xs) = ob1 false := by rfl
theorem due_w (pl cs ms : List Int) (L : Int) (ps : List (Int × Int)) (hp : ps.length ≤ 100) (hm : ms.length < 64) (hc : cs ≠ []) : f__law_due [di L, dps ps, wholeZ pl cs ms] = ob1 (shwB L ps pl cs ms) := by
  have iw := iw_z pl cs ms L ps hp hm hc
  refine run_eq ?_
  simp (disch := first | omega | (simp; done) | (simp; omega)) [m__law_due, isWW, iw, cs_places, cs_cuts, cs_minutes, ofStr_inj]
theorem due_b (m L : Int) (ps : List (Int × Int)) (hp : ps.length ≤ 100) : f__law_due [di L, dps ps, bareS m] = ob1 (decide (0 ≤ m) && decide (m < L) && !(ps.any fun p => hasI p m)) := by
  have ib := lbare1_ok L m ps hp
  refine run_eq ?_
  unfold bareS
  simp (disch := first | omega | (simp; done) | (simp; omega)) [m__law_due, isWB, ib, cs_minute, ofStr_inj]
theorem num0 (n : Nat) (k : Int) : fR__law_numbers (n + 1) [di k] = ob1 true := by rfl
theorem numL (n : Nat) (xs : List Int) (hl : xs.length ≤ 1000) : fR__law_numbers (n + 2) [.dat (dI xs)] = ob1 true := by
  have ec := comp_ofP (mi := iL (eVar 0)) (un := unN) (is := [1]) (vs := [1]) (mt := eYes) (me := eFn (fR__law_numbers (n + 1)) (eCons (eVar 1) eNil)) (Γ := [some ⟨.own, .dat (dI xs)⟩, none]) (xs := xs) (enc := PyData.int) (b := true) (g := fun _ => db true) (by simp) (fun x _ => by
    have := num0 n x
    simp [this]) (by omega)
  have i2 : isi2 tList tTuple (.dat (dI xs)) = ob1 true := rfl
  show runF 1 2 (m__law_numbers (fR__law_numbers (n + 1))) [.dat (dI xs)] = _
  refine run_eq ?_
  simp (disch := first | omega | (simp; done) | (simp; omega)) [m__law_numbers, ev_isi2, i2, -ev_comp, ec, Function.comp_def]
end W

namespace W
open PySem Pf Mw
theorem numLL (a b c : List Int) (ha : a.length ≤ 1000) (hb : b.length ≤ 1000) (hc : c.length ≤ 1000) : f__law_numbers [.dat (.list [dI a, dI b, dI c])] = ob1 true := by
  have ec := comp_ofP (mi := iL (eVar 0)) (un := unN) (is := [1]) (vs := [1]) (mt := eYes) (me := eFn (fR__law_numbers 2) (eCons (eVar 1) eNil)) (Γ := [some ⟨.own, .dat (.list [dI a, dI b, dI c])⟩, none]) (xs := [a, b, c]) (enc := dI) (b := true) (g := fun _ => db true) (by simp) (fun x mx => by
    have hx : x.length ≤ 1000 := by
      simp only [List.mem_cons, List.not_mem_nil, or_false] at mx
      rcases mx with rfl | rfl | rfl
      · exact ha
      · exact hb
      · exact hc
    have := numL 0 x hx
    simp [this]) (by simp)
  have i2 : isi2 tList tTuple (.dat (.list [dI a, dI b, dI c])) = ob1 true := rfl
  show runF 1 2 (m__law_numbers (fR__law_numbers 2)) [.dat (.list [dI a, dI b, dI c])] = _
  refine run_eq ?_
  simp (disch := first | omega | (simp; done) | (simp; omega)) [m__law_numbers, ev_isi2, i2, -ev_comp, ec]
  all_goals rfl
theorem zls_ints : ∀ xs : List Int, zls (xs.map di) = xs.map di
  | [] => by rw [List.map_nil, zls]
  | x :: xs => by
    rw [List.map_cons, zls, zls_ints xs, zl]
theorem zl_nL (xs : List Int) : zl (nL xs) = .dat (dI xs) := by
  have e : datAll (xs.map di) = some (xs.map PyData.int) := datAll_dat PyData.int xs
  rw [zl, zls_ints, e]
theorem zl_whole (a b c : List Int) : zl (.node (.O "Whole" ["places", "cuts", "minutes"]) [nL a, nL b, nL c]) = wholeZ a b c := by
  rw [zl, zls, zls, zls, zls, zl_nL, zl_nL, zl_nL]
  exact fun h => nomatch h
theorem zl_bare (k : Int) : zl (bareS k) = bareS k := by
  unfold bareS
  rw [zl, zls, zls, zl]
  exact fun h => nomatch h
abbrev rG (L : Int) (qs : List (Int × Int)) (od_ : PyData) (good : Bool) (x5 x6 x7 x8 x9 : Option Rv) : Gm := [some ⟨.own, di L⟩, some ⟨.own, dps qs⟩, some ⟨.own, .dat od_⟩, some ⟨.own, dps qs⟩, some ⟨.own, db good⟩, x5, x6, x7, x8, x9, none]
abbrev otD (q : Int × List (Int × Int)) : PyData := .tuple [.int q.1, plD q.2]
theorem oth_w (L : Int) (qs : List (Int × Int)) (od_ : PyData) (good : Bool) (pl cs ms : List Int) (hm : ms.length < 64) (hc : cs ≠ []) (x5 x7 : Option Rv) : ∀ (os : List (Int × List (Int × Int))) (x8 x9 : Option Rv), (∀ q ∈ os, q.2.length ≤ 100) →
    ∃ y8 y9, floop (unT 2) [8, 9] lb__law_right_1 (os.map otD) (rG L qs od_ good x5 (some ⟨.own, .node (.O "Whole" ["places", "cuts", "minutes"]) [nL pl, nL cs, nL ms]⟩) x7 x8 x9) = .nx (rG L qs od_ good x5 (some ⟨.own, .node (.O "Whole" ["places", "cuts", "minutes"]) [nL pl, nL cs, nL ms]⟩) x7 y8 y9)
  | [], x8, x9, _ => ⟨x8, x9, rfl⟩
  | q :: os, x8, x9, h => by
    obtain ⟨y8, y9, e2⟩ := oth_w L qs od_ good pl cs ms hm hc x5 x7 os (some ⟨.own, di q.1⟩) (some ⟨.own, dps q.2⟩) fun r m => h r (List.mem_cons_of_mem _ m)
    have hq := h q List.mem_cons_self
    have sw := shows_w pl cs ms q.1 q.2 hq (.inl hm)
    have du := due_w pl cs ms q.1 q.2 hq hm hc
    have zw := zl_whole pl cs ms
    have zd : ∀ d : PyData, zl (.dat d) = .dat d := fun d => by rw [zl]
    have oz : ∀ k : Bool, outZ ⟨.own, db k⟩ = ob1 k := fun _ => rfl
    have fz : ∀ {f : Fm} {ma : MrA} {Γ : Gm}, eFnZ f ma Γ = (ma Γ).bind fun rs => (f (rs.map fun r => zl r.s)).bind outZ := rfl
    have sy := says_z (shwB q.1 q.2 pl cs ms) (shwB q.1 q.2 pl cs ms)
    rw [beq_self_eq_true] at sy
    have e1 : lb__law_right_1 (rG L qs od_ good x5 (some ⟨.own, .node (.O "Whole" ["places", "cuts", "minutes"]) [nL pl, nL cs, nL ms]⟩) x7 (some ⟨.own, di q.1⟩) (some ⟨.own, dps q.2⟩)) = .nx (rG L qs od_ good x5 (some ⟨.own, .node (.O "Whole" ["places", "cuts", "minutes"]) [nL pl, nL cs, nL ms]⟩) x7 (some ⟨.own, di q.1⟩) (some ⟨.own, dps q.2⟩)) := by
      simp (disch := first | omega | (simp; done) | (simp; omega)) [lb__law_right_1, eMethZ, fz, zw, zd, sw, du, oz, sy, ofStr_inj]
    exact ⟨y8, y9, (floop_nx (es := [.int q.1, plD q.2]) rfl e1).trans e2⟩
end W

namespace W
open PySem Pf Mw
theorem oth_b (L : Int) (qs : List (Int × Int)) (od_ : PyData) (good : Bool) (k : Int) (x5 x7 : Option Rv) : ∀ (os : List (Int × List (Int × Int))) (x8 x9 : Option Rv), (∀ q ∈ os, q.2.length ≤ 100) →
    ∃ y8 y9, floop (unT 2) [8, 9] lb__law_right_1 (os.map otD) (rG L qs od_ good x5 (some ⟨.own, bareS k⟩) x7 x8 x9) = .nx (rG L qs od_ good x5 (some ⟨.own, bareS k⟩) x7 y8 y9)
  | [], x8, x9, _ => ⟨x8, x9, rfl⟩
  | q :: os, x8, x9, h => by
    obtain ⟨y8, y9, e2⟩ := oth_b L qs od_ good k x5 x7 os (some ⟨.own, di q.1⟩) (some ⟨.own, dps q.2⟩) fun r m => h r (List.mem_cons_of_mem _ m)
    have hq := h q List.mem_cons_self
    have sw := bshows_z q.1 k q.2 hq
    have du := due_b k q.1 q.2 hq
    have zw := zl_bare k
    have zd : ∀ d : PyData, zl (.dat d) = .dat d := fun d => by rw [zl]
    have oz : ∀ k : Bool, outZ ⟨.own, db k⟩ = ob1 k := fun _ => rfl
    have fz : ∀ {f : Fm} {ma : MrA} {Γ : Gm}, eFnZ f ma Γ = (ma Γ).bind fun rs => (f (rs.map fun r => zl r.s)).bind outZ := rfl
    have sy := says_z (decide (0 ≤ k) && decide (k < q.1) && !(q.2.any fun p => hasI p k)) (decide (0 ≤ k) && decide (k < q.1) && !(q.2.any fun p => hasI p k))
    rw [beq_self_eq_true] at sy
    generalize (decide (0 ≤ k) && decide (k < q.1) && !(q.2.any fun p => hasI p k)) = B at sw du sy
    unfold bareS at zw du
    have e1 : lb__law_right_1 (rG L qs od_ good x5 (some ⟨.own, bareS k⟩) x7 (some ⟨.own, di q.1⟩) (some ⟨.own, dps q.2⟩)) = .nx (rG L qs od_ good x5 (some ⟨.own, bareS k⟩) x7 (some ⟨.own, di q.1⟩) (some ⟨.own, dps q.2⟩)) := by
      unfold bareS
      simp (disch := first | omega | (simp; done) | (simp; omega)) [lb__law_right_1, eMethZ, fz, zw, zd, sw, du, oz, sy, ofStr_inj]
    exact ⟨y8, y9, (floop_nx (es := [.int q.1, plD q.2]) rfl e1).trans e2⟩
end W

namespace W
open PySem Pf Mw
abbrev whN (pl cs ms : List Int) : Sl := .node (.O "Whole" ["places", "cuts", "minutes"]) [nL pl, nL cs, nL ms]
theorem wb_1 (xs : List Sl) : isi1 tb_Bare (.node (.O "Whole" ["places", "cuts", "minutes"]) xs) = ob1 false := by rfl
theorem wr_1 (xs : List Sl) : isi1 tb_Right (.node (.O "Whole" ["places", "cuts", "minutes"]) xs) = ob1 false := by rfl
theorem wa_1 (xs : List Sl) : isi1 tb_Answer (.node (.O "Whole" ["places", "cuts", "minutes"]) xs) = ob1 true := by rfl
theorem wg_1 (xs : List Sl) : isi1 tb_Wrong (.node (.O "Whole" ["places", "cuts", "minutes"]) xs) = ob1 false := by rfl
theorem bb_1 (xs : List Sl) : isi1 tb_Bare (.node (.O "Bare" ["minute"]) xs) = ob1 true := by rfl
theorem br_1 (xs : List Sl) : isi1 tb_Right (.node (.O "Bare" ["minute"]) xs) = ob1 false := by rfl
theorem ba_1 (xs : List Sl) : isi1 tb_Answer (.node (.O "Bare" ["minute"]) xs) = ob1 true := by rfl
theorem bg_1 (xs : List Sl) : isi1 tb_Wrong (.node (.O "Bare" ["minute"]) xs) = ob1 false := by rfl
theorem ne_tff : pNe [.dat (.list [.bool true, .bool false, .bool false]), .dat (.list [.bool true, .bool false, .bool false])] = some (db false) := by rfl
theorem ne_ftf : pNe [.dat (.list [.bool false, .bool true, .bool false]), .dat (.list [.bool false, .bool true, .bool false])] = some (db false) := by rfl
theorem shw_1 {o : Option Nat} (h : ∀ k, o = some k → k < 200) : shw (.list [optD o]) = true := by
  refine shw_of (sm_list (ds := [optD o]) (dep := 0) (wt := 9) fun d m => ?_) (by omega) (by simp)
  rw [List.mem_singleton.mp m]
  cases o with
  | none => exact sm_none
  | some k =>
    have := h k rfl
    exact sm_int ⟨by omega, by omega⟩
/-- up to the others -/
theorem right_w1 {L : Int} {qs : List (Int × Int)} (hL : 1 ≤ L ∧ L ≤ 60) (hq : ∀ p ∈ qs, okP L p) (hl : qs.length ≤ 40) (od_ : PyData) (pl es : List Int) (ew : wOf L qs = some (.whole pl (0 :: es))) (sw : shwB L qs pl (0 :: es) (msOf 0 es) = true) (fe : fewO L qs = some pl.length) (h1 : pl.length = es.length) (h2 : es.length ≤ 60) (x5 x6 x7 x8 x9 : Option Rv) :
    lb__law_right_2 (rG L qs od_ true x5 x6 x7 x8 x9) = tl__law_right_2 (rG L qs od_ true x5 (some ⟨.own, whN pl (0 :: es) (msOf 0 es)⟩) (some ⟨.own, .dat (.list [.bool true, .bool false, .bool false])⟩) x8 x9) := by
  have ml : (msOf 0 es).length = es.length := ms_len
  have wh : f_whole [di L, dps qs] = .ok ⟨.own, whN pl (0 :: es) (msOf 0 es)⟩ := whole_ok hL hq hl ew
  have fz := few_z hL hq hl
  rw [fe] at fz
  have shs := shows_w pl (0 :: es) (msOf 0 es) L qs (by omega) (.inl (by omega))
  have du := due_w pl (0 :: es) (msOf 0 es) L qs (by omega) (by omega) (by simp)
  rw [sw] at shs du
  have nu := numLL pl (0 :: es) (msOf 0 es) (by omega) (by rw [List.length_cons]; omega) (by omega)
  have sy : f__law_says [db true, db true] = ob1 true := by rfl
  have np := ne_prs qs qs
  rw [decide_eq_true rfl] at np
  have st : pStr [.dat (.list [.int (pl.length : Int)])] = some (.dat (.str (PyData.shown (.list [.int (pl.length : Int)])))) := str_of rfl (shw_1 (o := some pl.length) (fun k e => by cases e; omega))
  have zw := zl_whole pl (0 :: es) (msOf 0 es)
  have zd : ∀ d : PyData, zl (.dat d) = .dat d := fun d => by rw [zl]
  have oz : ∀ k : Bool, outZ ⟨.own, db k⟩ = ob1 k := fun _ => rfl
  have fZ : ∀ {f : Fm} {ma : MrA} {Γ : Gm}, eFnZ f ma Γ = (ma Γ).bind fun rs => (f (rs.map fun r => zl r.s)).bind outZ := rfl
  have ln : pLen [nL pl] = some (di (pl.length : Int)) := by
    show (match sIt (nL pl) with | some (_, ds) => some (Sl.dat (.int ds.length)) | none => none) = _
    unfold sIt
    rw [nL_its]
    dsimp only
    rw [List.length_map]
  have z3 : zl (.node .L [nL pl, nL (0 :: es), nL (msOf 0 es)]) = .dat (.list [dI pl, dI (0 :: es), dI (msOf 0 es)]) := by
    rw [zl, zls, zls, zls, zls, zl_nL, zl_nL, zl_nL]
    rfl
  generalize msOf 0 es = ms at *
  generalize (0 :: es) = cs at *
  simp (disch := first | omega | (simp; done) | (simp; omega)) [lb__law_right_2, tl__law_right_6, tl__law_right_5, tl__law_right_4, tl__law_right_3, wh, isWW, wb_1, wr_1, wa_1, wg_1, ne_tff, np, eMethZ, fZ, zw, zd, z3, shs, du, nu, sy, oz, st, fz, ln, optD, cs_places, cs_cuts, cs_minutes, ofStr_inj]
end W

namespace W
open PySem Pf Mw
theorem right_w2 {L : Int} {qs : List (Int × Int)} (hl : qs.length ≤ 40) (os : List (Int × List (Int × Int))) (ho : ∀ q ∈ os, q.2.length ≤ 100) (pl cs ms : List Int) (hc : cs ≠ []) (hm : ms.length = pl.length) (hm2 : ms.length ≤ 60) (x5 x7 x8 x9 : Option Rv) :
    ∃ y6 y8 y9, tl__law_right_2 (rG L qs (.list (os.map otD)) true x5 (some ⟨.own, whN pl cs ms⟩) x7 x8 x9) = .nx (rG L qs (.list (os.map otD)) true x5 y6 x7 y8 y9) := by
  obtain ⟨y8, y9, e⟩ := oth_w L qs (.list (os.map otD)) true pl cs ms (by omega) hc x5 x7 os x8 x9 ho
  have it : iL (eVar 2) (rG L qs (.list (os.map otD)) true x5 (some ⟨.own, whN pl cs ms⟩) x7 x8 x9) = .ok (true, os.map otD) := by simp
  have sf : shwB L qs pl cs (ms ++ [0]) = false := by
    have hne : ¬ ms.length + 1 = pl.length := by omega
    unfold shwB
    simp [hne]
  have shs := shows_w pl cs (ms ++ [0]) L qs (by omega) (.inl (by rw [List.length_append, List.length_singleton]; omega))
  rw [sf] at shs
  have shs : f_Whole_shows [.node (.O "Whole" ["places", "cuts", "minutes"]) [.dat (.list (pl.map .int)), .dat (.list (cs.map .int)), .dat (.list (ms.map .int ++ [.int 0]))], di L, dps qs] = ob1 false := by
    have e : (ms ++ [0]).map PyData.int = ms.map PyData.int ++ [.int 0] := by rw [List.map_append]; rfl
    rw [← e]
    exact shs
  have zw : zl (.node .L (ms.map di ++ [.dat (.int 0)])) = .dat (.list (ms.map .int ++ [.int 0])) := by
    have e1 : (ms ++ [0]).map di = ms.map di ++ [.dat (.int 0)] := by rw [List.map_append]; rfl
    have e2 : (ms ++ [0]).map PyData.int = ms.map PyData.int ++ [.int 0] := by rw [List.map_append]; rfl
    have this : zl (.node .L ((ms ++ [0]).map di)) = .dat (.list ((ms ++ [0]).map .int)) := zl_nL (ms ++ [0])
    rw [e1, e2] at this
    exact this
  have zd : ∀ d : PyData, zl (.dat d) = .dat d := fun d => by rw [zl]
  have oz : ∀ k : Bool, outZ ⟨.own, db k⟩ = ob1 k := fun _ => rfl
  have za : eZ (eCall pAll (eCons (eFrz (eComp (iT (eFrz (eSeq .T (eCons (eFld cs_places "places" (eVar 6)) (eCons (eFld cs_cuts "cuts" (eVar 6)) (eCons (eFld cs_minutes "minutes" (eVar 6)) eNil)))))) unN [10] eYes (eIsi tList (eVar 10)) [10])) eNil)) (rG L qs (.list (os.map otD)) true x5 (some ⟨.own, whN pl cs ms⟩) x7 y8 y9) = ob1 true := by
    have zw := zl_whole pl cs ms
    have il : ∀ xs : List PyData, isi1 tList (.dat (.list xs)) = ob1 true := fun _ => rfl
    have ec := comp_ofP (mi := iT (eFrz (eSeq .T (eCons (eFld cs_places "places" (eVar 6)) (eCons (eFld cs_cuts "cuts" (eVar 6)) (eCons (eFld cs_minutes "minutes" (eVar 6)) eNil)))))) (un := unN) (is := [10]) (vs := [10]) (mt := eYes) (me := eIsi tList (eVar 10)) (Γ := zlG (rG L qs (.list (os.map otD)) true x5 (some ⟨.own, whN pl cs ms⟩) x7 y8 y9)) (xs := [pl, cs, ms]) (enc := dI) (b := true) (g := fun _ => db true) (by
        simp [zlG, zw, cs_places, cs_cuts, cs_minutes, ofStr_inj]) (fun x _ => by
      simp [zlG, il]) (by simp)
    show ((eCall pAll _ (zlG _)).bind outZ) = _
    simp (disch := first | omega | (simp; done) | (simp; omega)) [-ev_comp, ec]
    all_goals rfl
  simp only [cs_minutes] at za
  refine ⟨some ⟨.own, .node (.O "Whole" ["places", "cuts", "minutes"]) [nL pl, nL cs, .node .L (ms.map di ++ [.dat (.int 0)])]⟩, y8, y9, ?_⟩
  refine (seq_nx ((for_ok it).trans e)).trans ?_
  simp (disch := first | omega | (simp; done) | (simp; omega)) [tl__law_right_1, -ev_Z, za, eMethZ, zw, zd, shs, oz, cs_minutes, ofStr_inj]
end W

namespace W
open PySem Pf Mw
theorem right_b {L : Int} {qs : List (Int × Int)} (hL : 1 ≤ L ∧ L ≤ 60) (hq : ∀ p ∈ qs, okP L p) (hl : qs.length ≤ 40) (os : List (Int × List (Int × Int))) (ho : ∀ q ∈ os, q.2.length ≤ 100) (m : Int) (ew : wOf L qs = some (.bare m)) (h0 : 0 ≤ m) (h1 : m < L) (hb : ∀ p ∈ qs, hasI p m = false) (fe : fewO L qs = none) (x5 x6 x7 x8 x9 : Option Rv) :
    ∃ y6 y7 y8 y9, lb__law_right_2 (rG L qs (.list (os.map otD)) false x5 x6 x7 x8 x9) = .nx (rG L qs (.list (os.map otD)) false x5 y6 y7 y8 y9) := by
  have wh : f_whole [di L, dps qs] = .ok ⟨.own, bareS m⟩ := whole_ok hL hq hl ew
  have fz := few_z hL hq hl
  rw [fe] at fz
  have na : (qs.any fun p => hasI p m) = false := by
    rw [List.any_eq_false]
    intro p mp
    rw [hb p mp]
    exact Bool.false_ne_true
  have shs := bshows_z L m qs (by omega)
  have du := due_b m L qs (by omega)
  rw [na, decide_eq_true h0, decide_eq_true h1] at shs du
  have sy : f__law_says [db true, db true] = ob1 true := by rfl
  have wn : f__law_whole_number [di m] = ob1 true := by rfl
  have np := ne_prs qs qs
  rw [decide_eq_true rfl] at np
  have st : pStr [.dat (.list [.none])] = some (.dat (.str (PyData.shown (.list [.none])))) := str_of rfl (shw_1 (o := none) (fun k e => by cases e))
  have zw := zl_bare m
  have zd : ∀ d : PyData, zl (.dat d) = .dat d := fun d => by rw [zl]
  have oz : ∀ k : Bool, outZ ⟨.own, db k⟩ = ob1 k := fun _ => rfl
  have fZ : ∀ {f : Fm} {ma : MrA} {Γ : Gm}, eFnZ f ma Γ = (ma Γ).bind fun rs => (f (rs.map fun r => zl r.s)).bind outZ := rfl
  obtain ⟨y8, y9, e⟩ := oth_b L qs (.list (os.map otD)) false m x5 (some ⟨.own, .dat (.list [.bool false, .bool true, .bool false])⟩) os x8 x9 ho
  have it : iL (eVar 2) (rG L qs (.list (os.map otD)) false x5 (some ⟨.own, bareS m⟩) (some ⟨.own, .dat (.list [.bool false, .bool true, .bool false])⟩) x8 x9) = .ok (true, os.map otD) := by simp
  have e2 : tl__law_right_2 (rG L qs (.list (os.map otD)) false x5 (some ⟨.own, bareS m⟩) (some ⟨.own, .dat (.list [.bool false, .bool true, .bool false])⟩) x8 x9) = .nx (rG L qs (.list (os.map otD)) false x5 (some ⟨.own, bareS m⟩) (some ⟨.own, .dat (.list [.bool false, .bool true, .bool false])⟩) y8 y9) := by
    refine (seq_nx ((for_ok it).trans e)).trans ?_
    simp
  refine ⟨_, _, y8, y9, Eq.trans ?_ e2⟩
  unfold bareS at *
  simp (disch := first | omega | (simp; done) | (simp; omega)) [lb__law_right_2, tl__law_right_6, tl__law_right_5, tl__law_right_4, tl__law_right_3, wh, isWB, bb_1, br_1, ba_1, bg_1, ne_ftf, np, eMethZ, fZ, zw, zd, shs, du, sy, wn, oz, st, fz, optD, cs_places, cs_cuts, cs_minutes, cs_minute, ofStr_inj]
end W

namespace W
open PySem Pf Mw
theorem eq_ints (xs ys : List Int) : pEq [.dat (dI xs), .dat (dI ys)] = some (.dat (.bool (decide (xs = ys)))) := by
  show (if shp (dI xs) = true ∧ shp (dI ys) = true then some (Sl.dat (.bool (PyData.eqvAll (xs.map .int) (ys.map .int)))) else none) = _
  rw [if_pos ⟨shp_ints xs, shp_ints ys⟩, eqv_ints]
theorem rg2z : rgI 2 = [0, 1] := by decide
theorem dP_list (xs : List (Int × Int)) : pList [dps xs] = some (newL (xs.map prD)) := rfl
theorem right_z {L : Int} {qs : List (Int × Int)} (hL : 1 ≤ L ∧ L ≤ 60) (hq : ∀ p ∈ qs, okP L p) (hl : qs.length ≤ 40) (os : List (Int × List (Int × Int))) (ho : ∀ q ∈ os, q.2.length ≤ 100) : f__law_right [di L, dps qs, .dat (.list (os.map otD))] = ob1 true := by
  have eb := lbare_ok L qs (by omega) (by omega)
  have eq : pEq [.dat (dI (bareI L qs)), .dat (.list [])] = _ := eq_ints (bareI L qs) []
  have dl := dP_list qs
  have step : ∀ (x5 x6 x7 x8 x9 : Option Rv), ∃ y6 y7 y8 y9, lb__law_right_2 (rG L qs (.list (os.map otD)) (decide (bareI L qs = [])) x5 x6 x7 x8 x9) = .nx (rG L qs (.list (os.map otD)) (decide (bareI L qs = [])) x5 y6 y7 y8 y9) := by
    intro x5 x6 x7 x8 x9
    have mb : ∀ m, m ∈ bareI L qs ↔ 0 ≤ m ∧ m < L ∧ (qs.any fun p => hasI p m) = false := fun m => by
      unfold bareI rgI
      rw [List.mem_filter, List.mem_map]
      simp only [Bool.and_eq_true, decide_eq_true_eq, Bool.not_eq_true', List.mem_range]
      constructor
      · rintro ⟨_, ⟨a, b⟩, c⟩
        exact ⟨a, b, c⟩
      · rintro ⟨a, b, c⟩
        exact ⟨⟨m.toNat, by omega, by omega⟩, ⟨a, b⟩, c⟩
    rcases w_cases (n := L) (ps := qs) (by omega) (fun p m => (hq p m).2.2) with ⟨m, ew, h0, h1, hb, fe⟩ | ⟨pl, es, ew, sw, fe, l1, l2, cov⟩
    · have nb : ¬ bareI L qs = [] := fun z => by
        have : m ∈ bareI L qs := (mb m).mpr ⟨h0, h1, by
          rw [List.any_eq_false]
          intro p mp
          rw [hb p mp]
          exact Bool.false_ne_true⟩
        rw [z] at this
        cases this
      rw [decide_eq_false nb]
      exact right_b hL hq hl os ho m ew h0 h1 hb fe x5 x6 x7 x8 x9
    · have nb : bareI L qs = [] := by
        cases z : bareI L qs with
        | nil => rfl
        | cons m r =>
          obtain ⟨a, b, c⟩ := (mb m).mp (by rw [z]; exact List.mem_cons_self)
          obtain ⟨p, mp, hp⟩ := cov m a b
          have := List.any_eq_false.mp c p mp
          exact absurd hp this
      rw [decide_eq_true nb]
      have ml : (msOf 0 es).length = es.length := ms_len
      obtain ⟨y6, y8, y9, e2⟩ := right_w2 (L := L) hl os ho pl (0 :: es) (msOf 0 es) (by simp) (by omega) (by omega) x5 (some ⟨.own, .dat (.list [.bool true, .bool false, .bool false])⟩) x8 x9
      exact ⟨y6, _, y8, y9, (right_w1 hL hq hl (.list (os.map otD)) pl es ew sw fe l1 l2 x5 x6 x7 x8 x9).trans e2⟩
  generalize decide (bareI L qs = []) = good at eq step
  obtain ⟨a6, a7, a8, a9, e1⟩ := step (some ⟨.own, di 0⟩) none none none none
  obtain ⟨b6, b7, b8, b9, e2⟩ := step (some ⟨.own, di 1⟩) a6 a7 a8 a9
  have lp : floop unN [5] lb__law_right_2 [.int 0, .int 1] (rG L qs (.list (os.map otD)) good none none none none none) = .nx (rG L qs (.list (os.map otD)) good (some ⟨.own, di 1⟩) b6 b7 b8 b9) :=
    (floop_nx (es := [.int 0]) rfl e1).trans ((floop_nx (es := [.int 1]) rfl e2).trans rfl)
  refine run_eq ?_
  simp (disch := first | omega | (simp; done) | (simp; omega)) [m__law_right, eb, eq, dl, rg2z, lp]
end W

namespace W
open PySem Pf Mw
theorem tail3 (x0 x1 x2 x3 x4 x5 x6 x7 x8 x9 : Option Rv) : fin2 (tl_law_3 [x0, x1, x2, x3, x4, x5, x6, x7, x8, x9]) = ob1 true := by kernel_rfl
abbrev fill (L : Int) (ps : List (Int × Int)) : List (Int × Int) := ps ++ (bareI L ps).map fun m => (m, m + 1)
theorem fill_ok {L : Int} {ps : List (Int × Int)} (h : ∀ p ∈ ps, okP L p) : ∀ p ∈ fill L ps, okP L p := by
  intro p m
  rcases List.mem_append.mp m with m | m
  · exact h p m
  · obtain ⟨k, mk, rfl⟩ := List.mem_map.mp m
    have h2 := (List.mem_filter.mp mk).1
    unfold rgI at h2
    obtain ⟨i, mi, rfl⟩ := List.mem_map.mp h2
    have := List.mem_range.mp mi
    unfold okP
    simp only
    omega
theorem bare_len {L : Int} {ps : List (Int × Int)} (h : 0 ≤ L) : ((bareI L ps).length : Int) ≤ L := by
  have := List.length_filter_le (fun m => decide (0 ≤ m) && decide (m < L) && !(ps.any fun p => hasI p m)) (rgI L)
  have r : ((rgI L).length : Int) = L := by
    rw [rg_len]
    omega
  unfold bareI
  omega
theorem zls_dat {α : Type} (f : α → PyData) : ∀ xs : List α, zls (xs.map fun x => Sl.dat (f x)) = xs.map fun x => Sl.dat (f x)
  | [] => by rw [List.map_nil, zls]
  | x :: xs => by
    rw [List.map_cons, zls, zls_dat f xs, zl]
theorem zl_nP (l : List (Int × Int)) : zl (nP l) = dps l := by
  have e : datAll (l.map dp) = some (l.map prD) := datAll_dat prD l
  have z : zls (l.map dp) = l.map dp := zls_dat prD l
  rw [zl, z, e]
/-- one part over all: one place, two cuts -/
theorem one_whole {L : Int} {qs : List (Int × Int)} (hL : 1 ≤ L ∧ L ≤ 60) (hq : ∀ p ∈ qs, okP L p) (hm : (0, L) ∈ qs) : ∃ j, wOf L qs = some (.whole [j] [0, L]) := by
  have up : ∀ p ∈ qs, p.2 ≤ L := fun p m => (hq p m).2.2
  have f1 : fewO L qs = some 1 := by
    refine Few.uniq (few_few (by omega) up) ⟨.cons (0, L) hm (Int.le_refl _) (by omega) (Int.le_refl _) (.nil L), fun k c => ?_⟩
    cases k with
    | zero =>
      have := c.zero
      omega
    | succ k => omega
  rcases w_cases (n := L) (ps := qs) (by omega) up with ⟨m, ew, h0, h1, hb, fe⟩ | ⟨pl, es, ew, sw, fe, l1, l2, cov⟩
  · rw [f1] at fe
    cases fe
  · rw [f1] at fe
    have lp : pl.length = 1 := (Option.some.inj fe).symm
    match pl, es, lp, l1 with
    | [j], [e], _, _ =>
      unfold shwB at sw
      simp only [Bool.and_eq_true, decide_eq_true_eq] at sw
      obtain ⟨_, _, s3, _⟩ := sw
      have : e = L := Option.some.inj s3
      subst this
      exact ⟨j, ew⟩
end W

namespace W
open PySem Pf Mw
abbrev k4G (ns : List Int) (by_ L : Int) (ps fs : List (Int × Int)) (od_ : PyData) (at_ : Int) (x7 x8 : Option Rv) : Gm := [some ⟨.par, scr ns⟩, some ⟨.own, di by_⟩, some ⟨.own, di L⟩, some ⟨.own, dps ps⟩, some ⟨.own, dps fs⟩, some ⟨.own, .dat od_⟩, some ⟨.own, di at_⟩, x7, x8, none]
theorem four_step (ns : List Int) (by_ L : Int) (ps fs : List (Int × Int)) (os : List (Int × List (Int × Int))) (at_ : Int) (hL : 1 ≤ L ∧ L ≤ 60) (ho : ∀ q ∈ os, q.2.length ≤ 100) (qs : List (Int × Int)) (hq : ∀ p ∈ qs, okP L p) (hl : qs.length ≤ 40) (x8 : Option Rv) :
    lb_law_1 (k4G ns by_ L ps fs (.list (os.map otD)) at_ (some ⟨.own, dps qs⟩) x8) = .nx (k4G ns by_ L ps fs (.list (os.map otD)) at_ (some ⟨.own, dps qs⟩) x8) := by
  have r := right_z hL hq hl os ho
  simp [lb_law_1, r]
theorem nols_int : ∀ xs : List Int, nolSs (xs.map di) = true
  | [] => rfl
  | x :: xs => by
    show (nolS (di x) && nolSs (xs.map di)) = true
    rw [nols_int xs]
    rfl
theorem oz_wr (r : Wr) : outZ ⟨.own, r.sl⟩ = .ok ⟨.own, r.sl⟩ := by
  cases r with
  | bare m => rfl
  | whole pl cs =>
    refine if_pos ?_
    show (nolSs (pl.map di) && (nolSs (cs.map di) && (nolSs ((cs.take (cs.length - 1)).map di) && true))) = true
    rw [nols_int, nols_int, nols_int]
    rfl
theorem tail1 (ns : List Int) (by_ L : Int) (ps fs : List (Int × Int)) (od_ : PyData) (at_ : Int) (hL : 1 ≤ L ∧ L ≤ 60) (hf : ∀ p ∈ fs, okP L p) (hfl : fs.length ≤ 1000) (x7 x8 : Option Rv) : ∃ y7 y8, tl_law_1 (k4G ns by_ L ps fs od_ at_ x7 x8) = .nx (k4G ns by_ L ps fs od_ at_ y7 y8) := by
  have ct : cutX fs none (some 39) = fs.take 39 := cutX_to (by omega)
  have ht : ∀ p ∈ fs.take 39, okP L p := fun p m => hf p (List.mem_of_mem_take m)
  have hl : (fs.take 39).length ≤ 39 := by
    rw [List.length_take]
    omega
  generalize fs.take 39 = ts at ct ht hl
  have ok1 : ∀ e : Int, 1 ≤ e → e ≤ L → ∀ p ∈ ts ++ [(0, e)], okP L p := fun e h1 h2 p m => by
    rcases List.mem_append.mp m with m | m
    · exact ht p m
    · rw [List.mem_singleton.mp m]
      exact ⟨Int.le_refl _, by simp only; omega, h2⟩
  have ln : ∀ e : Int, (ts ++ [((0 : Int), e)]).length ≤ 40 := fun e => by
    rw [List.length_append, List.length_singleton]
    omega
  obtain ⟨r, ew, _⟩ := wOf_ok (n := L) (ps := ts ++ [(0, 1)]) (by omega) fun p m => (ok1 1 (by omega) hL.1 p m).2.2
  have w1 := whole_ok hL (ok1 1 (by omega) hL.1) (ln 1) ew
  obtain ⟨j, ew2⟩ := one_whole hL (ok1 L hL.1 (Int.le_refl _)) (List.mem_append_right _ (List.mem_singleton.mpr rfl))
  have w2 := whole_ok hL (ok1 L hL.1 (Int.le_refl _)) (ln L) ew2
  have o1 := oz_wr r
  have o2 := oz_wr (.whole [j] [0, L])
  have z1 := zl_nP (ts ++ [(0, 1)])
  have z2 := zl_nP (ts ++ [(0, L)])
  have zd : ∀ d : PyData, zl (.dat d) = .dat d := fun d => by rw [zl]
  have fZ : ∀ {f : Fm} {ma : MrA} {Γ : Gm}, eFnZ f ma Γ = (ma Γ).bind fun rs => (f (rs.map fun r => zl r.s)).bind outZ := rfl
  have ad : pAdd [dps ts, .dat (.list [.tuple [.int 0, .int 1]])] = some (nP (ts ++ [(0, 1)])) := by
    have e : pAdd [.dat (.list (ts.map prD)), .dat (.list [.tuple [.int 0, .int 1]])] = some (newL (ts.map prD ++ [.tuple [.int 0, .int 1]])) := ev_addL (by rw [List.length_map]; simp only [List.length_cons, List.length_nil]; omega)
    have e2 : ts.map prD ++ [.tuple [.int 0, .int 1]] = (ts ++ [((0 : Int), (1 : Int))]).map prD := by rw [List.map_append]; rfl
    rw [e2] at e
    have e3 : newL ((ts ++ [((0 : Int), (1 : Int))]).map prD) = .node .L ((ts ++ [((0 : Int), (1 : Int))]).map fun x => Sl.dat (prD x)) := new_own
    rw [e3] at e
    exact e
  have i1 : sAsg 7 (eOp2 pAdd (eFrz (eCut (eVar 4) eNoP (eP (eC (.int 39))))) (eFrz (eSeq .L (eCons (eFrz (eSeq .T (eCons (eC (.int 0)) (eCons (eC (.int 1)) eNil)))) eNil)))) (k4G ns by_ L ps fs od_ at_ x7 x8) = .nx (k4G ns by_ L ps fs od_ at_ (some ⟨.own, nP (ts ++ [(0, 1)])⟩) x8) := by
    simp (disch := first | omega | (simp; done) | (simp; omega)) [ct, ad, -List.map_append]
  have i2 : sExp (eFnZ f_whole (eCons (eVar 2) (eCons (eVar 7) eNil))) (k4G ns by_ L ps fs od_ at_ (some ⟨.own, nP (ts ++ [(0, 1)])⟩) x8) = .nx (k4G ns by_ L ps fs od_ at_ (some ⟨.own, nP (ts ++ [(0, 1)])⟩) x8) := by
    generalize ts ++ [(0, 1)] = rs at z1 w1
    simp (disch := first | omega | (simp; done) | (simp; omega)) [fZ, zd, z1, w1, o1]
  have i3 : sPut 7 (eFrz (eSeq .T (eCons (eC (.int 0)) (eCons (eVar 2) eNil)))) (eOp1 pNeg (eC (.int 1))) (k4G ns by_ L ps fs od_ at_ (some ⟨.own, nP (ts ++ [(0, 1)])⟩) x8) = .nx (k4G ns by_ L ps fs od_ at_ (some ⟨.own, nP (ts ++ [(0, L)])⟩) x8) := by
    have ix : L2.ixN (ts.length + 1) (-1) = some ts.length := by
      unfold L2.ixN
      rw [if_neg (by omega), if_pos (by omega)]
      congr 1
      omega
    have tk : ((ts ++ [((0 : Int), (1 : Int))]).map dp).take ts.length ++ [.dat (.tuple [.int 0, .int L])] ++ ((ts ++ [((0 : Int), (1 : Int))]).map dp).drop (ts.length + 1) = (ts ++ [((0 : Int), L)]).map dp := by
      rw [List.map_append, List.map_append, List.take_append_of_le_length (by rw [List.length_map]; exact Nat.le_refl _), List.take_of_length_le (by rw [List.length_map]; exact Nat.le_refl _), List.drop_of_length_le (by rw [List.length_append, List.length_map]; exact Nat.le_refl _), List.append_nil]
      rfl
    simp (disch := first | omega | (simp; done) | (simp; omega)) [ix, -List.append_assoc, -List.cons_append, -List.nil_append, tk, -List.map_append]
  have i4 : sAsg 8 (eFnZ f_whole (eCons (eVar 2) (eCons (eVar 7) eNil))) (k4G ns by_ L ps fs od_ at_ (some ⟨.own, nP (ts ++ [(0, L)])⟩) x8) = .nx (k4G ns by_ L ps fs od_ at_ (some ⟨.own, nP (ts ++ [(0, L)])⟩) (some ⟨.own, whN [j] [0, L] [0]⟩)) := by
    generalize ts ++ [(0, L)] = rs at z2 w2
    simp (disch := first | omega | (simp; done) | (simp; omega)) [fZ, zd, z2, w2, o2]
    all_goals rfl
  have n2 : pNe [.node .L [di 0, di L], .dat (.list [.int 0, .int L])] = some (db false) := by
    have e : pNe [.node .L [di 0, di L], .dat (.list [.int 0, .int L])] = pNe [.dat (dI [0, L]), .dat (dI [0, L])] := rfl
    rw [e, ne_ints, decide_eq_true rfl]
    rfl
  have l1 : pLen [.node .L [di j]] = some (di 1) := rfl
  have i5 : sIf (eOr (eNot (eT (eIsi tb_Whole (eVar 8)))) (eOr (eT (eOp2 pNe (eCall pLen (eCons (eFld cs_places "places" (eVar 8)) eNil)) (eC (.int 1)))) (eT (eOp2 pNe (eFld cs_cuts "cuts" (eVar 8)) (eFrz (eSeq .L (eCons (eC (.int 0)) (eCons (eVar 2) eNil)))))))) (sRet (eC (.bool false))) sSkip (k4G ns by_ L ps fs od_ at_ (some ⟨.own, nP (ts ++ [(0, L)])⟩) (some ⟨.own, whN [j] [0, L] [0]⟩)) = .nx (k4G ns by_ L ps fs od_ at_ (some ⟨.own, nP (ts ++ [(0, L)])⟩) (some ⟨.own, whN [j] [0, L] [0]⟩)) := by
    generalize nP (ts ++ [(0, L)]) = rs
    simp (disch := first | omega | (simp; done) | (simp; omega)) [isWW, l1, n2, cs_places, cs_cuts, ofStr_inj]
  exact ⟨_, _, (seq_nx i1).trans ((seq_nx i2).trans ((seq_nx i3).trans ((seq_nx i4).trans i5)))⟩
end W

namespace W
open PySem Pf Mw
theorem cutX_le {α : Type} {xs : List α} {lo hi : Option Int} : (cutX xs lo hi).length ≤ xs.length := by
  unfold cutX
  rw [List.length_take, List.length_drop]
  omega
theorem cutX_mem {α : Type} {xs : List α} {lo hi : Option Int} {x : α} (h : x ∈ cutX xs lo hi) : x ∈ xs := by
  unfold cutX at h
  exact List.mem_of_mem_drop (List.mem_of_mem_take h)
theorem cutX_40 {α : Type} {xs : List α} : (cutX xs none (some 40)).length ≤ 40 := by
  rw [cutX_to (by omega), List.length_take]
  omega
theorem body_ok (ns : List Int) (k : Int) (hk : 0 ≤ k ∧ k < 3) (x2 x3 x4 x5 x6 x7 x8 : Option Rv) :
    ∃ y2 y3 y4 y5 y6 y7 y8, lb_law_2 [some ⟨.par, scr ns⟩, some ⟨.own, di k⟩, x2, x3, x4, x5, x6, x7, x8, none] = .nx [some ⟨.par, scr ns⟩, some ⟨.own, di k⟩, y2, y3, y4, y5, y6, y7, y8, none] := by
  have nb := num_b (cellZ ns k) (k + 1) 60 (by omega)
  have le := length_ok ns k 60 (by omega)
  generalize hL : 1 + numZ (cellZ ns k) (k + 1) 60 = L at le
  have bL : 1 ≤ L ∧ L ≤ 60 := by omega
  obtain ⟨ps, ep, op, np⟩ := parts_ok ns k L 12 (by omega) (by omega) (by omega)
  have eb := lbare_ok L ps (by omega) (by omega)
  have bl := bare_len (L := L) (ps := ps) (by omega)
  have f1 := fill_ok op
  have fl : (fill L ps).length ≤ 72 := by
    rw [List.length_append, List.length_map]
    omega
  have ad : pAdd [.dat (.list (ps.map prD)), .dat (.list ((bareI L ps).map fun m => prD (m, m + 1)))] = some (newL ((fill L ps).map prD)) := by
    rw [ev_addL (by rw [List.length_map, List.length_map]; omega), List.map_append, List.map_map]
    rfl
  have ec := comp_ofP (mi := iL (eFrz (eFn f__law_bare (eCons (eVar 2) (eCons (eVar 3) eNil))))) (un := unN) (is := [9]) (vs := [9]) (mt := eYes) (me := eFrz (eSeq .T (eCons (eVar 9) (eCons (eOp2 pAdd (eVar 9) (eC (.int 1))) eNil)))) (Γ := [some ⟨.par, scr ns⟩, some ⟨.own, di k⟩, some ⟨.own, di L⟩, some ⟨.own, dps ps⟩, x4, x5, x6, x7, x8, none]) (xs := bareI L ps) (enc := PyData.int) (b := true) (g := fun m => .dat (prD (m, m + 1))) (by simp [eb]) (fun m _ => by simp [prD]) (by omega)
  generalize hq : fill L ps = fs at ad f1 fl
  have cn := cell_z (ns := ns) (k := k) hk.1
  have nz := num_z (c := cellZ ns k) (k := k + 4) (lim := (fs.length : Int) + 1) (by omega)
  have na := num_b (cellZ ns k) (k + 4) ((fs.length : Int) + 1) (by omega)
  generalize numZ (cellZ ns k) (k + 4) ((fs.length : Int) + 1) = at_ at nz na
  have ho : ∀ q ∈ [(L, cutX ps (some 1) none), (L, ps.reverse), ((60 : Int), ps)], q.2.length ≤ 100 := fun q m => by
    have c1 := cutX_le (xs := ps) (lo := some 1) (hi := none)
    simp only [List.mem_cons, List.not_mem_nil, or_false] at m
    rcases m with rfl | rfl | rfl
    · simp only; omega
    · simp only [List.length_reverse]; omega
    · simp only; omega
  have st := fun qs hq hl x8 => four_step ns k L ps fs [(L, cutX ps (some 1) none), (L, ps.reverse), ((60 : Int), ps)] at_ (by omega) ho qs hq hl x8
  have s1 := st ps op (by omega) x8
  have s2 := st (cutX fs none (some 40)) (fun p m => f1 p (cutX_mem m)) cutX_40 x8
  have s3 := st (cutX (cutX fs (some at_) none) none (some 40)) (fun p m => f1 p (cutX_mem (cutX_mem m))) cutX_40 x8
  have s4 := st (cutX (cutX fs none (some at_) ++ [(0, L)]) none (some 40)) (fun p m => by
    rcases List.mem_append.mp (cutX_mem m) with m | m
    · exact f1 p (cutX_mem m)
    · rw [List.mem_singleton.mp m]
      exact ⟨Int.le_refl _, by simp only; omega, Int.le_refl _⟩) cutX_40 x8
  have a2 : pAdd [.dat (.list ((cutX fs none (some at_)).map prD)), .dat (.list [.tuple [.int 0, .int L]])] = some (newL ((cutX fs none (some at_) ++ [(0, L)]).map prD)) := by
    have c1 := cutX_le (xs := fs) (lo := none) (hi := some at_)
    rw [ev_addL (by rw [List.length_map]; simp only [List.length_cons, List.length_nil]; omega), List.map_append]
    rfl
  have rv : (ps.map prD).reverse = ps.reverse.map prD := List.map_reverse.symm
  obtain ⟨y7, y8, e3⟩ := tail1 ns k L ps fs (.list ([(L, cutX ps (some 1) none), (L, ps.reverse), ((60 : Int), ps)].map otD)) at_ (by omega) f1 (by omega) (some ⟨.own, dps (cutX (cutX fs none (some at_) ++ [(0, L)]) none (some 40))⟩) x8
  have lp : floop unN [7] lb_law_1 [plD ps, plD (cutX fs none (some 40)), plD (cutX (cutX fs (some at_) none) none (some 40)), plD (cutX (cutX fs none (some at_) ++ [(0, L)]) none (some 40))] (k4G ns k L ps fs (.list ([(L, cutX ps (some 1) none), (L, ps.reverse), ((60 : Int), ps)].map otD)) at_ x7 x8) = .nx (k4G ns k L ps fs (.list ([(L, cutX ps (some 1) none), (L, ps.reverse), ((60 : Int), ps)].map otD)) at_ (some ⟨.own, dps (cutX (cutX fs none (some at_) ++ [(0, L)]) none (some 40))⟩) x8) :=
    (floop_nx (es := [plD _]) rfl s1).trans ((floop_nx (es := [plD _]) rfl s2).trans ((floop_nx (es := [plD _]) rfl s3).trans ((floop_nx (es := [plD _]) rfl s4).trans rfl)))
  refine ⟨_, _, _, _, _, _, _, Eq.trans ?_ e3⟩
  have lp' := congrArg (fun z => nxt z tl_law_1) lp
  refine Eq.trans ?_ lp'
  generalize cutX fs none (some at_) ++ [(0, L)] = us at a2
  simp (maxSteps := 2000000) (disch := first | omega | (simp; done) | (simp; omega)) [lb_law_2, -ev_comp, le, ep, ec, ad, a2, cn, nz, rv, -List.map_reverse]
  all_goals rfl
theorem law_true (ns : List Int) : f_law [scr ns] = .ok ⟨.own, .dat (.bool true)⟩ := by
  obtain ⟨Γ, e, x1, x2, x3, x4, x5, x6, x7, x8, rfl, _⟩ := floop_I (un := unN) (is := [1]) (body := lb_law_2) PyData.int (fun x => [.int x]) (fun _ => rfl)
    (fun rest Γ => ∃ x1 x2 x3 x4 x5 x6 x7 x8, Γ = [some ⟨.par, scr ns⟩, x1, x2, x3, x4, x5, x6, x7, x8, none] ∧ ∀ x ∈ rest, 0 ≤ x ∧ x < 3)
    (fun x xs Γ ⟨x1, x2, x3, x4, x5, x6, x7, x8, eG, hx⟩ => by
      subst eG
      obtain ⟨y2, y3, y4, y5, y6, y7, y8, e3⟩ := body_ok ns x (hx x List.mem_cons_self) x2 x3 x4 x5 x6 x7 x8
      exact ⟨_, e3, _, y2, y3, y4, y5, y6, y7, y8, rfl, fun y m => hx y (List.mem_cons_of_mem _ m)⟩)
    [0, 1, 2] (some ⟨.par, scr ns⟩ :: List.replicate 9 none) ⟨none, none, none, none, none, none, none, none, rfl, fun x m => by simp only [List.mem_cons, List.not_mem_nil, or_false] at m; omega⟩
  have t := tail3 (some ⟨.par, scr ns⟩) x1 x2 x3 x4 x5 x6 x7 x8 none
  have it : iR1 (eCons (eC (.int 3)) eNil) (initG 10 [scr ns]) = .ok (true, [0, 1, 2].map PyData.int) := rfl
  have e' : m_law (initG 10 [scr ns]) = tl_law_3 [some ⟨.par, scr ns⟩, x1, x2, x3, x4, x5, x6, x7, x8, none] := seq_nx ((for_ok it).trans e)
  refine run_eq ?_
  rw [e']
  exact t
end W
theorem PySem.Challenge.cw_partfilm_k04_whole_whole_holds : PySem.Challenge.rw_partfilm_k04_whole_whole.Holds := by
  exact W.holds fun ns _ => W.law_true ns
