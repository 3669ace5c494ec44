import PyProof.Rows.All
import Wide.All
import OpenK.AllK
import Wide.FinOn
import HandS.ForMost
import HandS.ForExc
import HandS.Nested
import HandS.IsInst
import HandS.Flow
import HandS.Style
import HandS.TupAny
import HandS.Wide
import HandS.Defaults
import KE.DataCmp
import HandS.HeadEnd
import HandS.HeadHook3
import HandS.Comp
import HandS.Head0
import HandS.Head1
import HandS.Head2
import HandS.HeadHook1
import HandS.HeadHook2
import PySem.Challenge.RW_sealedplans_k83_whole_steps_done_by_own
set_option Elab.async false
set_option linter.all false
set_option maxRecDepth 100000
set_option maxHeartbeats 4000000
/-! DlA: plain data, worlds, the relations between the abstract state and the hand layer's heap. -/
namespace Dl
abbrev St := L2.St
open PySem PySem.Spec PyProof.Rows L2 NdefX
/-! ### data -/
inductive D where
  | non | bl (b : Bool) | int (i : Int) | str (s : Str) | lst (l : List D) | tup (l : List D)
mutual
def D.py : D → PyData
  | .non => .none
  | .bl b => .bool b
  | .int i => .int i
  | .str s => .str s
  | .lst l => .list (D.pyAll l)
  | .tup l => .tuple (D.pyAll l)
def D.pyAll : List D → List PyData
  | [] => []
  | d :: l => d.py :: D.pyAll l
end
/-- what stands in a slot, what an expression gives -/
inductive RV where
  | dat (d : D) | fresh (l : List D) | bor (i : Nat) (l : List D) | wref (k : Nat)
inductive Sl where
  | un | dat (d : D) | own (l : List D) | wref (k : Nat)
/-- the objects that are changed through references -/
inductive WO where
  | lst (l : List D)
abbrev World := List WO
abbrev Ev := List Sl
structure Exn where
  cls : Str
  fld : Option (Str × D)
inductive Out (α : Type) where
  | ok (a : α) (w : World) | exc (x : Exn) (env : Ev) (w : World) | stuck
def Out.bind {α β : Type} (o : Out α) (f : α → World → Out β) : Out β := match o with
  | .ok a w => f a w
  | .exc x e w => .exc x e w
  | .stuck => .stuck
@[simp] theorem bind_ok {α β : Type} (a : α) (w : World) (f : α → World → Out β) : (Out.ok a w).bind f = f a w := rfl
@[simp] theorem bind_exc {α β : Type} (x : Exn) (e : Ev) (w : World) (f : α → World → Out β) : (Out.exc x e w : Out α).bind f = .exc x e w := rfl
@[simp] theorem bind_stuck {α β : Type} (f : α → World → Out β) : (Out.stuck : Out α).bind f = .stuck := rfl
theorem bind_assoc {α β γ : Type} (o : Out α) (f : α → World → Out β) (g : β → World → Out γ) : (o.bind f).bind g = o.bind fun a w => (f a w).bind g := by cases o <;> rfl
abbrev Ex := Ev → World → Out RV
/-! ### how data lie in the heap -/
def SOk (s : Str) : Prop := PyData.strOk s = true ∧ s.length ≤ sizeLine
inductive Rp (K : PySem.W.Frag) (F : Hp) : V → D → Prop
  | non : Rp K F .non .non
  | bl (b : Bool) : Rp K F (.bl b) (.bl b)
  | int (i : Int) : Rp K F (.int i) (.int i)
  | str (s : Str) (h : SOk s) : Rp K F (.str s) (.str s)
  | lst {a : Addr} {vs : List V} {l : List D} (hz : l.length ≤ sizeLine) : SqL K F a vs → Paired (Rp K F) vs l → Rp K F (.ref a) (.lst l)
  | tup {a : Addr} {vs : List V} {l : List D} (hz : l.length ≤ sizeLine) : SqT K F a vs → Paired (Rp K F) vs l → Rp K F (.ref a) (.tup l)
theorem rd_mono {H H' : Hp} {a : Addr} {u : HO} (e : Same H H') (h : Rd H a u) : Rd H' a u := by
  rcases h with h | ⟨o, h⟩
  · exact .inl (e _ _ h)
  · exact .inr ⟨o, e _ _ h⟩
theorem sqT_mono {K : PySem.W.Frag} {H H' : Hp} {a : Addr} {xs : List V} (e : Same H H') (h : SqT K H a xs) : SqT K H' a xs := by
  rcases h with (h | ⟨o, h⟩) | h
  · exact .inl (.inl (e _ _ h))
  · exact .inl (.inr ⟨o, e _ _ h⟩)
  · exact .inr h
mutual
theorem Rp.mono {K : PySem.W.Frag} {F F' : Hp} (e : Same F F') : ∀ (d : D) (v : V), Rp K F v d → Rp K F' v d
  | .non, _, h => by cases h; exact .non
  | .bl b, _, h => by cases h; exact .bl b
  | .int i, _, h => by cases h; exact .int i
  | .str s, _, h => by cases h with | str _ q => exact .str s q
  | .lst l, _, h => by
    cases h with
    | lst hz hs hp => exact .lst hz (e.seq hs) (Rp.monoAll e l _ hp)
  | .tup l, _, h => by
    cases h with
    | tup hz hs hp => exact .tup hz (sqT_mono e hs) (Rp.monoAll e l _ hp)
theorem Rp.monoAll {K : PySem.W.Frag} {F F' : Hp} (e : Same F F') : ∀ (l : List D) (vs : List V), Paired (Rp K F) vs l → Paired (Rp K F') vs l
  | [], _, h => by cases h; exact .nil
  | d :: l, _, h => by
    cases h with
    | cons h1 h2 => exact .cons (Rp.mono e d _ h1) (Rp.monoAll e l _ h2)
end
mutual
theorem Rp.dp {K : PySem.W.Frag} {F : Hp} : ∀ (d : D) (v : V), Rp K F v d → Dp K F v d.py
  | .non, _, h => by cases h; exact .non
  | .bl b, _, h => by cases h; exact .bl b
  | .int i, _, h => by cases h; exact .int i
  | .str s, _, h => by cases h; exact .str s
  | .lst l, _, h => by
    cases h with
    | lst hz hs hp => exact .lst hs (Rp.dpAll l _ hp)
  | .tup l, _, h => by
    cases h with
    | tup hz hs hp => exact .tup hs (Rp.dpAll l _ hp)
theorem Rp.dpAll {K : PySem.W.Frag} {F : Hp} : ∀ (l : List D) (vs : List V), Paired (Rp K F) vs l → DpAll K F vs (D.pyAll l)
  | [], _, h => by cases h; exact .nil
  | d :: l, _, h => by
    cases h with
    | cons h1 h2 => exact .cons (Rp.dp d _ h1) (Rp.dpAll l _ h2)
end
mutual
theorem Rp.lay {K : PySem.W.Frag} {F : Hp} : ∀ (d : D) (v : V), Rp K F v d → PyData.canLay0 d.py = true
  | .non, _, _ => rfl
  | .bl _, _, _ => rfl
  | .int _, _, _ => rfl
  | .str _, _, h => by cases h with | str _ q => exact q.1
  | .lst l, _, h => by
    cases h with
    | lst hz hs hp => exact Rp.layAll l _ hp
  | .tup l, _, h => by
    cases h with
    | tup hz hs hp => exact Rp.layAll l _ hp
theorem Rp.layAll {K : PySem.W.Frag} {F : Hp} : ∀ (l : List D) (vs : List V), Paired (Rp K F) vs l → PyData.canLayAll0 (D.pyAll l) = true
  | [], _, _ => rfl
  | d :: l, _, h => by
    cases h with
    | cons h1 h2 =>
      show (PyData.canLay0 d.py && PyData.canLayAll0 (D.pyAll l)) = true
      rw [Rp.lay d _ h1, Rp.layAll l _ h2]
      rfl
end
namespace Pr
variable {α β : Type} {F : α → β → Prop}
theorem get : ∀ {l₁ : List α} {l₂ : List β} {i : Nat} {b : β}, Paired F l₁ l₂ → l₂[i]? = some b → ∃ a, l₁[i]? = some a ∧ F a b
  | _, _, _, _, .nil, e => by simp at e
  | _, _, 0, _, .cons r _, e => by simp at e; subst e; exact ⟨_, rfl, r⟩
  | _, _, i + 1, b, .cons _ t, e => by
    obtain ⟨u, h1, h2⟩ := get (i := i) (b := b) t (by simpa using e)
    exact ⟨u, by simpa using h1, h2⟩
theorem getL : ∀ {l₁ : List α} {l₂ : List β} {i : Nat} {a : α}, Paired F l₁ l₂ → l₁[i]? = some a → ∃ b, l₂[i]? = some b ∧ F a b
  | _, _, _, _, .nil, e => by simp at e
  | _, _, 0, _, .cons r _, e => by simp at e; subst e; exact ⟨_, rfl, r⟩
  | _, _, i + 1, b, .cons _ t, e => by
    obtain ⟨u, h1, h2⟩ := getL (i := i) (a := b) t (by simpa using e)
    exact ⟨u, by simpa using h1, h2⟩
theorem append : ∀ {xs ys : List α} {us ws : List β}, Paired F xs us → Paired F ys ws → Paired F (xs ++ ys) (us ++ ws)
  | _, _, _, _, .nil, s => s
  | _, _, _, _, .cons r t, s => .cons r (append t s)
theorem take : ∀ {xs : List α} {us : List β} (n : Nat), Paired F xs us → Paired F (xs.take n) (us.take n)
  | _, _, 0, _ => .nil
  | _, _, _ + 1, .nil => .nil
  | _, _, n + 1, .cons r t => .cons r (take n t)
theorem drop : ∀ {xs : List α} {us : List β} (n : Nat), Paired F xs us → Paired F (xs.drop n) (us.drop n)
  | _, _, 0, r => r
  | _, _, _ + 1, .nil => .nil
  | _, _, n + 1, .cons _ t => drop n t
theorem set {x : α} {u : β} (r : F x u) : ∀ {xs : List α} {us : List β} (i : Nat), Paired F xs us → Paired F (xs.set i x) (us.set i u)
  | _, _, _, .nil => .nil
  | _, _, 0, .cons _ t => .cons r t
  | _, _, i + 1, .cons q t => .cons q (set r i t)
end Pr
/-- the text: what the top has written, the tables of code objects -/
structure Tx where
  K : PySem.W.Frag
  mg : Str → Option Value
  T : List NTab
def WO.isAt (X : Tx) (F H : Hp) (m : Addr) : WO → Prop
  | .lst l => l.length ≤ sizeLine ∧ ∃ vs, H m = some (.lst vs) ∧ Paired (Rp X.K F) vs l
structure WRel (X : Tx) (F H : Hp) (M : List Addr) (w : World) : Prop where
  nd : M.Nodup
  at_ : Paired (fun m o => F m = none ∧ WO.isAt X F H m o) M w
def NoTbl (F : Hp) : Prop := ∀ a ps, F a ≠ some (.tbl ps)
/-- what happens between two moments: frozen things stay, all stays but the world's objects and the code tables; frozen new things were not there; the world grows by new objects -/
structure Stp (H F : Hp) (M : List Addr) (H' F' : Hp) (M' : List Addr) : Prop where
  fg : Same F F'
  fr : ∀ a o, a ∉ M → (∀ ps, o ≠ .tbl ps) → H a = some o → H' a = some o
  th : ∀ a, H a ≠ none → H' a ≠ none
  nf : ∀ a, H a ≠ none → F a = none → F' a = none
  mw : ∃ nw, M' = M ++ nw ∧ ∀ m ∈ nw, H m = none
theorem Stp.refl {H F : Hp} {M : List Addr} : Stp H F M H F M := ⟨Same.refl _, fun _ _ _ _ h => h, fun _ h => h, fun _ _ h => h, [], by simp, by simp⟩
theorem Stp.trans {H F H1 F1 H2 F2 : Hp} {M M1 M2 : List Addr} (a : Stp H F M H1 F1 M1) (b : Stp H1 F1 M1 H2 F2 M2) : Stp H F M H2 F2 M2 where
  fg := a.fg.trans b.fg
  fr := fun c o hM ht h => by
    obtain ⟨nw, e, hn⟩ := a.mw
    refine b.fr c o ?_ ht (a.fr c o hM ht h)
    rw [e, List.mem_append]
    rintro (z | z)
    · exact hM z
    · rw [hn c z] at h; cases h
  th := fun c h => b.th c (a.th c h)
  nf := fun c h hF => b.nf c (a.th c h) (a.nf c h hF)
  mw := by
    obtain ⟨n1, e1, h1⟩ := a.mw
    obtain ⟨n2, e2, h2⟩ := b.mw
    refine ⟨n1 ++ n2, by rw [e2, e1, List.append_assoc], fun m hm => ?_⟩
    rcases List.mem_append.mp hm with z | z
    · exact h1 m z
    · cases q : H m with
      | none => rfl
      | some o => exact absurd (h2 m z) (a.th m (by rw [q]; simp))
/-- the moment at a def's entry -/
structure Base where
  H : Hp
  F : Hp
  M : List Addr
def Sl.isAt (X : Tx) (B : Base) (H F : Hp) (M : List Addr) (O : Nat → Addr) (i : Nat) (x : Option (Option V)) : Sl → Prop
  | .un => True
  | .dat d => ∃ v, x = some (some v) ∧ Rp X.K F v d
  | .own l => x = some (some (.ref (O i))) ∧ B.H (O i) = none ∧ F (O i) = none ∧ O i ∉ M ∧ l.length ≤ sizeLine ∧ ∃ vs, H (O i) = some (.lst vs) ∧ Paired (Rp X.K F) vs l
  | .wref k => ∃ m, M[k]? = some m ∧ x = some (some (.ref m))
/-- the state -/
structure SR (X : Tx) (B : Base) (env : Ev) (w : World) (σ : St) (H F : Hp) (O : Nat → Addr) (M : List Addr) : Prop where
  len : σ.length = env.length
  fh : Same F H
  nt : NoTbl F
  st : Stp B.H B.F B.M H F M
  wr : WRel X F H M w
  tb : TabsN X.T H
  sl : ∀ (i : Nat) (s : Sl), env[i]? = some s → s.isAt X B H F M O i σ[i]?
  inj : ∀ (i j : Nat) (li lj : List D), env[i]? = some (.own li) → env[j]? = some (.own lj) → O i = O j → i = j
/-- the value of an expression: Hs, the heap ahead of it -/
def RV.isAt (X : Tx) (Hs : Hp) (env : Ev) (O : Nat → Addr) (H F : Hp) (M : List Addr) (v : V) : RV → Prop
  | .dat d => Rp X.K F v d
  | .fresh l => l.length ≤ sizeLine ∧ ∃ p vs, v = .ref p ∧ Hs p = none ∧ F p = none ∧ p ∉ M ∧ H p = some (.lst vs) ∧ Paired (Rp X.K F) vs l
  | .bor i l => env[i]? = some (.own l) ∧ v = .ref (O i)
  | .wref k => ∃ m, M[k]? = some m ∧ v = .ref m
theorem mem_of_pfx {M M' nw : List Addr} {k : Nat} {m : Addr} (e : M' = M ++ nw) (h : M[k]? = some m) : M'[k]? = some m := by
  rw [e, List.getElem?_append_left]
  · exact h
  · exact (List.getElem?_eq_some_iff.mp h).1
section
variable {X : Tx} {B : Base} {env : Ev} {w w' : World} {σ : St} {H F H' F' Hs : Hp} {O : Nat → Addr} {M M' : List Addr} {v : V} {r : RV}
theorem notM' (st : Stp H F M H' F' M') {p : Addr} (hM : p ∉ M) (hH : H p ≠ none) : p ∉ M' := by
  obtain ⟨nw, e, hn⟩ := st.mw
  rw [e, List.mem_append]
  rintro (z | z)
  · exact hM z
  · exact hH (hn p z)
/-- the state, behind a step that leaves the slots -/
theorem SR.step (s : SR X B env w σ H F O M) (st : Stp H F M H' F' M') (sm : Same F' H') (nt : NoTbl F') (wr : WRel X F' H' M' w') (tb : TabsN X.T H') : SR X B env w' σ H' F' O M' := by
  refine ⟨s.len, sm, nt, s.st.trans st, wr, tb, fun i sl e => ?_, s.inj⟩
  have h := s.sl i sl e
  obtain ⟨nw, em, _⟩ := id st.mw
  cases sl with
  | un => trivial
  | dat d => obtain ⟨v, e1, e2⟩ := h; exact ⟨v, e1, e2.mono st.fg⟩
  | own l =>
    obtain ⟨e1, e2, e3, e4, ez, vs, e5, e6⟩ := h
    have hn : H (O i) ≠ none := by rw [e5]; simp
    exact ⟨e1, e2, st.nf _ hn e3, notM' st e4 hn, ez, vs, st.fr _ _ e4 (fun _ z => by cases z) e5, Rp.monoAll st.fg _ _ e6⟩
  | wref k => obtain ⟨m, e1, e2⟩ := h; exact ⟨m, mem_of_pfx em e1, e2⟩
theorem RV.step (h : r.isAt X Hs env O H F M v) (st : Stp H F M H' F' M') : r.isAt X Hs env O H' F' M' v := by
  obtain ⟨nw, em, _⟩ := id st.mw
  cases r with
  | dat d => exact Rp.mono st.fg _ _ h
  | fresh l =>
    obtain ⟨ez, p, vs, e1, e2, e3, e4, e5, e6⟩ := h
    have hn : H p ≠ none := by rw [e5]; simp
    exact ⟨ez, p, vs, e1, e2, st.nf _ hn e3, notM' st e4 hn, st.fr _ _ e4 (fun _ z => by cases z) e5, Rp.monoAll st.fg _ _ e6⟩
  | bor i l => exact h
  | wref k => obtain ⟨m, e1, e2⟩ := h; exact ⟨m, mem_of_pfx em e1, e2⟩
/-- from a later start to an earlier one -/
theorem RV.since {H0 : Hp} (h : r.isAt X Hs env O H F M v) (e : ∀ a, H0 a ≠ none → Hs a ≠ none) : r.isAt X H0 env O H F M v := by
  cases r with
  | fresh l =>
    obtain ⟨ez, p, vs, e1, e2, e3⟩ := h
    refine ⟨ez, p, vs, e1, ?_, e3⟩
    cases q : H0 p with
    | none => rfl
    | some o => exact absurd e2 (e p (by rw [q]; simp))
  | dat d => exact h
  | bor i l => exact h
  | wref k => exact h
end
/-! ### pure extensions: what an operation does that makes new things alone -/
structure Xt (H F H' F' : Hp) : Prop where
  hh : Same H H'
  ff : Same F F'
  fh : Same F' H'
  nf : ∀ a, H a ≠ none → F a = none → F' a = none
  nt : NoTbl F'
section
variable {X : Tx} {H F H' F' : Hp} {M : List Addr} {w : World} {p : Addr}
theorem Xt.refl (h : Same F H) (nt : NoTbl F) : Xt H F H F := ⟨Same.refl _, Same.refl _, h, fun _ _ e => e, nt⟩
theorem Xt.trans {H2 F2 : Hp} (a : Xt H F H' F') (b : Xt H' F' H2 F2) : Xt H F H2 F2 :=
  ⟨a.hh.trans b.hh, a.ff.trans b.ff, b.fh, fun c h e => b.nf c (fun z => h (a.hh.free z)) (a.nf c h e), b.nt⟩
theorem Xt.stp (x : Xt H F H' F') : Stp H F M H' F' M :=
  ⟨x.ff, fun a o _ _ h => x.hh a o h, fun a h z => h (x.hh.free z), x.nf, [], by simp, by simp⟩
theorem same_upd {o : HO} (h : H p = none) : Same H (upd H p o) := fun b u q => by rw [upd_ne (ne_of_none q h)]; exact q
/-- a new list -/
theorem Xt.newL {vs : List V} (h : Same F H) (nt : NoTbl F) (hp : H p = none) : Xt H F (upd H p (.lst vs)) F :=
  ⟨same_upd hp, Same.refl _, h.trans (same_upd hp), fun _ _ e => e, nt⟩
/-- a new frozen thing -/
theorem Xt.newF {o : HO} (h : Same F H) (nt : NoTbl F) (hp : H p = none) (ho : ∀ ps, o ≠ .tbl ps) : Xt H F (upd H p o) (upd F p o) := by
  have hF : F p = none := h.free hp
  refine ⟨same_upd hp, same_upd hF, fun b u q => ?_, fun a hn e => ?_, fun a ps q => ?_⟩
  · by_cases e : b = p
    · subst e; rw [upd_same] at q ⊢; exact q
    · rw [upd_ne e] at q ⊢; exact h _ _ q
  · by_cases z : a = p
    · subst z; exact absurd hp hn
    · rw [upd_ne z]; exact e
  · by_cases z : a = p
    · subst z; rw [upd_same] at q; exact ho ps (Option.some.inj q)
    · rw [upd_ne z] at q; exact nt a ps q
theorem WRel.keep (wr : WRel X F H M w) (x : Xt H F H' F') : WRel X F' H' M w := by
  refine ⟨wr.nd, Paired.mapP wr.at_ fun m o h => ?_⟩
  obtain ⟨h1, h2⟩ := h
  cases o with
  | lst l =>
    obtain ⟨ez, vs, e1, e2⟩ := h2
    exact ⟨x.nf m (by rw [e1]; simp) h1, ez, vs, x.hh _ _ e1, Rp.monoAll x.ff _ _ e2⟩
theorem SR.xt {B : Base} {env : Ev} {σ : St} {O : Nat → Addr} (s : SR X B env w σ H F O M) (x : Xt H F H' F') : SR X B env w σ H' F' O M :=
  s.step x.stp x.fh x.nt (s.wr.keep x) (s.tb.ext x.hh)
/-- a fresh list is frozen -/
theorem SR.freeze {B : Base} {env : Ev} {σ : St} {O : Nat → Addr} {vs : List V} (s : SR X B env w σ H F O M) (hB : B.H p = none) (hM : p ∉ M) (hO : ∀ i l, env[i]? = some (.own l) → O i ≠ p) (hp : H p = some (.lst vs)) (hF : F p = none) : SR X B env w σ H (upd F p (.lst vs)) O M := by
  have fg : Same F (upd F p (.lst vs)) := same_upd hF
  refine ⟨s.len, fun b u q => ?_, fun a ps q => ?_, ⟨s.st.fg.trans fg, s.st.fr, s.st.th, fun a hn e => ?_, s.st.mw⟩, ⟨s.wr.nd, ?_⟩, s.tb, fun i sl e => ?_, s.inj⟩
  · by_cases e : b = p
    · subst e; rw [upd_same] at q; rw [hp]; exact q
    · rw [upd_ne e] at q; exact s.fh _ _ q
  · by_cases z : a = p
    · subst z; rw [upd_same] at q; cases q
    · rw [upd_ne z] at q; exact s.nt a ps q
  · by_cases z : a = p
    · subst z; exact absurd hB hn
    · rw [upd_ne z]; exact s.st.nf a hn e
  · have go : ∀ {M : List Addr} {w : World}, p ∉ M → Paired (fun m o => F m = none ∧ WO.isAt X F H m o) M w → Paired (fun m o => upd F p (.lst vs) m = none ∧ WO.isAt X (upd F p (.lst vs)) H m o) M w := by
      intro M w hM h
      induction h with
      | nil => exact .nil
      | @cons m o _ _ h1 _ ih =>
        refine .cons ⟨?_, ?_⟩ (ih fun z => hM (List.mem_cons_of_mem _ z))
        · rw [upd_ne (fun z => hM (by rw [← z]; exact List.mem_cons_self))]; exact h1.1
        · cases o with
          | lst l => obtain ⟨_, ez, ws, e1, e2⟩ := h1; exact ⟨ez, ws, e1, Rp.monoAll fg _ _ e2⟩
    exact go hM s.wr.at_
  · have h := s.sl i sl e
    cases sl with
    | un => trivial
    | dat d => obtain ⟨v, e1, e2⟩ := h; exact ⟨v, e1, e2.mono fg⟩
    | own l =>
      obtain ⟨e1, e2, e3, e4, ez, ws, e5, e6⟩ := h
      exact ⟨e1, e2, by rw [upd_ne (hO i l e)]; exact e3, e4, ez, ws, e5, Rp.monoAll fg _ _ e6⟩
    | wref k => exact h
end
end Dl
/-! DlB: the judgement of expressions; names, constants, operators, tests, displays, calls of built-ins. -/
namespace Dl
open PySem PySem.Spec PyProof.Rows L2 NdefX
/-! ### what is wanted behind -/
def Exn.isAt (X : Tx) (F H : Hp) (cls : Value) (d : Option Addr) (x : Exn) : Prop :=
  ∃ C, X.mg x.cls = some (.ref C) ∧ cls = .ref C ∧ match x.fld with
    | none => d = none
    | some (f, dv) => ∃ dx v, d = some dx ∧ H dx = some (.xd [(f, v)]) ∧ Rp X.K F v dv
def Pst {α : Type} (o : Out α) (g : α → World → Prop) (b : Exn → Ev → World → Prop) : Prop := match o with
  | .ok a w => g a w
  | .exc x e w => b x e w
  | .stuck => False
theorem Pst.bind {α β : Type} {o : Out α} {f : α → World → Out β} {g : β → World → Prop} {b : Exn → Ev → World → Prop} (h : Pst (o.bind f) g b) : Pst o (fun a w => Pst (f a w) g b) b := by cases o <;> exact h
theorem Pst.mono {α : Type} {o : Out α} {g g' : α → World → Prop} {b b' : Exn → Ev → World → Prop} (h : Pst o g b) (hg : ∀ a w, g a w → g' a w) (hb : ∀ x e w, b x e w → b' x e w) : Pst o g' b' := by
  cases o with
  | ok a w => exact hg a w h
  | exc x e w => exact hb x e w h
  | stuck => exact h
theorem Pst.imp {α : Type} {o : Out α} {g g' : α → World → Prop} {b : Exn → Ev → World → Prop} (h : Pst o g b) (hg : ∀ a w, g a w → g' a w) : Pst o g' b := h.mono hg fun _ _ _ z => z
def badX (X : Tx) (B : Base) (Wi : WX) : Exn → Ev → World → Prop := fun x env w => ∀ cls d σ H F O M, SR X B env w σ H F O M → x.isAt X F H cls d → Wi cls d σ H
/-- the reading of an expression whose denotation is e -/
def tD (X : Tx) (Wi : WX) (e : Ex) : TE := fun σ H Q => ∃ B env w F O M, SR X B env w σ H F O M ∧
  Pst (e env w) (fun r w' => ∀ v H' F' M', SR X B env w' σ H' F' O M' → Stp H F M H' F' M' → r.isAt X H env O H' F' M' v → Q v H') (badX X B Wi)
/-- of a test -/
def tT (X : Tx) (Wi : WX) (e : Ev → World → Out Bool) : TT := fun σ H Q => ∃ B env w F O M, SR X B env w σ H F O M ∧
  Pst (e env w) (fun b w' => ∀ H' F' M', SR X B env w' σ H' F' O M' → Stp H F M H' F' M' → Q b H') (badX X B Wi)
/-- of arguments, read as they are -/
def tR (X : Tx) (Wi : WX) (e : Ev → World → Out (List RV)) : TA := fun σ H Q => ∃ B env w F O M, SR X B env w σ H F O M ∧
  Pst (e env w) (fun rs w' => ∀ vs H' F' M', SR X B env w' σ H' F' O M' → Stp H F M H' F' M' → Paired (fun v r => RV.isAt X H env O H' F' M' v r) vs rs → Q vs H') (badX X B Wi)
theorem _root_.L2.PE.impD {X : Cx} {e : Expr} {t t' : TE} (h : PE X e t) (k : ∀ σ H Q, t' σ H Q → t σ H Q) : PE X e t' := ⟨fun pins s σ H Q I q => h.run pins s σ H Q I (k σ H Q q)⟩
theorem _root_.L2.PT.impD {X : Cx} {e : Expr} {t t' : TT} (h : PT X e t) (k : ∀ σ H Q, t' σ H Q → t σ H Q) : PT X e t' := ⟨fun pins s σ H Q I q => h.run pins s σ H Q I (k σ H Q q)⟩
theorem _root_.L2.PW.impD {X : Cx} {e : Expr} {t t' : TT} (h : PW X e t) (k : ∀ σ H Q, t' σ H Q → t σ H Q) : PW X e t' := ⟨fun wh pins s σ H Q I q => h.run wh pins s σ H Q I (k σ H Q q)⟩
theorem _root_.L2.PA.impD {X : Cx} {e : List Expr} {t t' : TA} (h : PA X e t) (k : ∀ σ H Q, t' σ H Q → t σ H Q) : PA X e t' := ⟨fun pos pins s σ H Q I q => h.run pos pins s σ H Q I (k σ H Q q)⟩
theorem _root_.L2.PS.impD {X : Cx} {e : Stmt} {t t' : TS} (h : PS X e t) (k : ∀ D σ H, t' D σ H → t D σ H) : PS X e t' := ⟨fun pins s σ H D I q => h.run pins s σ H D I (k D σ H q)⟩
theorem _root_.L2.PSs.impD {X : Cx} {e : List Stmt} {t t' : TS} (h : PSs X e t) (k : ∀ D σ H, t' D σ H → t D σ H) : PSs X e t' := ⟨fun pins s σ H D I q => h.run pins s σ H D I (k D σ H q)⟩
abbrev Cx.tx (X : Cx) (T : List NTab) : Tx := ⟨X.K, X.mg, T⟩
/-- e denotes d -/
abbrev JE (X : Cx) (T : List NTab) (Wi : WX) (e : Expr) (d : Ex) : Prop := PE X e (tD (Cx.tx X T) Wi d)
abbrev JT (X : Cx) (T : List NTab) (Wi : WX) (e : Expr) (d : Ev → World → Out Bool) : Prop := PT X e (tT (Cx.tx X T) Wi d)
abbrev JW (X : Cx) (T : List NTab) (Wi : WX) (e : Expr) (d : Ev → World → Out Bool) : Prop := PW X e (tT (Cx.tx X T) Wi d)
abbrev JR (X : Cx) (T : List NTab) (Wi : WX) (es : List Expr) (d : Ev → World → Out (List RV)) : Prop := PA X es (tR (Cx.tx X T) Wi d)
/-- values read as they lie now -/
def RV.val : RV → Option D
  | .dat d => some d
  | .fresh l => some (.lst l)
  | .bor _ l => some (.lst l)
  | .wref _ => none
def Rv (K : PySem.W.Frag) (F H : Hp) (v : V) : D → Prop
  | .lst l => l.length ≤ sizeLine ∧ ∃ p vs, v = .ref p ∧ SqL K H p vs ∧ Paired (Rp K F) vs l
  | d => Rp K F v d
section
variable {X : Tx} {B : Base} {env : Ev} {w w' : World} {σ : St} {H F H' F' Hs : Hp} {O : Nat → Addr} {M M' : List Addr} {v : V} {r : RV} {K : PySem.W.Frag} {d : D}
theorem Rp.rv (h : Rp K F v d) (fh : Same F H) : Rv K F H v d := by
  cases d with
  | lst l => cases h with | lst hz hs hp => exact ⟨hz, _, _, rfl, fh.seq hs, hp⟩
  | _ => exact h
theorem Rv.rp (h : Rv K F H v d) (fh : Same F H) : Rp K H v d := by
  cases d with
  | lst l => obtain ⟨hz, p, vs, rfl, hs, hp⟩ := h; exact .lst hz hs (Rp.monoAll fh _ _ hp)
  | _ => exact Rp.mono fh _ _ h
theorem RV.rv (s : SR X B env w σ H F O M) (h : r.isAt X Hs env O H F M v) (e : r.val = some d) : Rv X.K F H v d := by
  cases r with
  | dat d' => cases e; exact Rp.rv h s.fh
  | fresh l => cases e; obtain ⟨ez, p, vs, e1, _, _, _, e5, e6⟩ := h; exact ⟨ez, p, vs, e1, SqL.of e5, e6⟩
  | bor i l =>
    cases e
    obtain ⟨e1, e2⟩ := h
    obtain ⟨_, _, _, _, ez, vs, e5, e6⟩ := s.sl i _ e1
    exact ⟨ez, _, vs, e2, SqL.of e5, e6⟩
  | wref k => cases e
theorem WRel.there (wr : WRel X F H M w) {m : Addr} (hm : m ∈ M) : H m ≠ none := by
  have go : ∀ {M : List Addr} {w : World}, Paired (fun m o => F m = none ∧ WO.isAt X F H m o) M w → m ∈ M → H m ≠ none := by
    intro M w h hm
    induction h with
    | nil => cases hm
    | @cons a o _ _ h1 _ ih =>
      rcases List.mem_cons.mp hm with rfl | hm
      · cases o with
        | lst l => obtain ⟨_, _, vs, e1, _⟩ := h1; rw [e1]; simp
      · exact ih hm
  exact go wr.at_ hm
/-- a result that an operation has made -/
def RV.newAt (K : PySem.W.Frag) (H H' F' : Hp) (v : V) : RV → Prop
  | .dat d => Rp K F' v d
  | .fresh l => l.length ≤ sizeLine ∧ ∃ p vs, v = .ref p ∧ H p = none ∧ F' p = none ∧ H' p = some (.lst vs) ∧ Paired (Rp K F') vs l
  | _ => False
theorem RV.of_new (h : r.newAt X.K H H' F' v) (s : SR X B env w σ H F O M) (e0 : ∀ a, Hs a ≠ none → H a ≠ none) : r.isAt X Hs env O H' F' M v := by
  cases r with
  | dat d => exact h
  | fresh l =>
    obtain ⟨ez, p, vs, e1, e2, e3, e4, e5⟩ := h
    refine ⟨ez, p, vs, e1, ?_, e3, fun hm => s.wr.there hm e2, e4, e5⟩
    cases q : Hs p with
    | none => rfl
    | some o => exact absurd e2 (e0 p (by rw [q]; simp))
  | bor i l => exact h.elim
  | wref k => exact h.elim
end
def lift (o : Option RV) (w : World) : Out RV := match o with
  | some r => .ok r w
  | none => .stuck
@[simp] theorem lift_some (r : RV) (w : World) : lift (some r) w = .ok r w := rfl
theorem Pst.lift {o : Option RV} {w : World} {g : RV → World → Prop} {b : Exn → Ev → World → Prop} (h : Pst (Dl.lift o w) g b) : ∃ r, o = some r ∧ g r w := by
  cases o with
  | none => exact h.elim
  | some r => exact ⟨r, rfl, h⟩
/-! ### names and constants -/
def dName (i : Nat) : Ex := fun env w => match env[i]? with
  | some (.dat d) => .ok (.dat d) w
  | some (.own l) => .ok (.bor i l) w
  | some (.wref k) => .ok (.wref k) w
  | _ => .stuck
def dC (d : D) : Ex := fun _ w => .ok (.dat d) w
section
variable {X : Cx} {T : List NTab} {Wi : WX} {pos : Pos}
theorem je_name {i : Nat} {x : Str} (h : PE X (.Name x pos) (tVar i)) : JE X T Wi (.Name x pos) (dName i) := by
  refine h.impD fun σ H Q q => ?_
  obtain ⟨B, env, w, F, O, M, s, q⟩ := q
  unfold dName at q
  cases e : env[i]? with
  | none => rw [e] at q; exact q.elim
  | some sl =>
    rw [e] at q
    have a := s.sl i sl e
    cases sl with
    | un => exact q.elim
    | dat d => obtain ⟨v, e1, e2⟩ := a; exact ⟨v, e1, q v H F M s .refl e2⟩
    | own l => obtain ⟨e1, e2⟩ := a; exact ⟨_, e1, q _ H F M s .refl ⟨e, rfl⟩⟩
    | wref k => obtain ⟨m, e1, e2⟩ := a; exact ⟨_, e2, q _ H F M s .refl ⟨m, e1, rfl⟩⟩
theorem je_const {e : Expr} {v : V} {d : D} (h : PE X e (tC v)) (r : ∀ F, Rp X.K F v d) : JE X T Wi e (dC d) := by
  refine h.impD fun σ H Q q => ?_
  obtain ⟨B, env, w, F, O, M, s, q⟩ := q
  exact q v H F M s .refl (r F)
theorem je_int {i j} : JE X T Wi (.Constant (.int i) j pos) (dC (.int i)) := je_const pe_int fun _ => .int i
theorem je_bl {b j} : JE X T Wi (.Constant (.bool b) j pos) (dC (.bl b)) := je_const pe_bl fun _ => .bl b
theorem je_non {j} : JE X T Wi (.Constant .none j pos) (dC .non) := je_const pe_non fun _ => .non
theorem je_str {x j} (h : SOk x := by exact ⟨by decide +kernel, by decide +kernel⟩) : JE X T Wi (.Constant (.str x) j pos) (dC (.str x)) := je_const pe_str fun _ => .str x h
end
/-! ### operations on two values -/
def OpS (X : Cx) (f : Value → Value → Sem Value) (g : D → D → Option RV) : Prop :=
  ∃ r : R2, OpR X f r ∧ ∀ x y d e rv H F, Same F H → NoTbl F → Rv X.K F H x d → Rv X.K F H y e → g d e = some rv → ∀ Q : VK, (∀ v H' F', Xt H F H' F' → rv.newAt X.K H H' F' v → Q v H') → r x y H Q
def vals2 (g : D → D → Option RV) (a b : RV) : Option RV := match a.val, b.val with
  | some x, some y => g x y
  | _, _ => none
def dBin (g : D → D → Option RV) (a b : Ex) : Ex := fun env w => (a env w).bind fun ra w1 => (b env w1).bind fun rb w2 => lift (vals2 g ra rb) w2
theorem vals2_some {g : D → D → Option RV} {a b : RV} {r : RV} (h : vals2 g a b = some r) : ∃ x y, a.val = some x ∧ b.val = some y ∧ g x y = some r := by
  unfold vals2 at h
  cases ea : a.val with
  | none => rw [ea] at h; cases h
  | some x =>
    cases eb : b.val with
    | none => rw [ea, eb] at h; cases h
    | some y => rw [ea, eb] at h; exact ⟨x, y, rfl, rfl, h⟩
section
variable {X : Cx} {T : List NTab} {Wi : WX} {pos : Pos} {a b : Expr} {da db : Ex}
theorem op_read {f : Value → Value → Sem Value} {g : D → D → Option RV} {r : R2} (hr : ∀ x y d e rv H F, Same F H → NoTbl F → Rv X.K F H x d → Rv X.K F H y e → g d e = some rv → ∀ Q : VK, (∀ v H' F', Xt H F H' F' → rv.newAt X.K H H' F' v → Q v H') → r x y H Q)
    {σ : St} {H : Hp} {Q : VK} (q : tD (Cx.tx X T) Wi (dBin g da db) σ H Q) : tOp r (tD (Cx.tx X T) Wi da) (tD (Cx.tx X T) Wi db) σ H Q := by
  obtain ⟨B, env, w, F, O, M, s, q⟩ := q
  refine ⟨B, env, w, F, O, M, s, q.bind.imp fun ra w1 q1 x H1 F1 M1 s1 st1 r1 => ?_⟩
  refine ⟨B, env, w1, F1, O, M1, s1, q1.bind.imp fun rb w2 q2 y H2 F2 M2 s2 st2 r2 => ?_⟩
  obtain ⟨rv, e, q3⟩ := q2.lift
  obtain ⟨d, e', ea, eb, eg⟩ := vals2_some e
  refine hr x y d e' rv H2 F2 s2.fh s2.nt (RV.rv s2 (RV.step r1 st2) ea) (RV.rv s2 r2 eb) eg Q fun v H' F' xt nw => ?_
  exact q3 v H' F' M2 (s2.xt xt) ((st1.trans st2).trans xt.stp) (RV.of_new nw s2 (st1.trans st2).th)
theorem je_bin {op : Operator} {g : D → D → Option RV} (h : OpS X (binaryOp op) g) (ha : JE X T Wi a da) (hb : JE X T Wi b db) : JE X T Wi (.BinOp a op b pos) (dBin g da db) := by
  obtain ⟨r, ho, hr⟩ := h
  exact (pe_op ho ha hb).impD fun σ H Q q => op_read (f := binaryOp op) hr q
theorem je_cmp {op : CmpOp} {g : D → D → Option RV} (h : OpS X (compareOp op) g) (ha : JE X T Wi a da) (hb : JE X T Wi b db) (hm : behindInMarks op b = false := by first | exact nomark _ | rfl) : JE X T Wi (.Compare a [op] [b] pos) (dBin g da db) := by
  obtain ⟨r, ho, hr⟩ := h
  exact (pe_cmpR ho ha hb hm).impD fun σ H Q q => op_read (f := compareOp op) hr q
end
/-- a new result by hand: a value alone -/
theorem new_val {K : PySem.W.Frag} {F H : Hp} {v : V} {d : D} {Q : VK} (fh : Same F H) (nt : NoTbl F) (q : ∀ v H' F', Xt H F H' F' → (RV.dat d).newAt K H H' F' v → Q v H') (h : Rp K F v d) : Q v H := q v H F (Xt.refl fh nt) h
theorem new_lst {K : PySem.W.Frag} {F H : Hp} {l : List D} {vs : List V} {p : Addr} {Q : VK} (fh : Same F H) (nt : NoTbl F) (q : ∀ v H' F', Xt H F H' F' → (RV.fresh l).newAt K H H' F' v → Q v H') (hp : H p = none) (hz : l.length ≤ sizeLine) (h : Paired (Rp K F) vs l) : Q (.ref p) (upd H p (.lst vs)) :=
  q _ _ F (Xt.newL fh nt hp) ⟨hz, p, vs, rfl, hp, fh.free hp, upd_same, h⟩
theorem new_tup {K : PySem.W.Frag} {F H : Hp} {l : List D} {vs : List V} {p : Addr} {Q : VK} (fh : Same F H) (nt : NoTbl F) (q : ∀ v H' F', Xt H F H' F' → (RV.dat (.tup l)).newAt K H H' F' v → Q v H') (hp : H p = none) (hz : l.length ≤ sizeLine) (h : Paired (Rp K F) vs l) : Q (.ref p) (upd H p (.tup vs)) := by
  have x : Xt H F (upd H p (.tup vs)) (upd F p (.tup vs)) := Xt.newF fh nt hp (fun _ z => by cases z)
  exact q _ _ _ x (Rp.tup hz (SqT.of upd_same) (Rp.monoAll x.ff _ _ h))
/-! ### the operators -/
def mulOk (i j : Int) : Bool := (decide (i.natAbs < 2 ^ 64) || decide (j.natAbs < 2 ^ 64)) || decide (i.natAbs.log2 + j.natAbs.log2 < 900000)
def gAdd : D → D → Option RV
  | .int i, .int j => some (.dat (.int (i + j)))
  | .str s, .str t => if s.length + t.length ≤ sizeLine then some (.dat (.str (s ++ t))) else none
  | .tup k, .tup l => if k.length + l.length ≤ sizeLine then some (.dat (.tup (k ++ l))) else none
  | .lst k, .lst l => if k.length + l.length ≤ sizeLine then some (.fresh (k ++ l)) else none
  | _, _ => none
def gSub : D → D → Option RV
  | .int i, .int j => some (.dat (.int (i - j)))
  | _, _ => none
def gMul : D → D → Option RV
  | .int i, .int j => if mulOk i j then some (.dat (.int (i * j))) else none
  | _, _ => none
def gFdiv : D → D → Option RV
  | .int i, .int j => if 0 < j ∧ (j < 1073741824 ∨ j.natAbs.log2 < 8990) then some (.dat (.int (i / j))) else none
  | _, _ => none
def gMod : D → D → Option RV
  | .int i, .int j => if 0 < j then some (.dat (.int (i % j))) else none
  | _, _ => none
def gPow : D → D → Option RV
  | .int i, .int j => if 0 ≤ j ∧ j ≤ 1000000 ∧ i.natAbs < 2 ^ 64 then some (.dat (.int (i ^ j.toNat))) else none
  | _, _ => none
theorem str_len_app (s t : Str) : (s ++ t).length = s.length + t.length := by
  show (s.cps ++ t.cps).size = _
  rw [Array.size_append]
  rfl
theorem sOk_app {s t : Str} (h1 : SOk s) (h2 : SOk t) (hz : s.length + t.length ≤ sizeLine) : SOk (s ++ t) := by
  refine ⟨?_, by rw [str_len_app]; exact hz⟩
  obtain ⟨h1, _⟩ := h1
  obtain ⟨h2, _⟩ := h2
  unfold PyData.strOk at *
  show (Array.all (s.cps ++ t.cps) fun c => decide (c < 0x110000)) = true
  rw [Array.all_append, h1, h2]
  rfl
section
variable {X : Cx}
theorem os_sub : OpS X (binaryOp .Sub) gSub := by
  refine ⟨_, op_sub, fun x y d e rv H F fh nt rx ry h Q q => ?_⟩
  cases d <;> cases e <;> first | (simp only [gSub] at h; cases h; done) | skip
  simp only [gSub, Option.some.injEq] at h; subst h
  cases rx; cases ry
  exact ⟨_, _, rfl, rfl, new_val fh nt q (.int _)⟩
theorem os_mod : OpS X (binaryOp .Mod) gMod := by
  refine ⟨_, op_mod, fun x y d e rv H F fh nt rx ry h Q q => ?_⟩
  cases d <;> cases e <;> first | (simp only [gMod] at h; cases h; done) | skip
  simp only [gMod] at h
  split at h
  · rename_i hc
    simp only [Option.some.injEq] at h; subst h
    cases rx; cases ry
    exact ⟨_, _, rfl, rfl, hc, new_val fh nt q (.int _)⟩
  · cases h
theorem os_pow : OpS X (binaryOp .Pow) gPow := by
  refine ⟨_, op_pow, fun x y d e rv H F fh nt rx ry h Q q => ?_⟩
  cases d <;> cases e <;> first | (simp only [gPow] at h; cases h; done) | skip
  simp only [gPow] at h
  split at h
  · rename_i hc
    simp only [Option.some.injEq] at h; subst h
    cases rx; cases ry
    exact ⟨_, _, rfl, rfl, hc, new_val fh nt q (.int _)⟩
  · cases h
theorem os_fdiv : OpS X (binaryOp .FloorDiv) gFdiv := by
  refine ⟨_, op_fdiv.or op_fdivW, fun x y d e rv H F fh nt rx ry h Q q => ?_⟩
  cases d <;> cases e <;> first | (simp only [gFdiv] at h; cases h; done) | skip
  simp only [gFdiv] at h
  split at h
  · rename_i hc
    simp only [Option.some.injEq] at h; subst h
    cases rx; cases ry
    obtain ⟨h0, h1 | h1⟩ := hc
    · exact .inl ⟨_, _, rfl, rfl, ⟨h0, h1⟩, new_val fh nt q (.int _)⟩
    · exact .inr ⟨_, _, rfl, rfl, ⟨h0, by omega⟩, new_val fh nt q (.int _)⟩
  · cases h
theorem os_mul : OpS X (binaryOp .Mult) gMul := by
  refine ⟨_, op_mul.or op_mulW, fun x y d e rv H F fh nt rx ry h Q q => ?_⟩
  cases d <;> cases e <;> first | (simp only [gMul] at h; cases h; done) | skip
  simp only [gMul] at h
  split at h
  · rename_i hc
    simp only [Option.some.injEq] at h; subst h
    cases rx; cases ry
    unfold mulOk at hc
    simp only [Bool.or_eq_true, decide_eq_true_eq] at hc
    rcases hc with (hc | hc) | hc
    · exact .inl ⟨_, _, rfl, rfl, .inl (by omega), new_val fh nt q (.int _)⟩
    · exact .inl ⟨_, _, rfl, rfl, .inr (by omega), new_val fh nt q (.int _)⟩
    · exact .inr ⟨_, _, rfl, rfl, (by unfold CMulW; omega), new_val fh nt q (.int _)⟩
  · cases h
end
end Dl
/-! DlC: operators on data, comparisons, truth, tests, displays, places and slices, built-ins. -/
namespace Dl
open PySem PySem.Spec PyProof.Rows L2 NdefX
def D.dep (d : D) : Nat := d.py.depth
def D.eq (d e : D) : Bool := PyData.eqv d.py e.py
theorem pyAll_eq (l : List D) : D.pyAll l = l.map D.py := by
  induction l with
  | nil => rfl
  | cons d l ih => show d.py :: D.pyAll l = _; rw [ih]; rfl
theorem paired_nil {α β : Type} {F : α → β → Prop} {xs : List α} {ys : List β} (h : Paired F xs ys) : xs = [] ↔ ys = [] := by
  cases h <;> simp
section
variable {X : Cx} {pins : List (Addr × Obj)} {σ : St} {H : Hp} {s : Shared}
theorem op_catR : OpR X (binaryOp .Add) (fun x y H Q => ∃ l b xs zs, x = .ref l ∧ y = .ref b ∧ SqL X.K H l xs ∧ SqL X.K H b zs ∧ xs.length + zs.length ≤ sizeLine ∧ ∀ p, H p = none → Q (.ref p) (upd H p (.lst (xs ++ zs)))) := by
  intro pins s σ H x y v u Q I rx ry h
  obtain ⟨l, b, xs, zs, rfl, rfl, hH, hB, hz, q⟩ := h
  cases rx
  cases ry
  obtain ⟨its, r, ⟨⟨cls, dd, data, sl⟩, n, ho, hc, hdn, hd⟩, z⟩ := I.list hH
  obtain ⟨its2, r2, ⟨⟨cls2, dd2, data2, sl2⟩, n2, ho2, hc2, hdn2, hd2⟩, z2⟩ := I.list hB
  simp only at hc hd hc2 hd2
  subst hc hd hc2 hd2
  have hl := r.length
  have hl2 := r2.length
  refine concat_meets ⟨_, ho, rfl⟩ ⟨_, ho2, rfl⟩ noFill_list_add seq_list_add PySem.F.slot_list_add PySem.F.entry_list_add (PySem.F.args_list_add_2 _ _) (list_addW l b its.toArray its2.toArray n n2 dd dd2 sl sl2 (by rw [List.size_toArray, List.size_toArray]; omega)) ⟨ho, ho2, ?_⟩
  have ea : its.toArray ++ its2.toArray = (its ++ its2).toArray := by simp
  rw [ea]
  exact ⟨.ref _, _, I.lnew (t' := s.toks) (r.append r2) (by rw [List.length_append]; omega), rfl, q _ I.fresh⟩
theorem os_add : OpS X (binaryOp .Add) gAdd := by
  refine ⟨_, op_add.or (op_add_str.or (op_catA.or op_catR)), fun x y d e rv H F fh nt rx ry h Q q => ?_⟩
  cases d <;> cases e <;> first | (simp only [gAdd] at h; cases h; done) | skip
  · simp only [gAdd, Option.some.injEq] at h; subst h
    cases rx; cases ry
    exact .inl ⟨_, _, rfl, rfl, new_val fh nt q (.int _)⟩
  · simp only [gAdd] at h
    split at h
    · rename_i hc
      simp only [Option.some.injEq] at h; subst h
      cases rx with | str _ q1 => cases ry with | str _ q2 => exact .inr (.inl ⟨_, _, rfl, rfl, hc, new_val fh nt q (.str _ (sOk_app q1 q2 hc))⟩)
    · cases h
  · simp only [gAdd] at h
    split at h
    · rename_i hc
      simp only [Option.some.injEq] at h; subst h
      obtain ⟨_, a, xs, e1, s1, p1⟩ := rx
      obtain ⟨_, b, ys, e2, s2, p2⟩ := ry
      have l1 := p1.length
      have l2 := p2.length
      exact .inr (.inr (.inr ⟨a, b, xs, ys, e1, e2, s1, s2, by omega, fun p hp => new_lst fh nt q hp (by rw [List.length_append]; exact hc) (Pr.append p1 p2)⟩))
    · cases h
  · simp only [gAdd] at h
    split at h
    · rename_i hc
      simp only [Option.some.injEq] at h; subst h
      cases rx with
      | @tup a xs _ z1' s1 p1 =>
      cases ry with
      | @tup b ys _ z2' s2 p2 =>
        have l1 := p1.length
        have l2 := p2.length
        refine .inr (.inr (.inl ⟨a, b, xs, ys, rfl, rfl, sqT_mono fh s1, sqT_mono fh s2, by omega, fun z => ?_, fun z1 z => ?_, fun z1 z2 p hp => new_tup fh nt q hp (by rw [List.length_append]; exact hc) (Pr.append p1 p2)⟩))
        · have z' := (paired_nil p1).mp z
          subst z'
          exact new_val fh nt q (.tup z2' s2 p2)
        · have z' := (paired_nil p2).mp z
          subst z'
          refine new_val fh nt q ?_
          rw [List.append_nil]
          exact .tup z1' s1 p1
    · cases h
/-! ### comparisons -/
def gEq (rm : Nat) (d e : D) : Option RV := if min d.dep e.dep ≤ rm then some (.dat (.bl (d.eq e))) else none
def gNe (rm : Nat) (d e : D) : Option RV := if min d.dep e.dep ≤ rm then some (.dat (.bl (!d.eq e))) else none
theorem os_eq {rm : Nat} (hu : X.A.units + rm < cLine) : OpS X (compareOp .Eq) (gEq rm) := by
  refine ⟨fun x y H Q => ∃ d e : D, Rp X.K H x d ∧ Rp X.K H y e ∧ min d.dep e.dep ≤ rm ∧ Q (.bl (d.eq e)) H, ?_, fun x y d e rv H F fh nt rx ry h Q q => ?_⟩
  · intro pins s σ H x y v u Q I rx ry h
    obtain ⟨d, e, h1, h2, hm, q⟩ := h
    obtain ⟨as, r1⟩ := Dp.reads I d.py x v h1.dp rx
    obtain ⟨bs, r2⟩ := Dp.reads I e.py y u h2.dp ry
    refine SeqAt.compareEq_reads r1 r2 h1.lay h2.lay ?_ ⟨.bl _, H, I, rfl, q⟩
    have : min d.py.depth e.py.depth ≤ rm := hm
    omega
  · unfold gEq at h
    split at h
    · rename_i hc
      simp only [Option.some.injEq] at h; subst h
      exact ⟨d, e, rx.rp fh, ry.rp fh, hc, new_val fh nt q (.bl _)⟩
    · cases h
theorem os_ne {rm : Nat} (hu : X.A.units + rm < cLine) : OpS X (compareOp .NotEq) (gNe rm) := by
  refine ⟨fun x y H Q => ∃ d e : D, Rp X.K H x d ∧ Rp X.K H y e ∧ min d.dep e.dep ≤ rm ∧ Q (.bl (!d.eq e)) H, ?_, fun x y d e rv H F fh nt rx ry h Q q => ?_⟩
  · intro pins s σ H x y v u Q I rx ry h
    obtain ⟨d, e, h1, h2, hm, q⟩ := h
    obtain ⟨as, r1⟩ := Dp.reads I d.py x v h1.dp rx
    obtain ⟨bs, r2⟩ := Dp.reads I e.py y u h2.dp ry
    refine SeqAt.compareNe_reads r1 r2 h1.lay h2.lay ?_ ⟨.bl _, H, I, rfl, q⟩
    have : min d.py.depth e.py.depth ≤ rm := hm
    omega
  · unfold gNe at h
    split at h
    · rename_i hc
      simp only [Option.some.injEq] at h; subst h
      exact ⟨d, e, rx.rp fh, ry.rp fh, hc, new_val fh nt q (.bl _)⟩
    · cases h
/-- order: two ints at once; other data where the library's order tells it -/
def D.lt (d e : D) : Bool := PySem.W.dataLt d.py e.py
def ordOk (rm : Nat) (d e : D) : Bool := PySem.W.alike d.py e.py && (match d with | .non => false | _ => true) && decide (min d.dep e.dep ≤ rm)
def gOrd (fi : Int → Int → Bool) (fd : D → D → Bool) (rm : Nat) : D → D → Option RV
  | .int i, .int j => some (.dat (.bl (fi i j)))
  | d, e => if ordOk rm d e then some (.dat (.bl (fd d e))) else none
def gLt := gOrd (fun i j => decide (i < j)) fun d e => d.lt e
def gGt := gOrd (fun i j => decide (j < i)) fun d e => e.lt d
def gLe := gOrd (fun i j => decide (i ≤ j)) fun d e => !e.lt d
def gGe := gOrd (fun i j => decide (j ≤ i)) fun d e => !d.lt e
theorem os_ord {op : CmpOp} {fi : Int → Int → Bool} {fd : D → D → Bool} {rm : Nat} (hu : X.A.units + rm < cLine) (hi : OpR X (compareOp op) (rI0 fun i j => .bl (fi i j)))
    (hd : ∀ (s : Shared) (a b : Value) (d e : D) (as bs : List Addr) (Q E : Value → Shared → Prop), Reads s.heap a d.py as → Reads s.heap b e.py bs → PySem.W.alike d.py e.py = true → d.py ≠ .none → X.A.units + min d.py.depth e.py.depth < cLine → Q (.bool (fd d e)) s →
      wpAny (model X.prog X.w) X.A (compareOp op a b) Q E s) : OpS X (compareOp op) (gOrd fi fd rm) := by
  have h2 : OpR X (compareOp op) (fun x y H Q => ∃ d e : D, Rp X.K H x d ∧ Rp X.K H y e ∧ ordOk rm d e = true ∧ Q (.bl (fd d e)) H) := by
    intro pins s σ H x y v u Q I rx ry h
    obtain ⟨d, e, h1, h2, hm, q⟩ := h
    obtain ⟨as, r1⟩ := Dp.reads I d.py x v h1.dp rx
    obtain ⟨bs, r2⟩ := Dp.reads I e.py y u h2.dp ry
    unfold ordOk at hm
    simp only [Bool.and_eq_true, decide_eq_true_eq] at hm
    obtain ⟨⟨m1, m2⟩, m3⟩ := hm
    have m3' : min d.py.depth e.py.depth ≤ rm := m3
    refine hd s v u d e as bs _ _ r1 r2 m1 (fun z => ?_) (by omega) ⟨.bl _, H, I, rfl, q⟩
    cases d <;> first | (cases z; done) | (simp at m2)
  refine ⟨_, hi.or h2, fun x y d e rv H F fh nt rx ry h Q q => ?_⟩
  unfold gOrd at h
  split at h
  · simp only [Option.some.injEq] at h; subst h
    cases rx; cases ry
    exact .inl ⟨_, _, rfl, rfl, new_val fh nt q (.bl _)⟩
  · split at h
    · rename_i hc
      simp only [Option.some.injEq] at h; subst h
      exact .inr ⟨d, e, rx.rp fh, ry.rp fh, hc, new_val fh nt q (.bl _)⟩
    · cases h
theorem os_lt {rm : Nat} (hu : X.A.units + rm < cLine) : OpS X (compareOp .Lt) (gLt rm) := os_ord hu op_lt fun _ _ _ _ _ _ _ _ _ r1 r2 h1 h2 h3 q => PySem.W.lt_data r1 r2 h1 h2 h3 q
theorem os_gt {rm : Nat} (hu : X.A.units + rm < cLine) : OpS X (compareOp .Gt) (gGt rm) := os_ord hu op_gt fun _ _ _ _ _ _ _ _ _ r1 r2 h1 h2 h3 q => PySem.W.gt_data r1 r2 h1 h2 h3 q
theorem os_le {rm : Nat} (hu : X.A.units + rm < cLine) : OpS X (compareOp .LtE) (gLe rm) := os_ord hu op_le fun _ _ _ _ _ _ _ _ _ r1 r2 h1 h2 h3 q => PySem.W.le_data r1 r2 h1 h2 h3 q
theorem os_ge {rm : Nat} (hu : X.A.units + rm < cLine) : OpS X (compareOp .GtE) (gGe rm) := os_ord hu op_ge fun _ _ _ _ _ _ _ _ _ r1 r2 h1 h2 h3 q => PySem.W.ge_data r1 r2 h1 h2 h3 q
/-- is: None on the right; two bools -/
def D.isN : D → Bool
  | .non => true
  | _ => false
def gIs : D → D → Option RV
  | .bl a, .bl b => some (.dat (.bl (decide (a = b))))
  | d, .non => some (.dat (.bl d.isN))
  | _, _ => none
def gIsNot : D → D → Option RV
  | .bl a, .bl b => some (.dat (.bl (!decide (a = b))))
  | d, .non => some (.dat (.bl (!d.isN)))
  | _, _ => none
theorem rv_isN {F : Hp} {x : V} {d : D} (h : Rv X.K F H x d) : decide (x = .non) = d.isN := by
  cases d with
  | lst l => obtain ⟨_, p, vs, e, _⟩ := h; subst e; rfl
  | _ => cases h <;> rfl
theorem os_is : OpS X (compareOp .Is) gIs := by
  refine ⟨_, op_isN.or op_isBl, fun x y d e rv H F fh nt rx ry h Q q => ?_⟩
  unfold gIs at h
  split at h
  · simp only [Option.some.injEq] at h; subst h
    cases rx; cases ry
    exact .inr ⟨_, _, rfl, rfl, new_val fh nt q (.bl _)⟩
  · simp only [Option.some.injEq] at h; subst h
    cases ry
    exact .inl ⟨rfl, new_val fh nt q (by rw [rv_isN rx]; exact .bl _)⟩
  · cases h
theorem os_isnot : OpS X (compareOp .IsNot) gIsNot := by
  refine ⟨_, op_notN.or op_notBl, fun x y d e rv H F fh nt rx ry h Q q => ?_⟩
  unfold gIsNot at h
  split at h
  · simp only [Option.some.injEq] at h; subst h
    cases rx; cases ry
    exact .inr ⟨_, _, rfl, rfl, new_val fh nt q (.bl _)⟩
  · simp only [Option.some.injEq] at h; subst h
    cases ry
    exact .inl ⟨rfl, new_val fh nt q (by rw [rv_isN rx]; exact .bl _)⟩
  · cases h
/-- in: a list, a tuple of data; one sign in a text -/
def depAll (l : List D) : Nat := PyData.depthAll (D.pyAll l)
def inD (neg : Bool) (rm : Nat) : D → D → Option RV
  | d, .lst l => if 1 + min (depAll l) d.dep ≤ rm then some (.dat (.bl (neg ^^ l.any fun y => y.eq d))) else none
  | d, .tup l => if 1 + min (depAll l) d.dep ≤ rm then some (.dat (.bl (neg ^^ l.any fun y => y.eq d))) else none
  | .str ⟨⟨[c]⟩⟩, .str z => some (.dat (.bl (neg ^^ decide (c ∈ z.cps.toList))))
  | _, _ => none
theorem any_py (l : List D) (d : D) : ((D.pyAll l).any fun y => PyData.eqv y d.py) = l.any fun y => y.eq d := by
  rw [pyAll_eq, List.any_map]
  rfl
theorem os_in {rm : Nat} (hu : X.A.units + rm < cLine) : OpS X (compareOp .In) (inD false rm) := by
  refine ⟨fun x y H Q => (∃ d l, Rp X.K H x d ∧ (Rp X.K H y (.lst l) ∨ Rp X.K H y (.tup l)) ∧ 1 + min (depAll l) d.dep ≤ rm ∧ Q (.bl (l.any fun y => y.eq d)) H) ∨ _, OpR.or ?_ op_in_sign, fun x y d e rv H F fh nt rx ry h Q q => ?_⟩
  · intro pins s σ H x y v u Q I rx ry h
    obtain ⟨d, l, h1, h2 | h2, hm, q⟩ := h
    · obtain ⟨as, r1⟩ := Dp.reads I d.py x v h1.dp rx
      obtain ⟨bs, r2⟩ := Dp.reads I (.list (D.pyAll l)) y u h2.dp ry
      refine SeqAt.in_list_reads r2 r1 (by have z := h2.lay; exact z) h1.lay ?_ ⟨.bl _, H, I, rfl, by rw [any_py]; exact q⟩
      have : 1 + min (PyData.depthAll (D.pyAll l)) d.py.depth ≤ rm := hm
      omega
    · obtain ⟨as, r1⟩ := Dp.reads I d.py x v h1.dp rx
      obtain ⟨bs, r2⟩ := Dp.reads I (.tuple (D.pyAll l)) y u h2.dp ry
      refine SeqAt.in_tuple_reads r2 r1 (by have z := h2.lay; exact z) h1.lay ?_ ⟨.bl _, H, I, rfl, by rw [any_py]; exact q⟩
      have : 1 + min (PyData.depthAll (D.pyAll l)) d.py.depth ≤ rm := hm
      omega
  · unfold inD at h
    split at h
    · split at h
      · rename_i hc
        simp only [Option.some.injEq, Bool.false_bne] at h; subst h
        exact .inl ⟨d, _, rx.rp fh, .inl (ry.rp fh), hc, new_val fh nt q (.bl _)⟩
      · cases h
    · split at h
      · rename_i hc
        simp only [Option.some.injEq, Bool.false_bne] at h; subst h
        exact .inl ⟨d, _, rx.rp fh, .inr (ry.rp fh), hc, new_val fh nt q (.bl _)⟩
      · cases h
    · simp only [Option.some.injEq, Bool.false_bne] at h; subst h
      cases rx; cases ry
      exact .inr ⟨_, _, rfl, rfl, new_val fh nt q (.bl _)⟩
    · cases h
theorem os_notin {rm : Nat} (hu : X.A.units + rm < cLine) : OpS X (compareOp .NotIn) (inD true rm) := by
  refine ⟨fun x y H Q => (∃ d l, Rp X.K H x d ∧ (Rp X.K H y (.lst l) ∨ Rp X.K H y (.tup l)) ∧ 1 + min (depAll l) d.dep ≤ rm ∧ Q (.bl (!l.any fun y => y.eq d)) H) ∨ _, OpR.or ?_ op_notIn_sign, fun x y d e rv H F fh nt rx ry h Q q => ?_⟩
  · intro pins s σ H x y v u Q I rx ry h
    obtain ⟨d, l, h1, h2 | h2, hm, q⟩ := h
    · obtain ⟨as, r1⟩ := Dp.reads I d.py x v h1.dp rx
      obtain ⟨bs, r2⟩ := Dp.reads I (.list (D.pyAll l)) y u h2.dp ry
      refine SeqAt.notIn_list_reads r2 r1 (by have z := h2.lay; exact z) h1.lay ?_ ⟨.bl _, H, I, rfl, by rw [any_py]; exact q⟩
      have : 1 + min (PyData.depthAll (D.pyAll l)) d.py.depth ≤ rm := hm
      omega
    · obtain ⟨as, r1⟩ := Dp.reads I d.py x v h1.dp rx
      obtain ⟨bs, r2⟩ := Dp.reads I (.tuple (D.pyAll l)) y u h2.dp ry
      refine SeqAt.notIn_tuple_reads r2 r1 (by have z := h2.lay; exact z) h1.lay ?_ ⟨.bl _, H, I, rfl, by rw [any_py]; exact q⟩
      have : 1 + min (PyData.depthAll (D.pyAll l)) d.py.depth ≤ rm := hm
      omega
  · unfold inD at h
    split at h
    · split at h
      · rename_i hc
        simp only [Option.some.injEq, Bool.true_bne] at h; subst h
        exact .inl ⟨d, _, rx.rp fh, .inl (ry.rp fh), hc, new_val fh nt q (.bl _)⟩
      · cases h
    · split at h
      · rename_i hc
        simp only [Option.some.injEq, Bool.true_bne] at h; subst h
        exact .inl ⟨d, _, rx.rp fh, .inr (ry.rp fh), hc, new_val fh nt q (.bl _)⟩
      · cases h
    · simp only [Option.some.injEq, Bool.true_bne] at h; subst h
      cases rx; cases ry
      exact .inr ⟨_, _, rfl, rfl, new_val fh nt q (.bl _)⟩
    · cases h
end
end Dl
/-! DlD: unary operators, truth, tests, displays, places, slices. -/
namespace Dl
open PySem PySem.Spec PyProof.Rows L2 NdefX
/-! ### one value -/
def vals1 (g : D → Option RV) (a : RV) : Option RV := match a.val with
  | some x => g x
  | none => none
theorem vals1_some {g : D → Option RV} {a r : RV} (h : vals1 g a = some r) : ∃ x, a.val = some x ∧ g x = some r := by
  unfold vals1 at h
  cases e : a.val with
  | none => rw [e] at h; cases h
  | some x => rw [e] at h; exact ⟨x, rfl, h⟩
def dUn (g : D → Option RV) (a : Ex) : Ex := fun env w => (a env w).bind fun ra w1 => lift (vals1 g ra) w1
def gNeg : D → Option RV
  | .int i => some (.dat (.int (-i)))
  | _ => none
def gNot : D → Option RV
  | .bl b => some (.dat (.bl (!b)))
  | _ => none
section
variable {X : Cx} {T : List NTab} {Wi : WX} {pos : Pos} {a b c : Expr} {da db dc : Ex} {rest : List Expr}
theorem un_read {g : D → Option RV} {r : V → Hp → VK → Prop} (hr : ∀ x d rv H F, Same F H → NoTbl F → Rv X.K F H x d → g d = some rv → ∀ Q : VK, (∀ v H' F', Xt H F H' F' → rv.newAt X.K H H' F' v → Q v H') → r x H Q)
    {σ : St} {H : Hp} {Q : VK} (q : tD (Cx.tx X T) Wi (dUn g da) σ H Q) : tD (Cx.tx X T) Wi da σ H (fun x H1 => r x H1 Q) := by
  obtain ⟨B, env, w, F, O, M, s, q⟩ := q
  refine ⟨B, env, w, F, O, M, s, q.bind.imp fun ra w1 q1 x H1 F1 M1 s1 st1 r1 => ?_⟩
  obtain ⟨rv, e, q3⟩ := q1.lift
  obtain ⟨d, ea, eg⟩ := vals1_some e
  refine hr x d rv H1 F1 s1.fh s1.nt (RV.rv s1 r1 ea) eg Q fun v H' F' xt nw => ?_
  exact q3 v H' F' M1 (s1.xt xt) (st1.trans xt.stp) (RV.of_new nw s1 st1.th)
theorem je_neg (ha : JE X T Wi a da) : JE X T Wi (.UnaryOp .USub a pos) (dUn gNeg da) := by
  refine (pe_un un_neg ha).impD fun σ H Q q => un_read (r := rU fun i => .int (-i)) (fun x d rv H F fh nt rx h Q q => ?_) q
  cases d <;> first | (simp only [gNeg] at h; cases h; done) | skip
  simp only [gNeg, Option.some.injEq] at h; subst h
  cases rx
  exact ⟨_, rfl, new_val fh nt q (.int _)⟩
theorem je_not (ha : JE X T Wi a da) : JE X T Wi (.UnaryOp .Not a pos) (dUn gNot da) := by
  refine (pe_not ha).impD fun σ H Q q => un_read (r := fun x H1 Q => ∃ c, x = .bl c ∧ Q (.bl (!c)) H1) (fun x d rv H F fh nt rx h Q q => ?_) q
  cases d <;> first | (simp only [gNot] at h; cases h; done) | skip
  simp only [gNot, Option.some.injEq] at h; subst h
  cases rx
  exact ⟨_, rfl, new_val fh nt q (.bl _)⟩
/-- and, or of bools as values -/
def dAnd (a b : Ex) : Ex := fun env w => (a env w).bind fun ra w1 => match ra with
  | .dat (.bl true) => b env w1
  | .dat (.bl false) => .ok (.dat (.bl false)) w1
  | _ => .stuck
def dOr (a b : Ex) : Ex := fun env w => (a env w).bind fun ra w1 => match ra with
  | .dat (.bl false) => b env w1
  | .dat (.bl true) => .ok (.dat (.bl true)) w1
  | _ => .stuck
theorem je_one {op} (ha : JE X T Wi a da) : JE X T Wi (.BoolOp op [a] pos) da := pe_one ha
theorem je_and (ha : JE X T Wi a da) (hb : JE X T Wi (.BoolOp .And (b :: rest) pos) db) : JE X T Wi (.BoolOp .And (a :: b :: rest) pos) (dAnd da db) := by
  refine (pe_and ha hb).impD fun σ H Q q => ?_
  obtain ⟨B, env, w, F, O, M, s, q⟩ := q
  refine ⟨B, env, w, F, O, M, s, q.bind.imp fun ra w1 q1 x H1 F1 M1 s1 st1 r1 => ?_⟩
  split at q1
  · cases r1
    refine ⟨true, rfl, ?_⟩
    rw [if_pos rfl]
    exact ⟨B, env, w1, F1, _, M1, s1, q1.imp fun rb w2 q2 v H2 F2 M2 s2 st2 r2 => q2 v H2 F2 M2 s2 (st1.trans st2) (RV.since r2 st1.th)⟩
  · cases r1
    refine ⟨false, rfl, ?_⟩
    rw [if_neg Bool.false_ne_true]
    exact q1 _ _ _ _ s1 st1 (.bl false)
  · exact q1.elim
theorem je_or (ha : JE X T Wi a da) (hb : JE X T Wi (.BoolOp .Or (b :: rest) pos) db) : JE X T Wi (.BoolOp .Or (a :: b :: rest) pos) (dOr da db) := by
  refine (pe_or ha hb).impD fun σ H Q q => ?_
  obtain ⟨B, env, w, F, O, M, s, q⟩ := q
  refine ⟨B, env, w, F, O, M, s, q.bind.imp fun ra w1 q1 x H1 F1 M1 s1 st1 r1 => ?_⟩
  split at q1
  · cases r1
    refine ⟨false, rfl, ?_⟩
    rw [if_neg Bool.false_ne_true]
    exact ⟨B, env, w1, F1, _, M1, s1, q1.imp fun rb w2 q2 v H2 F2 M2 s2 st2 r2 => q2 v H2 F2 M2 s2 (st1.trans st2) (RV.since r2 st1.th)⟩
  · cases r1
    refine ⟨true, rfl, ?_⟩
    rw [if_pos rfl]
    exact q1 _ _ _ _ s1 st1 (.bl true)
  · exact q1.elim
/-! ### tests -/
abbrev Tst := Ev → World → Out Bool
/-- a value that is a bool -/
def dTst (a : Ex) : Tst := fun env w => (a env w).bind fun ra w1 => match ra with
  | .dat (.bl b) => .ok b w1
  | _ => .stuck
def D.truth : D → Option Bool
  | .non => some false
  | .bl b => some b
  | .int i => some (i != 0)
  | .str s => some ((s.length : Int) != 0)
  | .lst l => some (!l.isEmpty)
  | .tup l => some (!l.isEmpty)
/-- a value by its truth -/
def dTru (a : Ex) : Tst := fun env w => (a env w).bind fun ra w1 => match ra.val with
  | some d => (match d.truth with
    | some b => .ok b w1
    | none => .stuck)
  | none => .stuck
theorem tst_read {σ : St} {H : Hp} {Q : Bool → Hp → Prop} (q : tT (Cx.tx X T) Wi (dTst da) σ H Q) : tD (Cx.tx X T) Wi da σ H (fun x H1 => ∃ c, x = .bl c ∧ Q c H1) := by
  obtain ⟨B, env, w, F, O, M, s, q⟩ := q
  refine ⟨B, env, w, F, O, M, s, q.bind.imp fun ra w1 q1 x H1 F1 M1 s1 st1 r1 => ?_⟩
  split at q1
  · cases r1; exact ⟨_, rfl, q1 _ _ _ s1 st1⟩
  · exact q1.elim
theorem jt_val (ha : JE X T Wi a da) (he : ∀ whole, isTrue a X.env whole = (do let v ← whole; standAt a.pos; holding [v] (truthy v)) := by intro _; rfl) : JT X T Wi a (dTst da) :=
  (pt_val ha he).impD fun σ H Q q => tst_read q
theorem jt_cmp {op : CmpOp} {g : D → D → Option RV} (h : OpS X (compareOp op) g) (ha : JE X T Wi a da) (hb : JE X T Wi b db) (hm : behindInMarks op b = false := by first | exact nomark _ | rfl) : JT X T Wi (.Compare a [op] [b] pos) (dTst (dBin g da db)) := by
  obtain ⟨r, ho, hr⟩ := h
  exact (pt_cmpR ho ha hb hm).impD fun σ H Q q => op_read (f := compareOp op) hr (tst_read q)
theorem jt_truth (ha : JE X T Wi a da) (he : ∀ whole, isTrue a X.env whole = (do let v ← whole; standAt a.pos; holding [v] (truthy v)) := by intro _; rfl) : JT X T Wi a (dTru da) := by
  refine (pt_truth ha he).impD fun σ H Q q => ?_
  obtain ⟨B, env, w, F, O, M, s, q⟩ := q
  refine ⟨B, env, w, F, O, M, s, q.bind.imp fun ra w1 q1 x H1 F1 M1 s1 st1 r1 => ?_⟩
  split at q1
  · rename_i d ed
    split at q1
    · rename_i k ek
      refine ⟨k, ?_, q1 _ _ _ s1 st1⟩
      have rv := RV.rv s1 r1 ed
      cases d with
      | non => cases rv; simp only [D.truth, Option.some.injEq] at ek; exact ek.symm
      | bl b => cases rv; simp only [D.truth, Option.some.injEq] at ek; exact ek.symm
      | int i => cases rv; simp only [D.truth, Option.some.injEq] at ek; exact ek.symm
      | str y =>
        cases rv with
        | str _ ok => simp only [D.truth, Option.some.injEq] at ek; exact ⟨ok.2, ek.symm⟩
      | lst l =>
        obtain ⟨_, p, vs, e, hs, hp⟩ := rv
        subst e
        simp only [D.truth, Option.some.injEq] at ek
        refine .inl ⟨vs, hs, ?_⟩
        rw [← ek]
        cases hp <;> rfl
      | tup l =>
        cases rv with
        | tup hz hs hp =>
          simp only [D.truth, Option.some.injEq] at ek
          refine .inr (.inl ⟨_, sqT_mono s1.fh hs, ?_⟩)
          rw [← ek]
          cases hp <;> rfl
    · exact q1.elim
  · exact q1.elim
def tNot' (a : Tst) : Tst := fun env w => (a env w).bind fun b w1 => .ok (!b) w1
def tAnd' (a b : Tst) : Tst := fun env w => (a env w).bind fun c w1 => if c = true then b env w1 else .ok false w1
def tOr' (a b : Tst) : Tst := fun env w => (a env w).bind fun c w1 => if c = true then .ok true w1 else b env w1
variable {ta tb : Tst}
theorem jt_not (ha : JT X T Wi a ta) : JT X T Wi (.UnaryOp .Not a pos) (tNot' ta) := by
  refine (pt_not ha).impD fun σ H Q q => ?_
  obtain ⟨B, env, w, F, O, M, s, q⟩ := q
  exact ⟨B, env, w, F, O, M, s, q.bind.imp fun c w1 q1 H1 F1 M1 s1 st1 => q1 H1 F1 M1 s1 st1⟩
theorem jw_and1 (ha : JT X T Wi a ta) : JW X T Wi (.BoolOp .And [a] pos) ta := pw_and1 ha
theorem jw_or1 (ha : JT X T Wi a ta) : JW X T Wi (.BoolOp .Or [a] pos) ta := pw_or1 ha
theorem jw_and (ha : JT X T Wi a ta) (hb : JW X T Wi (.BoolOp .And (b :: rest) pos) tb) : JW X T Wi (.BoolOp .And (a :: b :: rest) pos) (tAnd' ta tb) := by
  refine (pw_and ha hb).impD fun σ H Q q => ?_
  obtain ⟨B, env, w, F, O, M, s, q⟩ := q
  refine ⟨B, env, w, F, O, M, s, q.bind.imp fun c w1 q1 H1 F1 M1 s1 st1 => ?_⟩
  cases c with
  | true =>
    rw [if_pos rfl] at q1 ⊢
    exact ⟨B, env, w1, F1, O, M1, s1, q1.imp fun _ w2 q2 H2 F2 M2 s2 st2 => q2 H2 F2 M2 s2 (st1.trans st2)⟩
  | false =>
    rw [if_neg Bool.false_ne_true] at q1 ⊢
    exact q1 H1 F1 M1 s1 st1
theorem jw_or (ha : JT X T Wi a ta) (hb : JW X T Wi (.BoolOp .Or (b :: rest) pos) tb) : JW X T Wi (.BoolOp .Or (a :: b :: rest) pos) (tOr' ta tb) := by
  refine (pw_or ha hb).impD fun σ H Q q => ?_
  obtain ⟨B, env, w, F, O, M, s, q⟩ := q
  refine ⟨B, env, w, F, O, M, s, q.bind.imp fun c w1 q1 H1 F1 M1 s1 st1 => ?_⟩
  cases c with
  | true =>
    rw [if_pos rfl] at q1 ⊢
    exact q1 H1 F1 M1 s1 st1
  | false =>
    rw [if_neg Bool.false_ne_true] at q1 ⊢
    exact ⟨B, env, w1, F1, O, M1, s1, q1.imp fun _ w2 q2 H2 F2 M2 s2 st2 => q2 H2 F2 M2 s2 (st1.trans st2)⟩
theorem jt_bool {op} (h : JW X T Wi (.BoolOp op (a :: rest) pos) ta) : JT X T Wi (.BoolOp op (a :: rest) pos) ta := PW.pt h
def dIf (t : Tst) (a b : Ex) : Ex := fun env w => (t env w).bind fun c w1 => if c = true then a env w1 else b env w1
theorem je_if (hc : JT X T Wi c ta) (ha : JE X T Wi a da) (hb : JE X T Wi b db) : JE X T Wi (.IfExp c a b pos) (dIf ta da db) := by
  refine (pe_ifExp hc ha hb).impD fun σ H Q q => ?_
  obtain ⟨B, env, w, F, O, M, s, q⟩ := q
  refine ⟨B, env, w, F, O, M, s, q.bind.imp fun c w1 q1 H1 F1 M1 s1 st1 => ?_⟩
  cases c with
  | true =>
    rw [if_pos rfl] at q1 ⊢
    exact ⟨B, env, w1, F1, O, M1, s1, q1.imp fun rb w2 q2 v H2 F2 M2 s2 st2 r2 => q2 v H2 F2 M2 s2 (st1.trans st2) (RV.since r2 st1.th)⟩
  | false =>
    rw [if_neg Bool.false_ne_true] at q1 ⊢
    exact ⟨B, env, w1, F1, O, M1, s1, q1.imp fun rb w2 q2 v H2 F2 M2 s2 st2 r2 => q2 v H2 F2 M2 s2 (st1.trans st2) (RV.since r2 st1.th)⟩
/-- a < b < c -/
def dChain (g g' : D → D → Option RV) (a b c : Ex) : Ex := fun env w => (a env w).bind fun ra w1 => (b env w1).bind fun rb w2 => match vals2 g ra rb with
  | some (.dat (.bl true)) => (c env w2).bind fun rc w3 => lift (vals2 g' rb rc) w3
  | some (.dat (.bl false)) => .ok (.dat (.bl false)) w2
  | _ => .stuck
theorem chain_read {f f' : Value → Value → Sem Value} {g g' : D → D → Option RV} {r r' : R2} (hr : ∀ x y d e rv H F, Same F H → NoTbl F → Rv X.K F H x d → Rv X.K F H y e → g d e = some rv → ∀ Q : VK, (∀ v H' F', Xt H F H' F' → rv.newAt X.K H H' F' v → Q v H') → r x y H Q)
    (hr' : ∀ x y d e rv H F, Same F H → NoTbl F → Rv X.K F H x d → Rv X.K F H y e → g' d e = some rv → ∀ Q : VK, (∀ v H' F', Xt H F H' F' → rv.newAt X.K H H' F' v → Q v H') → r' x y H Q)
    {σ : St} {H : Hp} {Q : VK} (q : tD (Cx.tx X T) Wi (dChain g g' da db dc) σ H Q) : tChain r r' (tD (Cx.tx X T) Wi da) (tD (Cx.tx X T) Wi db) (tD (Cx.tx X T) Wi dc) σ H Q := by
  obtain ⟨B, env, w, F, O, M, s, q⟩ := q
  refine ⟨B, env, w, F, O, M, s, q.bind.imp fun ra w1 q1 x H1 F1 M1 s1 st1 r1 => ?_⟩
  refine ⟨B, env, w1, F1, O, M1, s1, q1.bind.imp fun rb w2 q2 y H2 F2 M2 s2 st2 r2 => ?_⟩
  split at q2
  · rename_i e
    obtain ⟨d, e', ea, eb, eg⟩ := vals2_some e
    refine hr x y d e' _ H2 F2 s2.fh s2.nt (RV.rv s2 (RV.step r1 st2) ea) (RV.rv s2 r2 eb) eg _ fun v H3 F3 xt nw => ?_
    cases nw
    refine ⟨true, rfl, ?_⟩
    rw [if_pos rfl]
    have s3 := s2.xt xt
    have r2' := RV.step r2 (xt.stp (M := M2))
    refine ⟨B, env, w2, F3, O, M2, s3, q2.bind.imp fun rc w4 q4 z H4 F4 M4 s4 st4 r4 => ?_⟩
    obtain ⟨rv, e2, q5⟩ := q4.lift
    obtain ⟨d2, e2', ea2, eb2, eg2⟩ := vals2_some e2
    refine hr' y z d2 e2' rv H4 F4 s4.fh s4.nt (RV.rv s4 (RV.step r2' st4) ea2) (RV.rv s4 r4 eb2) eg2 Q fun v5 H5 F5 xt5 nw5 => ?_
    have st := ((st1.trans st2).trans xt.stp).trans st4
    exact q5 v5 H5 F5 M4 (s4.xt xt5) (st.trans xt5.stp) (RV.of_new nw5 s4 st.th)
  · rename_i e
    obtain ⟨d, e', ea, eb, eg⟩ := vals2_some e
    refine hr x y d e' _ H2 F2 s2.fh s2.nt (RV.rv s2 (RV.step r1 st2) ea) (RV.rv s2 r2 eb) eg _ fun v H3 F3 xt nw => ?_
    cases nw
    refine ⟨false, rfl, ?_⟩
    rw [if_neg Bool.false_ne_true]
    exact q2 _ _ _ _ (s2.xt xt) ((st1.trans st2).trans xt.stp) (.bl false)
  · exact q2.elim
theorem je_chain {op op' : CmpOp} {g g' : D → D → Option RV} (h : OpS X (compareOp op) g) (h' : OpS X (compareOp op') g') (ha : JE X T Wi a da) (hb : JE X T Wi b db) (hc : JE X T Wi c dc) (hm : lastMarks [op, op'] [b, c] = false := by with_unfolding_all rfl) :
    JE X T Wi (.Compare a [op, op'] [b, c] pos) (dChain g g' da db dc) := by
  obtain ⟨r, ho, hr⟩ := h
  obtain ⟨r', ho', hr'⟩ := h'
  exact (pe_chain ho ho' ha hb hc hm).impD fun σ H Q q => chain_read (f := compareOp op) (f' := compareOp op') hr hr' q
theorem jt_chain {op op' : CmpOp} {g g' : D → D → Option RV} (h : OpS X (compareOp op) g) (h' : OpS X (compareOp op') g') (ha : JE X T Wi a da) (hb : JE X T Wi b db) (hc : JE X T Wi c dc) (hm : lastMarks [op, op'] [b, c] = false := by with_unfolding_all rfl) :
    JT X T Wi (.Compare a [op, op'] [b, c] pos) (dTst (dChain g g' da db dc)) := by
  obtain ⟨r, ho, hr⟩ := h
  obtain ⟨r', ho', hr'⟩ := h'
  exact (pt_chain ho ho' ha hb hc hm).impD fun σ H Q q => chain_read (f := compareOp op) (f' := compareOp op') hr hr' (tst_read q)
/-! ### places -/
theorem atI_pair {α β : Type} {F : α → β → Prop} {vs : List α} {l : List β} {i : Int} {d : β} (h : Paired F vs l) (e : atI l i = some d) : ∃ v, atI vs i = some v ∧ F v d := by
  unfold atI at e ⊢
  rw [h.length]
  cases q : ixN l.length i with
  | none => rw [q] at e; cases e
  | some j => rw [q] at e; exact Pr.get h e
def gIx : D → D → Option RV
  | .lst l, .int i => (atI l i).map .dat
  | .tup l, .int i => (atI l i).map .dat
  | .str s, .int i => (atI s.cps.toList i).map fun c => .dat (.str ⟨#[c]⟩)
  | _, _ => none
theorem sOk_mem {s : Str} {c : Nat} (h : SOk s) (hc : c ∈ s.cps.toList) : SOk ⟨#[c]⟩ := by
  obtain ⟨h, _⟩ := h
  refine ⟨?_, by show 1 ≤ sizeLine; rw [sizeLine_eq]; decide⟩
  unfold PyData.strOk at *
  rw [Array.all_eq_true_iff_forall_mem] at h
  have := h c (by simpa using hc)
  simpa using this
theorem atI_mem {α : Type} {l : List α} {i : Int} {d : α} (e : atI l i = some d) : d ∈ l := by
  obtain ⟨j, _, h, _⟩ := atI_get e
  exact List.mem_of_getElem? h
theorem je_ix (ha : JE X T Wi a da) (hb : JE X T Wi b db) (hs : PlainIx b := by exact fun _ _ => rfl) : JE X T Wi (.Subscript a b pos) (dBin gIx da db) := by
  refine (pe_ix ix_seq ha hb hs).impD fun σ H Q q => op_read (f := getItem) (r := rIx X.K) (fun x y d e rv H F fh nt rx ry h Q q => ?_) q
  cases d <;> cases e <;> first | (simp only [gIx] at h; cases h; done) | skip
  · rename_i z i
    simp only [gIx] at h
    cases ec : atI z.cps.toList i with
    | none => rw [ec] at h; cases h
    | some c =>
      rw [ec] at h
      simp only [Option.map_some, Option.some.injEq] at h; subst h
      cases rx with
      | str _ ok =>
        cases ry
        exact .inr (.inr ⟨_, _, c, rfl, rfl, ok.2, ec, new_val fh nt q (.str _ (sOk_mem ok (atI_mem ec)))⟩)
  · rename_i l i
    simp only [gIx] at h
    cases ec : atI l i with
    | none => rw [ec] at h; cases h
    | some c =>
      rw [ec] at h
      simp only [Option.map_some, Option.some.injEq] at h; subst h
      obtain ⟨_, p, vs, e, hs, hp⟩ := rx
      subst e
      cases ry
      obtain ⟨v, ev, rv⟩ := atI_pair hp ec
      exact .inl ⟨p, vs, _, v, rfl, rfl, hs, ev, new_val fh nt q rv⟩
  · rename_i l i
    simp only [gIx] at h
    cases ec : atI l i with
    | none => rw [ec] at h; cases h
    | some c =>
      rw [ec] at h
      simp only [Option.map_some, Option.some.injEq] at h; subst h
      cases rx with
      | tup hz hs hp =>
        cases ry
        obtain ⟨v, ev, rv⟩ := atI_pair hp ec
        exact .inr (.inl ⟨_, _, _, v, rfl, rfl, sqT_mono fh hs, ev, new_val fh nt q rv⟩)
/-- slices -/
def optI (o : Option Ex) (env : Ev) (w : World) : Out (Option Int) := match o with
  | none => .ok none w
  | some e => (e env w).bind fun r w1 => match r with
    | .dat (.int i) => .ok (some i) w1
    | _ => .stuck
def cutD {α : Type} (l : List α) (lo hi : Option Int) : List α := (l.drop (HT.sIx l.length 0 lo)).take (HT.sIx l.length l.length hi - HT.sIx l.length 0 lo)
def gSl (lo hi : Option Int) : D → Option RV
  | .lst l => some (.fresh (cutD l lo hi))
  | .tup l => some (.dat (.tup (cutD l lo hi)))
  | .str s => some (.dat (.str ⟨(cutD s.cps.toList lo hi).toArray⟩))
  | _ => none
def dSl (a : Ex) (lo hi : Option Ex) : Ex := fun env w => (a env w).bind fun ra w1 => (optI lo env w1).bind fun l w2 => (optI hi env w2).bind fun u w3 => lift (vals1 (gSl l u) ra) w3
def tOpt (X : Tx) (Wi : WX) (o : Option Ex) : TO := fun σ H Q => ∃ B env w F O M, SR X B env w σ H F O M ∧
  Pst (optI o env w) (fun l w' => ∀ H' F' M', SR X B env w' σ H' F' O M' → Stp H F M H' F' M' → Q l H') (badX X B Wi)
abbrev JO (X : Cx) (T : List NTab) (Wi : WX) (e : Option Expr) (d : Option Ex) : Prop := PO X e (tOpt (Cx.tx X T) Wi d)
theorem jo_none : JO X T Wi none none := ⟨fun pins s σ H Q I q => by
  obtain ⟨B, env, w, F, O, M, sr, q⟩ := q
  exact po_none.run pins s σ H Q I (q H F M sr .refl)⟩
theorem jo_some (ha : JE X T Wi a da) : JO X T Wi (some a) (some da) := ⟨fun pins s σ H Q I q => by
  refine (po_some ha).run pins s σ H Q I ?_
  obtain ⟨B, env, w, F, O, M, sr, q⟩ := q
  have q := (show Pst ((da env w).bind fun r w1 => match r with
    | .dat (.int i) => Out.ok (some i) w1
    | _ => .stuck) _ _ from q).bind
  refine ⟨B, env, w, F, O, M, sr, q.imp fun ra w1 q1 x H1 F1 M1 s1 st1 r1 => ?_⟩
  split at q1
  · cases r1; exact ⟨_, rfl, q1 _ _ _ s1 st1⟩
  · exact q1.elim⟩
theorem drop_take_mem {α : Type} {l : List α} {m n : Nat} {c : α} (h : c ∈ (l.drop m).take n) : c ∈ l := List.mem_of_mem_drop (List.mem_of_mem_take h)
theorem cutD_len {α : Type} (l : List α) (lo hi : Option Int) : (cutD l lo hi).length ≤ l.length := by
  unfold cutD
  rw [List.length_take, List.length_drop]
  omega
theorem sOk_cut {s : Str} {lo hi : Option Int} (h : SOk s) : SOk ⟨(cutD s.cps.toList lo hi).toArray⟩ := by
  obtain ⟨h, hz⟩ := h
  refine ⟨?_, Nat.le_trans ?_ hz⟩
  · unfold PyData.strOk at *
    rw [Array.all_eq_true_iff_forall_mem] at h ⊢
    intro c hc
    refine h c ?_
    have : c ∈ cutD s.cps.toList lo hi := by simpa using hc
    have := drop_take_mem this
    simpa using this
  · show (cutD s.cps.toList lo hi).toArray.size ≤ s.cps.size
    have := cutD_len s.cps.toList lo hi
    rw [List.size_toArray]
    simpa using this
theorem cutD_whole {α : Type} {l : List α} {lo hi : Option Int} (h : HT.sIx l.length 0 lo = 0 ∧ HT.sIx l.length l.length hi = l.length) : cutD l lo hi = l := by
  unfold cutD
  rw [h.1, h.2, List.drop_zero, Nat.sub_zero, List.take_length]
theorem cut_pair {α β : Type} {F : α → β → Prop} {vs : List α} {l : List β} {lo hi : Option Int} (h : Paired F vs l) : Paired F ((vs.drop (HT.sIx vs.length 0 lo)).take (HT.sIx vs.length vs.length hi - HT.sIx vs.length 0 lo)) (cutD l lo hi) := by
  unfold cutD
  rw [h.length]
  exact Pr.take _ (Pr.drop _ h)
theorem je_slice {lo hi : Option Expr} {dl dh : Option Ex} {p2 : Pos} (ha : JE X T Wi a da) (hl : JO X T Wi lo dl) (hh : JO X T Wi hi dh) : JE X T Wi (.Subscript a (.Slice lo hi none p2) pos) (dSl da dl dh) := by
  refine (pe_slice (SlR.or sl_list (SlR.or sl_tupA sl_str)) ha hl hh).impD fun σ H Q q => ?_
  obtain ⟨B, env, w, F, O, M, s, q⟩ := q
  refine ⟨B, env, w, F, O, M, s, q.bind.imp fun ra w1 q1 x H1 F1 M1 s1 st1 r1 => ?_⟩
  refine ⟨B, env, w1, F1, O, M1, s1, q1.bind.imp fun l w2 q2 H2 F2 M2 s2 st2 => ?_⟩
  refine ⟨B, env, w2, F2, O, M2, s2, q2.bind.imp fun u w3 q3 H3 F3 M3 s3 st3 => ?_⟩
  obtain ⟨rv, e, q4⟩ := q3.lift
  obtain ⟨d, ea, eg⟩ := vals1_some e
  have rx := RV.rv s3 (RV.step r1 (st2.trans st3)) ea
  have st := (st1.trans st2).trans st3
  have fin : ∀ v H' F', Xt H3 F3 H' F' → rv.newAt X.K H3 H' F' v → Q v H' := fun v H' F' xt nw => q4 v H' F' M3 (s3.xt xt) (st.trans xt.stp) (RV.of_new nw s3 st.th)
  cases d <;> first | (simp only [gSl] at eg; cases eg; done) | skip
  · simp only [gSl, Option.some.injEq] at eg; subst eg
    cases rx with
    | str _ ok => exact .inr (.inr ⟨_, rfl, ok.2, new_val s3.fh s3.nt fin (.str _ (sOk_cut ok))⟩)
  · simp only [gSl, Option.some.injEq] at eg; subst eg
    obtain ⟨hz, p, vs, e, hs, hp⟩ := rx
    subst e
    exact .inl ⟨p, vs, rfl, hs, fun p' hp' => new_lst s3.fh s3.nt fin hp' (Nat.le_trans (cutD_len _ _ _) hz) (cut_pair hp)⟩
  · rename_i k
    simp only [gSl, Option.some.injEq] at eg; subst eg
    cases rx with
    | @tup a vs _ hz hs hp =>
      refine .inr (.inl ⟨a, vs, rfl, sqT_mono s3.fh hs, fun hw => ?_, fun _ p' hp' => new_tup s3.fh s3.nt fin hp' (Nat.le_trans (cutD_len _ _ _) hz) (cut_pair hp)⟩)
      have hw' : HT.sIx k.length 0 l = 0 ∧ HT.sIx k.length k.length u = k.length := by rw [← hp.length]; exact hw
      refine new_val s3.fh s3.nt fin ?_
      rw [cutD_whole hw']
      exact .tup hz hs hp
end
end Dl
/-! DlE: arguments, displays, calls of defs, calls of built-ins. -/
namespace Dl
open PySem PySem.Spec PyProof.Rows L2 NdefX
/-! ### arguments that are kept: what is fresh is frozen -/
def RV.arg : RV → Option RV
  | .dat d => some (.dat d)
  | .fresh l => some (.dat (.lst l))
  | .bor _ _ => none
  | .wref k => some (.wref k)
def argAt (X : Tx) (F : Hp) (M : List Addr) (v : V) : RV → Prop
  | .dat d => Rp X.K F v d
  | .wref k => ∃ m, M[k]? = some m ∧ v = .ref m
  | _ => False
abbrev Exs := Ev → World → Out (List RV)
def aNil : Exs := fun _ w => .ok [] w
def aCons (e : Ex) (r : Exs) : Exs := fun env w => (e env w).bind fun x w1 => match x.arg with
  | some a => (r env w1).bind fun as w2 => .ok (a :: as) w2
  | none => .stuck
/-- read as they are -/
def rNil : Exs := fun _ w => .ok [] w
def rCons (e : Ex) (r : Exs) : Exs := fun env w => (e env w).bind fun x w1 => (r env w1).bind fun xs w2 => .ok (x :: xs) w2
def tA (X : Tx) (Wi : WX) (e : Exs) : TA := fun σ H Q => ∃ B env w F O M, SR X B env w σ H F O M ∧
  Pst (e env w) (fun rs w' => ∀ vs H' F' M', SR X B env w' σ H' F' O M' → Stp H F M H' F' M' → Paired (argAt X F' M') vs rs → Q vs H') (badX X B Wi)
abbrev JA (X : Cx) (T : List NTab) (Wi : WX) (es : List Expr) (d : Exs) : Prop := PA X es (tA (Cx.tx X T) Wi d)
section
variable {X : Tx} {H F H' F' : Hp} {M M' : List Addr}
theorem Stp.freeze {p : Addr} {o : HO} (st : Stp H F M H' F' M') (hp : H p = none) (hF : F' p = none) : Stp H F M H' (upd F' p o) M' :=
  ⟨st.fg.trans (same_upd hF), st.fr, st.th, fun a h e => by
    by_cases z : a = p
    · subst z; exact absurd hp h
    · rw [upd_ne z]; exact st.nf a h e, st.mw⟩
theorem argAt_step {v : V} {r : RV} (h : argAt X F M v r) (st : Stp H F M H' F' M') : argAt X F' M' v r := by
  obtain ⟨nw, em, _⟩ := id st.mw
  cases r with
  | dat d => exact Rp.mono st.fg _ _ h
  | wref k => obtain ⟨m, e1, e2⟩ := h; exact ⟨m, mem_of_pfx em e1, e2⟩
  | fresh l => exact h.elim
  | bor i l => exact h.elim
/-- a value is kept -/
theorem keep_arg {B : Base} {env : Ev} {w w1 : World} {σ : St} {O : Nat → Addr} {v : V} {r a : RV} (s : SR X B env w σ H F O M) (s1 : SR X B env w1 σ H' F' O M') (st : Stp H F M H' F' M') (h : r.isAt X H env O H' F' M' v) (e : r.arg = some a) :
    ∃ F1, SR X B env w1 σ H' F1 O M' ∧ Stp H F M H' F1 M' ∧ argAt X F1 M' v a := by
  cases r with
  | dat d => cases e; exact ⟨F', s1, st, h⟩
  | wref k => cases e; exact ⟨F', s1, st, h⟩
  | bor i l => cases e
  | fresh l =>
    cases e
    obtain ⟨hz, p, vs, e1, e2, e3, e4, e5, e6⟩ := h
    have hB : B.H p = none := by
      cases q : B.H p with
      | none => rfl
      | some o => exact absurd e2 (s.st.th p (by rw [q]; simp))
    have hO : ∀ i l, env[i]? = some (.own l) → O i ≠ p := fun i l e z => by
      obtain ⟨_, _, _, _, _, ws, q, _⟩ := s.sl i _ e
      rw [z, e2] at q; cases q
    refine ⟨upd F' p (.lst vs), s1.freeze hB e4 hO e5 e3, st.freeze e2 e3, ?_⟩
    subst e1
    exact .lst hz (SqL.of upd_same) (Rp.monoAll (same_upd e3) _ _ e6)
end
section
variable {X : Cx} {T : List NTab} {Wi : WX} {pos : Pos} {e : Expr} {es : List Expr} {d : Ex} {ds : Exs}
theorem ja_nil : JA X T Wi [] aNil := pa_nil.impD fun σ H Q q => by
  obtain ⟨B, env, w, F, O, M, s, q⟩ := q
  exact q [] H F M s .refl .nil
theorem ja_cons (h : JE X T Wi e d) (hs : JA X T Wi es ds) (hst : starEach (e :: es) X.env = (false, eval e X.env) :: starEach es X.env := by rfl) : JA X T Wi (e :: es) (aCons d ds) := by
  refine (pa_cons h hs hst).impD fun σ H Q q => ?_
  obtain ⟨B, env, w, F, O, M, s, q⟩ := q
  refine ⟨B, env, w, F, O, M, s, q.bind.imp fun r w1 q1 x H1 F1 M1 s1 st1 r1 => ?_⟩
  split at q1
  · rename_i a ea
    obtain ⟨F2, s2, st2, a2⟩ := keep_arg s s1 st1 r1 ea
    exact ⟨B, env, w1, F2, O, M1, s2, q1.bind.imp fun as w3 q3 vs H3 F3 M3 s3 st3 p3 => q3 (x :: vs) H3 F3 M3 s3 (st2.trans st3) (.cons (argAt_step a2 st3) p3)⟩
  · exact q1.elim
theorem jr_nil : JR X T Wi [] rNil := pa_nil.impD fun σ H Q q => by
  obtain ⟨B, env, w, F, O, M, s, q⟩ := q
  exact q [] H F M s .refl .nil
theorem jr_cons (h : JE X T Wi e d) (hs : JR X T Wi es ds) (hst : starEach (e :: es) X.env = (false, eval e X.env) :: starEach es X.env := by rfl) : JR X T Wi (e :: es) (rCons d ds) := by
  refine (pa_cons h hs hst).impD fun σ H Q q => ?_
  obtain ⟨B, env, w, F, O, M, s, q⟩ := q
  refine ⟨B, env, w, F, O, M, s, q.bind.imp fun r w1 q1 x H1 F1 M1 s1 st1 r1 => ?_⟩
  exact ⟨B, env, w1, F1, O, M1, s1, q1.bind.imp fun as w3 q3 vs H3 F3 M3 s3 st3 p3 => q3 (x :: vs) H3 F3 M3 s3 (st1.trans st3) (.cons (RV.step r1 st3) (Paired.mapP p3 fun _ _ z => RV.since z st1.th))⟩
/-! ### displays -/
def RV.dd : RV → Option D
  | .dat d => some d
  | _ => none
def dats : List RV → Option (List D)
  | [] => some []
  | r :: rs => match r.dd, dats rs with
    | some d, some ds => some (d :: ds)
    | _, _ => none
theorem dats_at {X : Tx} {F : Hp} {M : List Addr} : ∀ {vs : List V} {rs : List RV} {ds : List D}, Paired (argAt X F M) vs rs → dats rs = some ds → Paired (Rp X.K F) vs ds
  | _, _, _, .nil, e => by cases e; exact .nil
  | _, r :: rs, ds, .cons h t, e => by
    unfold dats at e
    split at e
    · rename_i d ds' e1 e2
      cases e
      refine .cons ?_ (dats_at t e2)
      cases r with
      | dat d' => cases e1; exact h
      | _ => cases e1
    · cases e
def dTup (es : Exs) : Ex := fun env w => (es env w).bind fun rs w1 => match dats rs with
  | some ds => if ds.length ≤ 1000 then .ok (.dat (.tup ds)) w1 else .stuck
  | none => .stuck
def dLst (es : Exs) : Ex := fun env w => (es env w).bind fun rs w1 => match dats rs with
  | some ds => if ds.length ≤ 1000 then .ok (.fresh ds) w1 else .stuck
  | none => .stuck
theorem je_tup {k : Nat} (h : JA X T Wi es ds) : JE X T Wi (.Tuple es k pos) (dTup ds) := by
  refine (pe_tup h).impD fun σ H Q q => ?_
  obtain ⟨B, env, w, F, O, M, s, q⟩ := q
  refine ⟨B, env, w, F, O, M, s, q.bind.imp fun rs w1 q1 vs H1 F1 M1 s1 st1 p1 => ?_⟩
  split at q1
  · rename_i l el
    split at q1
    · rename_i hz
      have pp := dats_at p1 el
      have hz' : l.length ≤ sizeLine := Nat.le_trans hz (by rw [sizeLine_eq]; decide)
      exact ⟨by rw [pp.length]; exact hz', fun p hp => new_tup s1.fh s1.nt (fun v H' F' xt nw => q1 v H' F' M1 (s1.xt xt) (st1.trans xt.stp) (RV.of_new nw s1 st1.th)) hp hz' pp⟩
    · exact q1.elim
  · exact q1.elim
theorem je_lst (h : JA X T Wi es ds) : JE X T Wi (.List es pos) (dLst ds) := by
  refine (pe_lst h).impD fun σ H Q q => ?_
  obtain ⟨B, env, w, F, O, M, s, q⟩ := q
  refine ⟨B, env, w, F, O, M, s, q.bind.imp fun rs w1 q1 vs H1 F1 M1 s1 st1 p1 => ?_⟩
  split at q1
  · rename_i l el
    split at q1
    · rename_i hz
      have pp := dats_at p1 el
      have hz' : l.length ≤ sizeLine := Nat.le_trans hz (by rw [sizeLine_eq]; decide)
      exact ⟨by rw [pp.length]; exact hz', fun p hp => new_lst s1.fh s1.nt (fun v H' F' xt nw => q1 v H' F' M1 (s1.xt xt) (st1.trans xt.stp) (RV.of_new nw s1 st1.th)) hp hz' pp⟩
    · exact q1.elim
  · exact q1.elim
end
/-! ### calls of defs -/
structure Cs where
  call : Nat → List RV → World → Out RV
  room : Nat
/-- what a def promises that computes m -/
def spD (X : Tx) (m : List RV → World → Out RV) : Sp := fun vs H Q E => ∃ F M args w, Same F H ∧ NoTbl F ∧ WRel X F H M w ∧ TabsN X.T H ∧ Paired (argAt X F M) vs args ∧
  Pst (m args w) (fun r w' => ∀ v H' F' M', Same F' H' → NoTbl F' → WRel X F' H' M' w' → TabsN X.T H' → Stp H F M H' F' M' → r.isAt X H [] (fun _ => 0) H' F' M' v → Q v H')
    (fun x _ w' => ∀ cls d H' F' M', Same F' H' → NoTbl F' → WRel X F' H' M' w' → TabsN X.T H' → Stp H F M H' F' M' → x.isAt X F' H' cls d → E cls d H')
/-- the def by the name x is the i-th one -/
structure Cal (X : Cx) (T : List NTab) (n : Nat) (C : Cs) (x : Str) (i : Nat) : Prop where
  ex : ∃ (a : Addr) (fd : FuncData) (ps : List Str), X.mg x = some (.ref a) ∧ PySem.W.keepIn X.K (.ref a) = true ∧ Binds X.K fd ps [] ∧ FnOk X.prog X.w X.K X.mg X.base (L2.CX X.prog X.w) n a fd ps (spD (Cx.tx X T) (C.call i))
def withEnv {α : Type} (env : Ev) (o : Out α) : Out α := match o with
  | .ok a w => .ok a w
  | .exc x _ w => .exc x env w
  | .stuck => .stuck
def dCall (C : Cs) (i : Nat) (as : Exs) : Ex := fun env w => (as env w).bind fun rs w1 => withEnv env (C.call i rs w1)
@[simp] theorem withEnv_ok {α : Type} (env : Ev) (a : α) (w : World) : withEnv env (.ok a w) = .ok a w := rfl
theorem isAt_nil {X : Tx} {Hs H F : Hp} {M : List Addr} {v : V} {r : RV} {env : Ev} {O : Nat → Addr} (h : r.isAt X Hs [] (fun _ => 0) H F M v) : r.isAt X Hs env O H F M v := by
  cases r with
  | bor i l => obtain ⟨e, _⟩ := h; cases i <;> cases e
  | dat d => exact h
  | fresh l => exact h
  | wref k => exact h
section
variable {X : Cx} {T : List NTab} {Wi : WX} {pos p : Pos} {e : Expr} {es : List Expr} {d : Ex} {ds : Exs} {C : Cs} {n i : Nat} {x : Str}
theorem je_call (c : Cal X T n C x i) (hr : Room n X.A) (tk : Takes X Wi) (hg : Gl X x) (h : JA X T Wi (e :: es) ds) (hdb : (x == ("__debug__" : Str)) = false := by decide)
    (he : starEach (e :: es) X.env = (false, eval e X.env) :: starEach es X.env := by rfl) (hpl : (backTo pos (starEach es X.env)).any (·.1) = false := by rfl) : JE X T Wi (.Call (.Name x p) (e :: es) [] pos) (dCall C i ds) := by
  obtain ⟨a, fd, ps, hm, hk, hb, F⟩ := c.ex
  refine (pe_callS F hr hg hm hk hb (fun σ => passAt tk σ) h hdb he hpl).impD fun σ H Q q => ?_
  obtain ⟨B, env, w, F, O, M, s, q⟩ := q
  refine ⟨B, env, w, F, O, M, s, q.bind.imp fun rs w1 q1 vs H1 F1 M1 s1 st1 p1 => ?_⟩
  refine ⟨F1, M1, rs, w1, s1.fh, s1.nt, s1.wr, s1.tb, p1, ?_⟩
  cases ec : C.call i rs w1 with
  | stuck => rw [ec] at q1; exact q1.elim
  | ok r w2 =>
    rw [ec] at q1
    intro v H2 F2 M2 fh nt wr tb st2 r2
    exact q1 v H2 F2 M2 (s1.step st2 fh nt wr tb) (st1.trans st2) (RV.since (isAt_nil r2) st1.th)
  | exc x' env' w2 =>
    rw [ec] at q1
    intro cls d' H2 F2 M2 fh nt wr tb st2 r2
    exact q1 cls d' σ H2 F2 O M2 (s1.step st2 fh nt wr tb) r2
end
/-! ### calls of built-ins -/
def CaS (X : Cx) (f : Value) (g : List D → Option RV) : Prop :=
  ∃ r, CallR X f r ∧ ∀ xs ds rv H F, Same F H → NoTbl F → Paired (Rv X.K F H) xs ds → g ds = some rv → ∀ Q : VK, (∀ v H' F', Xt H F H' F' → rv.newAt X.K H H' F' v → Q v H') → r xs H Q
def vals : List RV → Option (List D)
  | [] => some []
  | r :: rs => match r.val, vals rs with
    | some d, some ds => some (d :: ds)
    | _, _ => none
def dBlt (g : List D → Option RV) (es : Exs) : Ex := fun env w => (es env w).bind fun rs w1 => match vals rs with
  | some ds => lift (g ds) w1
  | none => .stuck
theorem vals_at {X : Tx} {B : Base} {env : Ev} {w : World} {σ : St} {Hs H F : Hp} {O : Nat → Addr} {M : List Addr} (s : SR X B env w σ H F O M) : ∀ {vs : List V} {rs : List RV} {ds : List D}, Paired (fun v r => RV.isAt X Hs env O H F M v r) vs rs → vals rs = some ds → Paired (Rv X.K F H) vs ds
  | _, _, _, .nil, e => by cases e; exact .nil
  | _, r :: rs, ds, .cons h t, e => by
    unfold vals at e
    split at e
    · rename_i d ds' e1 e2
      cases e
      exact .cons (RV.rv s h e1) (vals_at s t e2)
    · cases e
section
variable {X : Cx} {T : List NTab} {Wi : WX} {pos p : Pos} {e : Expr} {es : List Expr} {d : Ex} {ds : Exs} {x : Str}
theorem blt_read {g : List D → Option RV} {r : List V → Hp → VK → Prop} (hr : ∀ xs ds rv H F, Same F H → NoTbl F → Paired (Rv X.K F H) xs ds → g ds = some rv → ∀ Q : VK, (∀ v H' F', Xt H F H' F' → rv.newAt X.K H H' F' v → Q v H') → r xs H Q)
    {σ : St} {H : Hp} {Q : VK} (q : tD (Cx.tx X T) Wi (dBlt g ds) σ H Q) : tR (Cx.tx X T) Wi ds σ H (fun vs H1 => r vs H1 Q) := by
  obtain ⟨B, env, w, F, O, M, s, q⟩ := q
  refine ⟨B, env, w, F, O, M, s, q.bind.imp fun rs w1 q1 vs H1 F1 M1 s1 st1 p1 => ?_⟩
  split at q1
  · rename_i l el
    obtain ⟨rv, e, q3⟩ := q1.lift
    refine hr vs l rv H1 F1 s1.fh s1.nt (vals_at s1 p1 el) e Q fun v H' F' xt nw => ?_
    exact q3 v H' F' M1 (s1.xt xt) (st1.trans xt.stp) (RV.of_new nw s1 st1.th)
  · exact q1.elim
theorem je_blt {id : String} {g : List D → Option RV} (hc : CaS X (.builtin id) g) (hg : Gl X x) (hm : X.mg x = none) (hv : bootBuiltins x = some (.builtin id)) (h : JR X T Wi (e :: es) ds)
    (hd : (x == ("__debug__" : Str)) = false := by decide) (hn : x ≠ "__name__" := by decide)
    (he : starEach (e :: es) X.env = (false, eval e X.env) :: starEach es X.env := by rfl) (hpl : (backTo pos (starEach es X.env)).any (·.1) = false := by rfl) : JE X T Wi (.Call (.Name x p) (e :: es) [] pos) (dBlt g ds) := by
  obtain ⟨r, hc, hr⟩ := hc
  exact (pe_callB hc hg hm hv h hn hd he hpl).impD fun σ H Q q => blt_read hr q
theorem je_bty {id : String} {g : List D → Option RV} (hc : CaS X (.type id) g) (hg : Gl X x) (hm : X.mg x = none) (hv : bootBuiltins x = some (.type id)) (h : JR X T Wi (e :: es) ds)
    (hd : (x == ("__debug__" : Str)) = false := by decide) (hn : x ≠ "__name__" := by decide)
    (he : starEach (e :: es) X.env = (false, eval e X.env) :: starEach es X.env := by rfl) (hpl : (backTo pos (starEach es X.env)).any (·.1) = false := by rfl) : JE X T Wi (.Call (.Name x p) (e :: es) [] pos) (dBlt g ds) := by
  obtain ⟨r, hc, hr⟩ := hc
  exact (pe_callTy hc hg hm hv h hn hd he hpl).impD fun σ H Q q => blt_read hr q
end
end Dl
/-! DlF: the built-in functions on data; isinstance. -/
namespace Dl
open PySem PySem.Spec PyProof.Rows L2 NdefX
def intsOf : List D → Option (List Int)
  | [] => some []
  | .int i :: l => (intsOf l).map (i :: ·)
  | _ :: _ => none
def bolsOf : List D → Option (List Bool)
  | [] => some []
  | .bl i :: l => (bolsOf l).map (i :: ·)
  | _ :: _ => none
theorem ints_at {K : PySem.W.Frag} {F : Hp} : ∀ {vs : List V} {l : List D} {ns : List Int}, Paired (Rp K F) vs l → intsOf l = some ns → vs = ns.map V.int
  | _, _, _, .nil, e => by cases e; rfl
  | v :: vs, d :: l, ns, .cons h t, e => by
    cases d <;> first | (simp only [intsOf] at e; cases e; done) | skip
    rename_i i
    simp only [intsOf] at e
    cases q : intsOf l with
    | none => rw [q] at e; cases e
    | some ms =>
      rw [q] at e
      simp only [Option.map_some, Option.some.injEq] at e; subst e
      cases h
      rw [ints_at t q]
      rfl
theorem bols_at {K : PySem.W.Frag} {F : Hp} : ∀ {vs : List V} {l : List D} {ns : List Bool}, Paired (Rp K F) vs l → bolsOf l = some ns → vs = ns.map V.bl
  | _, _, _, .nil, e => by cases e; rfl
  | v :: vs, d :: l, ns, .cons h t, e => by
    cases d <;> first | (simp only [bolsOf] at e; cases e; done) | skip
    rename_i i
    simp only [bolsOf] at e
    cases q : bolsOf l with
    | none => rw [q] at e; cases e
    | some ms =>
      rw [q] at e
      simp only [Option.map_some, Option.some.injEq] at e; subst e
      cases h
      rw [bols_at t q]
      rfl
@[simp] theorem intsOf_map (ns : List Int) : intsOf (ns.map D.int) = some ns := by
  induction ns with
  | nil => rfl
  | cons n ns ih => simp [intsOf, ih]
@[simp] theorem bolsOf_map (ns : List Bool) : bolsOf (ns.map D.bl) = some ns := by
  induction ns with
  | nil => rfl
  | cons n ns ih => simp [bolsOf, ih]
/-- the items of a list or tuple -/
def D.items : D → Option (List D)
  | .lst l => some l
  | .tup l => some l
  | _ => none
theorem rv_items {K : PySem.W.Frag} {F H : Hp} {v : V} {d : D} {l : List D} (fh : Same F H) (h : Rv K F H v d) (e : d.items = some l) : l.length ≤ sizeLine ∧ ∃ p vs, v = .ref p ∧ (SqL K H p vs ∨ SqT K H p vs) ∧ Paired (Rp K F) vs l := by
  cases d with
  | lst m => cases e; obtain ⟨hz, p, vs, e1, h1, h2⟩ := h; exact ⟨hz, p, vs, e1, .inl h1, h2⟩
  | tup m => cases e; cases h with | tup hz h1 h2 => exact ⟨hz, _, _, rfl, .inr (sqT_mono fh h1), h2⟩
  | _ => cases e
def cLen : List D → Option RV
  | [.str s] => some (.dat (.int s.length))
  | [.lst l] => some (.dat (.int l.length))
  | [.tup l] => some (.dat (.int l.length))
  | _ => none
def cInt : List D → Option RV
  | [.int i] => some (.dat (.int i))
  | [.bl b] => some (.dat (.int (if b then 1 else 0)))
  | _ => none
def cTuple : List D → Option RV
  | [.lst l] => some (.dat (.tup l))
  | [.tup l] => some (.dat (.tup l))
  | _ => none
def cList : List D → Option RV
  | [.lst l] => some (.fresh l)
  | [.tup l] => some (.fresh l)
  | _ => none
def cSum : List D → Option RV
  | [.lst l] => (intsOf l).map fun ns => .dat (.int ns.sum)
  | _ => none
def cAll : List D → Option RV
  | [.lst l] => (bolsOf l).map fun ns => .dat (.bl (ns.all id))
  | _ => none
def cAny : List D → Option RV
  | [.lst l] => (bolsOf l).map fun ns => .dat (.bl (ns.any id))
  | _ => none
def cMax2 : List D → Option RV
  | [.int i, .int j] => some (.dat (.int (if j > i then j else i)))
  | _ => none
def cMin2 : List D → Option RV
  | [.int i, .int j] => some (.dat (.int (if j < i then j else i)))
  | _ => none
def cAbs : List D → Option RV
  | [.int i] => some (.dat (.int (if i < 0 then -i else i)))
  | _ => none
section
variable {X : Cx}
theorem cs_len : CaS X (.builtin "len") cLen := by
  refine ⟨_, call_len_str.or call_len_seq, fun xs ds rv H F fh nt p h Q q => ?_⟩
  unfold cLen at h
  split at h
  · simp only [Option.some.injEq] at h; subst h
    cases p with | cons h1 h2 => cases h2; cases h1 with | str _ ok => exact .inl ⟨_, rfl, ok.2, new_val fh nt q (.int _)⟩
  · simp only [Option.some.injEq] at h; subst h
    cases p with
    | cons h1 h2 =>
      cases h2
      obtain ⟨_, a, vs, e, h3, h4⟩ := h1
      subst e
      refine .inr ⟨a, vs, rfl, .inl h3, ?_⟩
      rw [h4.length]
      exact new_val fh nt q (.int _)
  · simp only [Option.some.injEq] at h; subst h
    cases p with
    | cons h1 h2 =>
      cases h2
      cases h1 with
      | tup hz h3 h4 =>
        refine .inr ⟨_, _, rfl, .inr (sqT_mono fh h3), ?_⟩
        rw [h4.length]
        exact new_val fh nt q (.int _)
  · cases h
theorem cs_int : CaS X (.type "int") cInt := by
  refine ⟨_, call_int1, fun xs ds rv H F fh nt p h Q q => ?_⟩
  unfold cInt at h
  split at h
  · simp only [Option.some.injEq] at h; subst h
    cases p with | cons h1 h2 => cases h2; cases h1; exact .inl ⟨_, rfl, new_val fh nt q (.int _)⟩
  · simp only [Option.some.injEq] at h; subst h
    cases p with | cons h1 h2 => cases h2; cases h1; exact .inr ⟨_, rfl, new_val fh nt q (.int _)⟩
  · cases h
theorem cs_tuple : CaS X (.type "tuple") cTuple := by
  refine ⟨_, call_tuple_of, fun xs ds rv H F fh nt p h Q q => ?_⟩
  unfold cTuple at h
  split at h
  · simp only [Option.some.injEq] at h; subst h
    cases p with
    | cons h1 h2 =>
      cases h2
      obtain ⟨hz, a, vs, e, h3, h4⟩ := h1
      subst e
      exact ⟨a, vs, rfl, .inl ⟨h3, fun p hp => new_tup fh nt q hp hz h4⟩⟩
  · simp only [Option.some.injEq] at h; subst h
    cases p with
    | cons h1 h2 =>
      cases h2
      cases h1 with
      | tup hz h3 h4 => exact ⟨_, _, rfl, .inr ⟨sqT_mono fh h3, new_val fh nt q (.tup hz h3 h4)⟩⟩
  · cases h
theorem cs_list : CaS X (.type "list") cList := by
  refine ⟨_, call_list_of, fun xs ds rv H F fh nt p h Q q => ?_⟩
  unfold cList at h
  split at h
  · simp only [Option.some.injEq] at h; subst h
    cases p with
    | cons h1 h2 =>
      cases h2
      obtain ⟨hz, a, vs, e, h3, h4⟩ := h1
      subst e
      exact ⟨a, vs, rfl, .inl h3, fun p hp => new_lst fh nt q hp hz h4⟩
  · simp only [Option.some.injEq] at h; subst h
    cases p with
    | cons h1 h2 =>
      cases h2
      cases h1 with
      | tup hz h3 h4 => exact ⟨_, _, rfl, .inr (sqT_mono fh h3), fun p hp => new_lst fh nt q hp hz h4⟩
  · cases h
theorem cs_sum (hc : X.calm = true) : CaS X (.builtin "sum") cSum := by
  refine ⟨_, cr_sum hc, fun xs ds rv H F fh nt p h Q q => ?_⟩
  unfold cSum at h
  split at h
  · rename_i l
    cases e : intsOf l with
    | none => rw [e] at h; cases h
    | some ns =>
      rw [e] at h
      simp only [Option.map_some, Option.some.injEq] at h; subst h
      cases p with
      | cons h1 h2 =>
        cases h2
        obtain ⟨hz, a, vs, e1, h3, h4⟩ := h1
        subst e1
        rw [ints_at h4 e] at h3
        exact ⟨a, ns, rfl, h3, new_val fh nt q (.int _)⟩
  · cases h
theorem cs_all (hc : X.calm = true) : CaS X (.builtin "all") cAll := by
  refine ⟨_, cr_all hc, fun xs ds rv H F fh nt p h Q q => ?_⟩
  unfold cAll at h
  split at h
  · rename_i l
    cases e : bolsOf l with
    | none => rw [e] at h; cases h
    | some ns =>
      rw [e] at h
      simp only [Option.map_some, Option.some.injEq] at h; subst h
      cases p with
      | cons h1 h2 =>
        cases h2
        obtain ⟨hz, a, vs, e1, h3, h4⟩ := h1
        subst e1
        rw [bols_at h4 e] at h3
        exact ⟨a, ns, rfl, h3, new_val fh nt q (.bl _)⟩
  · cases h
theorem cs_any (hc : X.calm = true) : CaS X (.builtin "any") cAny := by
  refine ⟨_, cr_any hc, fun xs ds rv H F fh nt p h Q q => ?_⟩
  unfold cAny at h
  split at h
  · rename_i l
    cases e : bolsOf l with
    | none => rw [e] at h; cases h
    | some ns =>
      rw [e] at h
      simp only [Option.map_some, Option.some.injEq] at h; subst h
      cases p with
      | cons h1 h2 =>
        cases h2
        obtain ⟨hz, a, vs, e1, h3, h4⟩ := h1
        subst e1
        rw [bols_at h4 e] at h3
        exact ⟨a, ns, rfl, h3, new_val fh nt q (.bl _)⟩
  · cases h
theorem cs_max2 (hc : X.calm = true) : CaS X (.builtin "max") cMax2 := by
  refine ⟨_, call_max2 hc, fun xs ds rv H F fh nt p h Q q => ?_⟩
  unfold cMax2 at h
  split at h
  · simp only [Option.some.injEq] at h; subst h
    cases p with | cons h1 h2 => cases h2 with | cons h3 h4 => cases h4; cases h1; cases h3; exact ⟨_, _, rfl, new_val fh nt q (.int _)⟩
  · cases h
theorem cs_min2 (hc : X.calm = true) : CaS X (.builtin "min") cMin2 := by
  refine ⟨_, call_min2 hc, fun xs ds rv H F fh nt p h Q q => ?_⟩
  unfold cMin2 at h
  split at h
  · simp only [Option.some.injEq] at h; subst h
    cases p with | cons h1 h2 => cases h2 with | cons h3 h4 => cases h4; cases h1; cases h3; exact ⟨_, _, rfl, new_val fh nt q (.int _)⟩
  · cases h
theorem cs_abs : CaS X (.builtin "abs") cAbs := by
  refine ⟨_, call_abs, fun xs ds rv H F fh nt p h Q q => ?_⟩
  unfold cAbs at h
  split at h
  · simp only [Option.some.injEq] at h; subst h
    cases p with | cons h1 h2 => cases h2; cases h1; exact ⟨_, rfl, new_val fh nt q (.int _)⟩
  · cases h
end
/-! ### isinstance -/
def D.tyName : D → String
  | .non => "NoneType"
  | .bl _ => "bool"
  | .int _ => "int"
  | .str _ => "str"
  | .lst _ => "list"
  | .tup _ => "tuple"
inductive Ty where
  | int | bool | str | tuple | list
def Ty.nm : Ty → String
  | .int => "int"
  | .bool => "bool"
  | .str => "str"
  | .tuple => "tuple"
  | .list => "list"
def D.isTy : D → Ty → Bool
  | .int _, .int => true
  | .bl _, .int => true
  | .bl _, .bool => true
  | .str _, .str => true
  | .tup _, .tuple => true
  | .lst _, .list => true
  | _, _ => false
theorem kit_isTy (d : D) (t : Ty) : kitB d.tyName t.nm = some (d.isTy t) := by
  cases d <;> cases t <;> (show kitB _ _ = some _; simp only [D.tyName, Ty.nm, D.isTy]; decide +kernel)
def gIsi (ts : List Ty) (d : D) : Option RV := some (.dat (.bl (ts.any d.isTy)))
theorem tyX_of {K : PySem.W.Frag} {F H : Hp} {v : V} {d : D} (fh : Same F H) (h : Rv K F H v d) : TyX K H v (.type d.tyName) := by
  cases d with
  | non => cases h; exact .base .non
  | bl b => cases h; exact .base (.bl b)
  | int i => cases h; exact .base (.int i)
  | str s => cases h; exact .base (.str s)
  | lst l =>
    obtain ⟨_, p, vs, e, h1, _⟩ := h
    subst e
    rcases h1 with (h1 | ⟨o, h1⟩) | ⟨o, its, n, h1, h2, _⟩
    · exact .base (.lst h1)
    · exact .base (.frz h1)
    · exact .kList h1 h2
  | tup l =>
    cases h with
    | tup hz h1 _ =>
      rcases h1 with (h1 | ⟨o, h1⟩) | ⟨o, its, n, h1, h2, _⟩
      · exact .base (.tup (fh _ _ h1))
      · exact .fTuple (fh _ _ h1)
      · exact .kTuple h1 h2
section
variable {X : Cx} {T : List NTab} {Wi : WX} {pos p p1 p2 pt : Pos} {a : Expr} {da : Ex} {x : Str}
theorem je_isi {t : Ty} {y : Str} (hg : Gl X "isinstance") (hm : X.mg "isinstance" = none) (hgt : Gl X y) (hmt : X.mg y = none) (hvt : bootBuiltins y = some (.type t.nm)) (ha : JE X T Wi a da)
    (hnt : y ≠ "__name__" := by decide) (hdt : (y == ("__debug__" : Str)) = false := by decide)
    (he : starEach (a :: [.Name y p1]) X.env = (false, eval a X.env) :: starEach [.Name y p1] X.env := by rfl) (hpl : (backTo pos (starEach [.Name y p1] X.env)).any (·.1) = false := by rfl)
    (he2 : starEach [.Name y p1] X.env = (false, eval (.Name y p1) X.env) :: starEach [] X.env := by rfl) : JE X T Wi (.Call (.Name "isinstance" p) [a, .Name y p1] [] pos) (dUn (gIsi [t]) da) := by
  refine (pe_callB call_isi hg hm boot_isinstance (pa_cons ha (pa_cons (pe_bltn hgt hmt hvt (v := .ty t.nm) rfl hnt hdt) pa_nil he2) he) (by decide) (by decide) he hpl).impD fun σ H Q q => ?_
  refine un_read (r := fun x H1 Q => rIsi X.K [x, .ty t.nm] H1 Q) (fun x d rv H F fh nt rx h Q q => ?_) q
  simp only [gIsi, Option.some.injEq] at h; subst h
  refine ⟨x, .ty t.nm, .type d.tyName, .type t.nm, d.isTy t, rfl, .ty _, tyX_of fh rx, kit_ty (kit_isTy d t), ?_⟩
  refine new_val fh nt q ?_
  simp only [List.any_cons, List.any_nil, Bool.or_false]
  exact .bl _
theorem je_isi2 {t t2 : Ty} {y z : Str} {k : Nat} (hg : Gl X "isinstance") (hm : X.mg "isinstance" = none) (hgt : Gl X y) (hmt : X.mg y = none) (hvt : bootBuiltins y = some (.type t.nm)) (hgz : Gl X z) (hmz : X.mg z = none) (hvz : bootBuiltins z = some (.type t2.nm)) (ha : JE X T Wi a da)
    (hnt : y ≠ "__name__" := by decide) (hdt : (y == ("__debug__" : Str)) = false := by decide) (hnz : z ≠ "__name__" := by decide) (hdz : (z == ("__debug__" : Str)) = false := by decide)
    (he : starEach (a :: [.Tuple [.Name y p1, .Name z p2] k pt]) X.env = (false, eval a X.env) :: starEach [.Tuple [.Name y p1, .Name z p2] k pt] X.env := by rfl) (hpl : (backTo pos (starEach [.Tuple [.Name y p1, .Name z p2] k pt] X.env)).any (·.1) = false := by rfl)
    (he2 : starEach [.Tuple [.Name y p1, .Name z p2] k pt] X.env = (false, eval (.Tuple [.Name y p1, .Name z p2] k pt) X.env) :: starEach [] X.env := by rfl)
    (he3 : starEach [.Name y p1, .Name z p2] X.env = (false, eval (.Name y p1) X.env) :: starEach [.Name z p2] X.env := by rfl) (he4 : starEach [.Name z p2] X.env = (false, eval (.Name z p2) X.env) :: starEach [] X.env := by rfl) :
    JE X T Wi (.Call (.Name "isinstance" p) [a, .Tuple [.Name y p1, .Name z p2] k pt] [] pos) (dUn (gIsi [t, t2]) da) := by
  refine (pe_callB call_isiT hg hm boot_isinstance (pa_cons ha (pa_cons (pe_tup (pa_cons (pe_bltn hgt hmt hvt (v := .ty t.nm) rfl hnt hdt) (pa_cons (pe_bltn hgz hmz hvz (v := .ty t2.nm) rfl hnz hdz) pa_nil he4) he3)) pa_nil he2) he) (by decide) (by decide) he hpl).impD fun σ H Q q => ?_
  refine un_read (r := fun x H1 Q => tCons (tTup (tCons (tC (.ty t.nm)) (tCons (tC (.ty t2.nm)) tNil))) tNil σ H1 fun xs H2 => rIsiT X.K (x :: xs) H2 Q) (fun x d rv H F fh nt rx h Q q => ?_) q
  simp only [gIsi, Option.some.injEq] at h; subst h
  refine ⟨by show 2 ≤ sizeLine; rw [sizeLine_eq]; decide, fun tp ht => ?_⟩
  have xt : Xt H F (upd H tp (.tup [.ty t.nm, .ty t2.nm])) F := ⟨same_upd ht, Same.refl _, fh.trans (same_upd ht), fun _ _ e => e, nt⟩
  refine ⟨x, tp, [.ty t.nm, .ty t2.nm], .type d.tyName, [.type t.nm, .type t2.nm], d.isTy t || d.isTy t2, rfl, upd_same, .cons (.ty _) (.cons (.ty _) .nil), ?_, ?_, ?_⟩
  · have rx' : Rv X.K F (upd H tp (.tup [.ty t.nm, .ty t2.nm])) x d := by
      cases d with
      | lst l => obtain ⟨hz, p, vs, e, h1, h2⟩ := rx; exact ⟨hz, p, vs, e, xt.hh.seq h1, h2⟩
      | _ => exact rx
    exact tyX_of xt.fh rx'
  · refine kitAny_cons (kit_ty (kit_isTy d t)) (fun e => ?_) (fun e => ?_)
    · rw [e, Bool.false_or]
      exact kitAny_cons (kit_ty (kit_isTy d t2)) (fun e => by rw [e]; exact kitAny_nil) (fun e => by rw [e])
    · rw [e, Bool.true_or]
  · refine q _ _ _ xt ?_
    simp only [List.any_cons, List.any_nil, Bool.or_false]
    exact .bl _
end
end Dl
/-! DlG: what is walked; targets; list comprehensions. -/
namespace Dl
open PySem PySem.Spec PyProof.Rows L2 NdefX
/-! ### sources -/
abbrev Src := Ev → World → Out (List D)
structure Walk (K : PySem.W.Frag) (l : List D) (F0 : Hp) (J : It) : Prop where
  bd : l.length ≤ sizeLine
  go : ∀ i H F, Same F0 F → Same F H → i < l.length → J.go i H
  stop : ∀ i H F, Same F0 F → Same F H → l.length ≤ i → J.stop i H
  yld : ∀ i H F x H' d, Same F0 F → Same F H → NoTbl F → J.yld i H x H' → l[i]? = some d → ∃ F', Xt H F H' F' ∧ Rp K F' x d
def tIt (X : Tx) (Wi : WX) (e : Src) : TI := fun σ H R => ∃ B env w F O M, SR X B env w σ H F O M ∧
  Pst (e env w) (fun l w' => ∀ J H' F' M', SR X B env w' σ H' F' O M' → Stp H F M H' F' M' → Walk X.K l F' J → R J H') (badX X B Wi)
abbrev JI (X : Cx) (T : List NTab) (Wi : WX) (tg it : Expr) (d : Src) : Prop := PI X tg it (tIt (Cx.tx X T) Wi d)
def RV.its (r : RV) : Option (List D) := match r.arg with
  | some (.dat d) => d.items
  | _ => none
/-- a list or a tuple -/
def iSeq (e : Ex) : Src := fun env w => (e env w).bind fun r w1 => match r.its with
  | some l => .ok l w1
  | none => .stuck
theorem walk_lst {K : PySem.W.Frag} {F : Hp} {a : Addr} {vs : List V} {l : List D} (hz : l.length ≤ sizeLine) (h : SqL K F a vs) (p : Paired (Rp K F) vs l) : Walk K l F (Itl K a) := by
  refine ⟨hz, fun i H F1 e1 e2 hi => ?_, fun i H F1 e1 e2 hi => ?_, fun i H F1 x H' d e1 e2 nt y hd => ?_⟩
  · have hv : i < vs.length := by rw [p.length]; exact hi
    exact ⟨vs, vs[i], e2.seq (e1.seq h), List.getElem?_eq_getElem hv⟩
  · exact ⟨vs, e2.seq (e1.seq h), by rw [p.length]; exact hi⟩
  · obtain ⟨rfl, y⟩ := y
    have q := y vs (e2.seq (e1.seq h))
    obtain ⟨v, ev, rv⟩ := Pr.get p hd
    rw [ev] at q; cases q
    exact ⟨F1, Xt.refl e2 nt, rv.mono e1⟩
theorem walk_tup {K : PySem.W.Frag} {F : Hp} {a : Addr} {vs : List V} {l : List D} (hz : l.length ≤ sizeLine) (h : SqT K F a vs) (p : Paired (Rp K F) vs l) : Walk K l F (Itt K a) := by
  refine ⟨hz, fun i H F1 e1 e2 hi => ?_, fun i H F1 e1 e2 hi => ?_, fun i H F1 x H' d e1 e2 nt y hd => ?_⟩
  · have hv : i < vs.length := by rw [p.length]; exact hi
    exact ⟨vs, vs[i], sqT_mono e2 (sqT_mono e1 h), List.getElem?_eq_getElem hv⟩
  · exact ⟨vs, sqT_mono e2 (sqT_mono e1 h), by rw [p.length]; exact hi⟩
  · obtain ⟨rfl, y⟩ := y
    have q := y vs (sqT_mono e2 (sqT_mono e1 h))
    obtain ⟨v, ev, rv⟩ := Pr.get p hd
    rw [ev] at q; cases q
    exact ⟨F1, Xt.refl e2 nt, rv.mono e1⟩
theorem walk_rng {K : PySem.W.Frag} {F : Hp} {lo : Int} {n : Nat} {l : List D} (hz : n ≤ sizeLine) (hl : l = (List.range n).map fun (i : Nat) => D.int (lo + i)) : Walk K l F (Itr lo n) := by
  subst hl
  refine ⟨by simpa using hz, fun i H F1 e1 e2 hi => by show i < n; simpa using hi, fun i H F1 e1 e2 hi => by show n ≤ i; simpa using hi, fun i H F1 x H' d e1 e2 nt y hd => ?_⟩
  obtain ⟨rfl, rfl⟩ := y
  simp only [List.getElem?_map, List.getElem?_range] at hd
  by_cases hi : i < n
  · rw [List.getElem?_range hi] at hd
    simp only [Option.map_some, Option.some.injEq] at hd; subst hd
    exact ⟨F1, Xt.refl e2 nt, .int _⟩
  · rw [List.getElem?_eq_none (by simpa using hi)] at hd; cases hd
section
variable {X : Cx} {T : List NTab} {Wi : WX} {pos p : Pos} {e a b tg : Expr} {d : Ex} {ds : Exs}
theorem pi_or {wi wi' : TI} (h : PI X tg e wi) (h' : PI X tg e wi') : PI X tg e (fun σ H R => wi σ H R ∨ wi' σ H R) :=
  ⟨fun pins s σ H R I q => q.elim (h.run pins s σ H R I) (h'.run pins s σ H R I)⟩
theorem _root_.L2.PI.impD {t t' : TI} (h : PI X tg e t) (k : ∀ σ H Q, t' σ H Q → t σ H Q) : PI X tg e t' := ⟨fun pins s σ H Q I q => h.run pins s σ H Q I (k σ H Q q)⟩
theorem ji_seq (h : JE X T Wi e d) : JI X T Wi tg e (iSeq d) := by
  refine (pi_or (pi_list h) (pi_tup h)).impD fun σ H Q q => ?_
  obtain ⟨B, env, w, F, O, M, s, q⟩ := q
  have q := q.bind
  cases eo : d env w with
  | stuck => rw [eo] at q; exact q.elim
  | exc x env' w' =>
    rw [eo] at q
    exact .inl ⟨B, env, w, F, O, M, s, by rw [eo]; exact q⟩
  | ok r w1 =>
    rw [eo] at q
    have q1 : Pst (match r.its with
      | some l => Out.ok l w1
      | none => .stuck) _ _ := q
    split at q1
    · rename_i l el
      unfold RV.its at el
      split at el
      · rename_i dd ea
        cases dd with
        | lst m =>
          cases el
          refine .inl ⟨B, env, w, F, O, M, s, ?_⟩
          rw [eo]
          intro v H1 F1 M1 s1 st1 r1
          obtain ⟨F2, s2, st2, a2⟩ := keep_arg s s1 st1 r1 ea
          cases a2 with
          | lst hz h1 h2 => exact ⟨_, rfl, ⟨_, s2.fh.seq h1⟩, q1 _ H1 F2 M1 s2 st2 (walk_lst hz h1 h2)⟩
        | tup m =>
          cases el
          refine .inr ⟨B, env, w, F, O, M, s, ?_⟩
          rw [eo]
          intro v H1 F1 M1 s1 st1 r1
          obtain ⟨F2, s2, st2, a2⟩ := keep_arg s s1 st1 r1 ea
          cases a2 with
          | tup hz h1 h2 => exact ⟨_, rfl, ⟨_, sqT_mono s2.fh h1⟩, q1 _ H1 F2 M1 s2 st2 (walk_tup hz h1 h2)⟩
        | _ => cases el
      · cases el
    · exact q1.elim
/-- range -/
def rngD (lo hi : Int) : List D := (List.range (hi - lo).toNat).map fun (i : Nat) => D.int (lo + i)
def iRange (g : List D → Option (Int × Int)) (es : Exs) : Src := fun env w => (es env w).bind fun rs w1 => match vals rs with
  | some ds => (match g ds with
    | some (lo, hi) => if (hi - lo).toNat ≤ 16777216 ∧ -(2 ^ 62) ≤ lo ∧ lo < 2 ^ 62 ∧ -(2 ^ 62) ≤ hi ∧ hi < 2 ^ 62 then .ok (rngD lo hi) w1 else .stuck
    | none => .stuck)
  | none => .stuck
def rg1 : List D → Option (Int × Int)
  | [.int j] => some (0, j)
  | _ => none
def rg2 : List D → Option (Int × Int)
  | [.int i, .int j] => some (i, j)
  | _ => none
theorem ji_range1 (hg : Gl X "range") (hm : X.mg "range" = none) (h : JR X T Wi [a] ds) (hs : starEach [a] X.env = [(false, eval a X.env)] := by rfl) : JI X T Wi tg (.Call (.Name "range" p) [a] [] pos) (iRange rg1 ds) := by
  refine (pi_range1 hg hm h hs).impD fun σ H Q q => ?_
  obtain ⟨B, env, w, F, O, M, s, q⟩ := q
  refine ⟨B, env, w, F, O, M, s, q.bind.imp fun rs w1 q1 vs H1 F1 M1 s1 st1 p1 => ?_⟩
  split at q1
  · rename_i l el
    split at q1
    · rename_i lo hi eg
      split at q1
      · rename_i hc
        have pv := vals_at s1 p1 el
        unfold rg1 at eg
        split at eg
        · cases eg
          cases pv with
          | cons h1 h2 =>
            cases h2; cases h1
            refine ⟨_, rfl, hc.2.2.2.1, hc.2.2.2.2, q1 _ H1 F1 M1 s1 st1 ?_⟩
            have := hc.1
            refine walk_rng (by rw [sizeLine_eq]; omega) ?_
            unfold rngD
            rw [Int.sub_zero]
        · cases eg
      · exact q1.elim
    · exact q1.elim
  · exact q1.elim
theorem ji_range2 (hg : Gl X "range") (hm : X.mg "range" = none) (h : JR X T Wi [a, b] ds) (hs : starEach [a, b] X.env = [(false, eval a X.env), (false, eval b X.env)] := by rfl) (hs2 : starEach [b] X.env = [(false, eval b X.env)] := by rfl) :
    JI X T Wi tg (.Call (.Name "range" p) [a, b] [] pos) (iRange rg2 ds) := by
  refine (pi_range2 hg hm h hs hs2).impD fun σ H Q q => ?_
  obtain ⟨B, env, w, F, O, M, s, q⟩ := q
  refine ⟨B, env, w, F, O, M, s, q.bind.imp fun rs w1 q1 vs H1 F1 M1 s1 st1 p1 => ?_⟩
  split at q1
  · rename_i l el
    split at q1
    · rename_i lo hi eg
      split at q1
      · rename_i hc
        have pv := vals_at s1 p1 el
        unfold rg2 at eg
        split at eg
        · cases eg
          cases pv with
          | cons h1 h2 =>
            cases h2 with
            | cons h3 h4 =>
              cases h4; cases h1; cases h3
              refine ⟨_, _, rfl, hc.2, q1 _ H1 F1 M1 s1 st1 ?_⟩
              have := hc.1
              exact walk_rng (by rw [sizeLine_eq]; omega) rfl
        · cases eg
      · exact q1.elim
    · exact q1.elim
  · exact q1.elim
end
/-! ### targets -/
abbrev Tgt := D → Ev → Option Ev
abbrev Tgts := List D → Ev → Option Ev
def gN (i : Nat) : Tgt := fun d env => some (env.set i (.dat d))
def gT (n : Nat) (ts : Tgts) : Tgt := fun d env => match d with
  | .tup l => if l.length = n then ts l env else none
  | _ => none
def gsNil : Tgts := fun l env => match l with
  | [] => some env
  | _ => none
def gsCons (t : Tgt) (ts : Tgts) : Tgts := fun l env => match l with
  | d :: r => (t d env).bind fun env' => ts r env'
  | [] => none
section
variable {X : Tx} {B : Base} {env : Ev} {w : World} {σ : St} {H F : Hp} {O : Nat → Addr} {M : List Addr}
theorem SR.setDat {i : Nat} {v : V} {d : D} (s : SR X B env w σ H F O M) (r : Rp X.K F v d) : SR X B (env.set i (.dat d)) w (σ.set i (some v)) H F O M := by
  refine ⟨by simpa using s.len, s.fh, s.nt, s.st, s.wr, s.tb, fun j sl e => ?_, fun j k lj lk e1 e2 => ?_⟩
  · by_cases hj : i = j
    · subst hj
      have hlt : i < env.length := by simpa using (List.getElem?_eq_some_iff.mp e).1
      rw [List.getElem?_set_self hlt] at e
      cases e
      refine ⟨v, ?_, r⟩
      rw [List.getElem?_set_self (by rw [s.len]; exact hlt)]
    · rw [List.getElem?_set_ne hj] at e
      have := s.sl j sl e
      rw [List.getElem?_set_ne hj]
      exact this
  · have e1' : env[j]? = some (.own lj) := by
      by_cases hj : i = j
      · subst hj
        have hlt : i < env.length := by simpa using (List.getElem?_eq_some_iff.mp e1).1
        rw [List.getElem?_set_self hlt] at e1; cases e1
      · rw [List.getElem?_set_ne hj] at e1; exact e1
    have e2' : env[k]? = some (.own lk) := by
      by_cases hj : i = k
      · subst hj
        have hlt : i < env.length := by simpa using (List.getElem?_eq_some_iff.mp e2).1
        rw [List.getElem?_set_self hlt] at e2; cases e2
      · rw [List.getElem?_set_ne hj] at e2; exact e2
    exact s.inj j k lj lk e1' e2'
def wipeE (env : Ev) : List Nat → Ev
  | [] => env
  | v :: vs => (wipeE env vs).set v .un
theorem SR.setUn {i : Nat} (s : SR X B env w σ H F O M) : SR X B (env.set i .un) w (σ.set i none) H F O M := by
  refine ⟨by simpa using s.len, s.fh, s.nt, s.st, s.wr, s.tb, fun j sl e => ?_, fun j k lj lk e1 e2 => ?_⟩
  · by_cases hj : i = j
    · subst hj
      have hlt : i < env.length := by simpa using (List.getElem?_eq_some_iff.mp e).1
      rw [List.getElem?_set_self hlt] at e
      cases e
      trivial
    · rw [List.getElem?_set_ne hj] at e
      have := s.sl j sl e
      rw [List.getElem?_set_ne hj]
      exact this
  · have e1' : env[j]? = some (.own lj) := by
      by_cases hj : i = j
      · subst hj
        have hlt : i < env.length := by simpa using (List.getElem?_eq_some_iff.mp e1).1
        rw [List.getElem?_set_self hlt] at e1; cases e1
      · rw [List.getElem?_set_ne hj] at e1; exact e1
    have e2' : env[k]? = some (.own lk) := by
      by_cases hj : i = k
      · subst hj
        have hlt : i < env.length := by simpa using (List.getElem?_eq_some_iff.mp e2).1
        rw [List.getElem?_set_self hlt] at e2; cases e2
      · rw [List.getElem?_set_ne hj] at e2; exact e2
    exact s.inj j k lj lk e1' e2'
theorem SR.wipe (s : SR X B env w σ H F O M) : ∀ vs : List Nat, SR X B (wipeE env vs) w (L2.wipe σ vs) H F O M
  | [] => s
  | v :: vs => (SR.wipe s vs).setUn
theorem wipe_set {σ : St} {i : Nat} {x : Option V} : ∀ {vs : List Nat}, i ∈ vs → L2.wipe (σ.set i x) vs = L2.wipe σ vs
  | [], h => by cases h
  | v :: vs, h => by
    unfold L2.wipe
    by_cases hi : i ∈ vs
    · rw [wipe_set hi]
    · have hv : i = v := by
        rcases List.mem_cons.mp h with z | z
        · exact z
        · exact absurd z hi
      subst hv
      have go : ∀ {us : List Nat}, i ∉ us → L2.wipe (σ.set i x) us = (L2.wipe σ us).set i x := by
        intro us
        induction us with
        | nil => intro _; rfl
        | cons u us ih =>
          intro hu
          unfold L2.wipe
          rw [ih (fun z => hu (List.mem_cons_of_mem _ z)), List.set_comm _ _ (fun z => hu (by rw [z]; exact List.mem_cons_self))]
      rw [go hi, List.set_set]
end
/-- a target that stores into slots of vs alone -/
def tG (X : Tx) (g : Tgt) (vs : List Nat) : TG := fun v σ H Q => ∃ B env w F O M d env', SR X B env w σ H F O M ∧ Rp X.K F v d ∧ g d env = some env' ∧
  ∀ σ', SR X B env' w σ' H F O M → (∀ us : List Nat, (∀ i ∈ vs, i ∈ us) → wipe σ' us = wipe σ us) → Q σ' H
def tGs (X : Tx) (g : Tgts) (vs : List Nat) : TGs := fun v σ H Q => ∃ B env w F O M d env', SR X B env w σ H F O M ∧ Paired (Rp X.K F) v d ∧ g d env = some env' ∧
  ∀ σ', SR X B env' w σ' H F O M → (∀ us : List Nat, (∀ i ∈ vs, i ∈ us) → wipe σ' us = wipe σ us) → Q σ' H
abbrev JG (X : Cx) (T : List NTab) (tg : Expr) (g : Tgt) (vs : List Nat) : Prop := PG X tg (tG (Cx.tx X T) g vs)
abbrev JGs (X : Cx) (T : List NTab) (tg : List Expr) (g : Tgts) (vs : List Nat) : Prop := PGs X tg (tGs (Cx.tx X T) g vs)
section
variable {X : Cx} {T : List NTab} {pos : Pos} {e : Expr} {es : List Expr}
theorem _root_.L2.PG.impD {t t' : TG} (h : PG X e t) (k : ∀ v σ H Q, t' v σ H Q → t v σ H Q) : PG X e t' := ⟨fun pins s σ H v u Q I r q => h.run pins s σ H v u Q I r (k v σ H Q q)⟩
theorem _root_.L2.PGs.impD {t t' : TGs} (h : PGs X es t) (k : ∀ v σ H Q, t' v σ H Q → t v σ H Q) : PGs X es t' := ⟨fun pins s σ H v u Q I r q => h.run pins s σ H v u Q I r (k v σ H Q q)⟩
theorem jg_name {i : Nat} {x : Str} (h : PG X (.Name x pos) (gName i)) : JG X T (.Name x pos) (gN i) [i] := by
  refine h.impD fun v σ H Q q => ?_
  obtain ⟨B, env, w, F, O, M, d, env', s, r, e, q⟩ := q
  cases e
  exact q _ (s.setDat r) fun us hu => wipe_set (hu i (by simp))
theorem jgs_nil : JGs X T [] gsNil [] := pgs_nil.impD fun v σ H Q q => by
  obtain ⟨B, env, w, F, O, M, d, env', s, p, e, q⟩ := q
  unfold gsNil at e
  split at e
  · cases e
    cases p
    exact ⟨rfl, q σ s fun _ _ => rfl⟩
  · cases e
theorem jgs_cons {g : Tgt} {gs : Tgts} {vs us : List Nat} (h : JG X T e g vs) (hs : JGs X T es gs us) (hst : (assignEach (e :: es) X.env).map (·.2) = assign e X.env :: (assignEach es X.env).map (·.2) := by rfl) : JGs X T (e :: es) (gsCons g gs) (vs ++ us) := by
  refine (pgs_cons h hs hst).impD fun v σ H Q q => ?_
  obtain ⟨B, env, w, F, O, M, d, env', s, p, e, q⟩ := q
  unfold gsCons at e
  split at e
  · rename_i d0 r0
    cases eg : g d0 env with
    | none => rw [eg] at e; cases e
    | some env1 =>
      rw [eg] at e
      cases p with
      | @cons v0 _ vr _ p1 p2 =>
        refine ⟨v0, vr, rfl, B, env, w, F, O, M, d0, env1, s, p1, eg, fun σ1 s1 h1 => ?_⟩
        refine ⟨B, env1, w, F, O, M, r0, env', s1, p2, e, fun σ2 s2 h2 => q σ2 s2 fun ts ht => ?_⟩
        rw [h2 ts (fun i hi => ht i (List.mem_append_right _ hi)), h1 ts (fun i hi => ht i (List.mem_append_left _ hi))]
  · cases e
theorem jg_tup {k n : Nat} {gs : Tgts} {vs : List Nat} (hc : X.calm = true) (h : JGs X T es gs vs) (hn : (assignEach es X.env).length = n := by rfl) (hst : (assignEach es X.env).findIdx? (·.1) = none := by rfl) : JG X T (.Tuple es k pos) (gT n gs) vs := by
  refine (pg_tup hc h hn hst).impD fun v σ H Q q => ?_
  obtain ⟨B, env, w, F, O, M, d, env', s, p, e, q⟩ := q
  unfold gT at e
  split at e
  · split at e
    · rename_i hl
      cases p with
      | @tup a xs _ hz h1 h2 =>
        exact ⟨a, xs, rfl, sqT_mono s.fh h1, by rw [h2.length]; exact hl, B, env, w, F, O, M, _, env', s, h2, e, q⟩
    · cases e
  · cases e
end
/-! ### list comprehensions -/
def noX {α : Type} (o : Out α) : Out α := match o with
  | .ok a w => .ok a w
  | _ => .stuck
@[simp] theorem noX_ok {α : Type} (a : α) (w : World) : noX (.ok a w) = .ok a w := rfl
theorem Pst.noX {α : Type} {o : Out α} {g : α → World → Prop} {b b' : Exn → Ev → World → Prop} (h : Pst (Dl.noX o) g b) : Pst o g b' := by
  cases o with
  | ok a w => exact h
  | exc x e w => exact h.elim
  | stuck => exact h.elim
def RV.st : RV → Option D
  | .dat d => some d
  | .fresh l => some (.lst l)
  | _ => none
theorem st_arg {r : RV} {d : D} (h : r.st = some d) : r.arg = some (.dat d) := by
  cases r <;> first | (cases h; done) | (cases h; rfl)
def compGo (g : Tgt) (tt : Tst) (elt : Ex) (env0 : Ev) : List D → World → Out (List D)
  | [], w => .ok [] w
  | d :: ds, w => match g d env0 with
    | none => .stuck
    | some env1 => (noX (tt env1 w)).bind fun b w1 => if b = true then (noX (elt env1 w1)).bind fun r w2 => (match r.st with
        | some x => (compGo g tt elt env0 ds w2).bind fun xs w3 => .ok (x :: xs) w3
        | none => .stuck)
      else compGo g tt elt env0 ds w1
def dComp (src : Src) (vs : List Nat) (g : Tgt) (tt : Tst) (elt : Ex) : Ex := fun env w => (src env w).bind fun l w1 => (compGo g tt elt (wipeE env vs) l w1).bind fun xs w2 => .ok (.fresh xs) w2
def tYes' : Tst := fun _ w => .ok true w
abbrev noW : WX := fun _ _ _ _ => False
abbrev JTs (X : Cx) (T : List NTab) (es : List Expr) (d : Tst) : Prop := PTs X es (tT (Cx.tx X T) noW d)
section
variable {X : Cx} {T : List NTab} {Wi : WX} {pos : Pos}
theorem _root_.L2.PTs.impD {X : Cx} {es : List Expr} {t t' : TT} (h : PTs X es t) (k : ∀ σ H Q, t' σ H Q → t σ H Q) : PTs X es t' := ⟨fun pins s σ H Q I q => h.run pins s σ H Q I (k σ H Q q)⟩
theorem jts_nil : JTs X T [] tYes' := pts_nil.impD fun σ H Q q => by
  obtain ⟨B, env, w, F, O, M, s, q⟩ := q
  exact q H F M s .refl
theorem jts_one {c : Expr} {t : Tst} (h : JT X T noW c t) : JTs X T [c] t := pts_one h
theorem tab_updL {T : List NTab} {H : Hp} {D : Addr} {vs ws : List V} (t : TabsN T H) (e : H D = some (.lst vs)) : TabsN T (upd H D (.lst ws)) := fun p hp => by
  obtain ⟨ps, h1, h2, h3⟩ := t p hp
  have n1 : p.1 ≠ D := ne_of h1 e (by simp)
  refine ⟨ps, by rw [upd_ne n1]; exact h1, h2, fun pos cv hc => ?_⟩
  obtain ⟨c, e1, e2⟩ := h3 pos cv hc
  have n2 : c ≠ D := ne_of e2 e (by unfold LamX.CodeO; simp)
  exact ⟨c, e1, by rw [upd_ne n2]; exact e2⟩
theorem tab_new {T : List NTab} {H : Hp} {D : Addr} {o : HO} (t : TabsN T H) (e : H D = none) : TabsN T (upd H D o) := t.ext (same_upd e)
/-- a list that no one else knows is written -/
theorem SR.updFree {X : Tx} {B : Base} {env : Ev} {w : World} {σ : St} {H F : Hp} {O : Nat → Addr} {M : List Addr} {D : Addr} {vs ws : List V} (s : SR X B env w σ H F O M) (e : H D = some (.lst vs)) (hB : B.H D = none) (hF : F D = none) (hM : D ∉ M)
    (hO : ∀ i l, env[i]? = some (.own l) → O i ≠ D) : SR X B env w σ (upd H D (.lst ws)) F O M := by
  have ne : ∀ {a : Addr} {o : HO}, H a = some o → a ≠ D → upd H D (.lst ws) a = some o := fun h n => by rw [upd_ne n]; exact h
  refine ⟨s.len, fun b o q => ?_, s.nt, ⟨s.st.fg, fun a o hM' ht q => ?_, fun a h => ?_, s.st.nf, s.st.mw⟩, ⟨s.wr.nd, ?_⟩, tab_updL s.tb e, fun i sl e' => ?_, s.inj⟩
  · exact ne (s.fh _ _ q) (fun z => by subst z; rw [hF] at q; cases q)
  · exact ne (s.st.fr a o hM' ht q) (fun z => by subst z; rw [hB] at q; cases q)
  · by_cases z : a = D
    · subst z; rw [upd_same]; simp
    · rw [upd_ne z]; exact s.st.th a h
  · have go : ∀ {M : List Addr} {w : World}, D ∉ M → Paired (fun m o => F m = none ∧ WO.isAt X F H m o) M w → Paired (fun m o => F m = none ∧ WO.isAt X F (upd H D (.lst ws)) m o) M w := by
      intro M w hM h
      induction h with
      | nil => exact .nil
      | @cons m o _ _ h1 _ ih =>
        have nm : m ≠ D := fun z => hM (by rw [← z]; exact List.mem_cons_self)
        refine .cons ⟨h1.1, ?_⟩ (ih fun z => hM (List.mem_cons_of_mem _ z))
        cases o with
        | lst l => obtain ⟨_, ez, us, e1, e2⟩ := h1; exact ⟨ez, us, ne e1 nm, e2⟩
    exact go hM s.wr.at_
  · have h := s.sl i sl e'
    cases sl with
    | un => trivial
    | dat d => exact h
    | own l =>
      obtain ⟨e1, e2, e3, e4, ez, us, e5, e6⟩ := h
      exact ⟨e1, e2, e3, e4, ez, us, ne e5 (hO i l e'), e6⟩
    | wref k => exact h
theorem wipe_own {env : Ev} {i : Nat} {l : List D} : ∀ {vs : List Nat}, (wipeE env vs)[i]? = some (.own l) → env[i]? = some (.own l)
  | [], h => h
  | v :: vs, h => by
    unfold wipeE at h
    by_cases hi : v = i
    · subst hi
      by_cases hv : v < (wipeE env vs).length
      · rw [List.getElem?_set_self hv] at h; cases h
      · rw [List.getElem?_eq_none (by simpa using hv)] at h; cases h
    · rw [List.getElem?_set_ne hi] at h
      exact wipe_own h
/-- the comprehension's own reading -/
theorem lc_read {src : Src} {g : Tgt} {tt : Tst} {elt : Ex} {vs us : List Nat} (hvs : ∀ i ∈ us, i ∈ vs) {σ : St} {H : Hp} {Q : VK} (q : tD (Cx.tx X T) Wi (dComp src vs g tt elt) σ H Q) :
    tLc (tIt (Cx.tx X T) Wi src) (tG (Cx.tx X T) g us) (tT (Cx.tx X T) noW tt) (tD (Cx.tx X T) noW elt) vs σ H Q := by
  obtain ⟨B, env, w, F, O, M, s, q⟩ := q
  refine ⟨B, env, w, F, O, M, s, q.bind.imp fun l w1 q1 J H1 F1 M1 s1 st1 wk D hD => ?_⟩
  have q1 := q1.bind
  have hB : B.H D = none := by
    cases z : B.H D with
    | none => rfl
    | some o => exact absurd hD (s1.st.th D (by rw [z]; simp))
  have hH : H D = none := by
    cases z : H D with
    | none => rfl
    | some o => exact absurd hD (st1.th D (by rw [z]; simp))
  have hO : ∀ i k, env[i]? = some (.own k) → O i ≠ D := fun i k e z => by
    obtain ⟨_, _, _, _, _, ws, q', _⟩ := s.sl i _ e
    rw [z, hH] at q'; cases q'
  refine ⟨fun i m H' => m = l.length - i ∧ i ≤ l.length ∧ ∃ w' es F' M' vsD, es.length ≤ i ∧ SR (Cx.tx X T) B env w' σ H' F' O M' ∧ Stp H F M H' F' M' ∧ Same F1 F' ∧ H' D = some (.lst vsD) ∧ F' D = none ∧ D ∉ M' ∧ Paired (Rp X.K F') vsD es ∧
      Pst (compGo g tt elt (wipeE env vs) (l.drop i) w') (fun rest w2 => ∀ v H2 F2 M2, SR (Cx.tx X T) B env w2 σ H2 F2 O M2 → Stp H F M H2 F2 M2 → RV.isAt (Cx.tx X T) H env O H2 F2 M2 v (.fresh (es ++ rest)) → Q v H2) (fun _ _ _ => False), ⟨l.length, by simp, Nat.zero_le _, w1, [], F1, M1, [], Nat.le_refl _, ?_⟩, ?_⟩
  · have xt : Xt H1 F1 (upd H1 D (.lst [])) F1 := Xt.newL s1.fh s1.nt hD
    refine ⟨s1.xt xt, st1.trans xt.stp, Same.refl _, upd_same, s1.fh.free hD, fun z => s1.wr.there z hD, .nil, ?_⟩
    rw [List.drop_zero]
    cases eg : compGo g tt elt (wipeE env vs) l w1 with
    | stuck => rw [eg] at q1; exact q1.elim
    | ok rest w2 => rw [eg] at q1; exact fun v H2 F2 M2 s2 st2 r2 => q1 v H2 F2 M2 s2 st2 r2
    | exc x e' w2 =>
      exfalso
      have nx : ∀ (l : List Dl.D) (w : World) (x : Exn) (e : Ev) (w2 : World), compGo g tt elt (wipeE env vs) l w ≠ .exc x e w2 := by
        intro l
        induction l with
        | nil => intro w x e w2 z; cases z
        | cons d ds ih =>
          intro w x e w2 z
          unfold compGo at z
          split at z
          · cases z
          · rename_i env1 _
            cases h1 : tt env1 w with
            | stuck => rw [h1] at z; cases z
            | exc _ _ _ => rw [h1] at z; cases z
            | ok b w3 =>
              rw [h1] at z
              simp only [noX_ok, bind_ok] at z
              split at z
              · cases h2 : elt env1 w3 with
                | stuck => rw [h2] at z; cases z
                | exc _ _ _ => rw [h2] at z; cases z
                | ok r w4 =>
                  rw [h2] at z
                  simp only [noX_ok, bind_ok] at z
                  split at z
                  · cases h3 : compGo g tt elt (wipeE env vs) ds w4 with
                    | stuck => rw [h3] at z; cases z
                    | exc a b c => exact ih _ _ _ _ h3
                    | ok a b => rw [h3] at z; cases z
                  · cases z
              · exact ih _ _ _ _ z
      exact nx l w1 x e' w2 eg
  · rintro i m H' ⟨rfl, hi, w', es, F', M', vsD, hes, sr, st, sf, hDl, hFD, hMD, pd, qq⟩
    by_cases hlt : i < l.length
    · refine .inr ⟨wk.go i H' F' sf sr.fh hlt, fun H'' => i + 1 ≤ l.length ∧ ∃ w' es F' M' vsD, es.length ≤ i + 1 ∧ SR (Cx.tx X T) B env w' σ H'' F' O M' ∧ Stp H F M H'' F' M' ∧ Same F1 F' ∧ H'' D = some (.lst vsD) ∧ F' D = none ∧ D ∉ M' ∧ Paired (Rp X.K F') vsD es ∧
          Pst (compGo g tt elt (wipeE env vs) (l.drop (i + 1)) w') (fun rest w2 => ∀ v H2 F2 M2, SR (Cx.tx X T) B env w2 σ H2 F2 O M2 → Stp H F M H2 F2 M2 → RV.isAt (Cx.tx X T) H env O H2 F2 M2 v (.fresh (es ++ rest)) → Q v H2) (fun _ _ _ => False), fun H'' ⟨z1, z2⟩ => ⟨l.length - (i + 1), by omega, rfl, z1, z2⟩, fun x H2 hy => ?_⟩
      obtain ⟨F2, xt2, rx⟩ := wk.yld i H' F' x H2 l[i] sf sr.fh sr.nt hy (List.getElem?_eq_getElem hlt)
      have sr2 := sr.xt xt2
      rw [List.drop_eq_getElem_cons hlt] at qq
      unfold compGo at qq
      split at qq
      · exact qq.elim
      · rename_i env1 eg
        refine ⟨B, wipeE env vs, w', F2, O, M', l[i], env1, sr2.wipe vs, rx, eg, fun σ2 s2 hw => ⟨?_, ?_⟩⟩
        · rw [hw vs hvs]
          have idem : ∀ us : List Nat, (∀ i ∈ us, i ∈ vs) → wipe (wipe σ vs) us = wipe σ vs := by
            intro us
            induction us with
            | nil => intro _; rfl
            | cons u us ih =>
              intro hu
              show (wipe (wipe σ vs) us).set u none = wipe σ vs
              rw [ih fun i hi => hu i (List.mem_cons_of_mem _ hi)]
              have hu' := hu u List.mem_cons_self
              have : ∀ {ws : List Nat}, u ∈ ws → (wipe σ ws).set u none = wipe σ ws := by
                intro ws
                induction ws with
                | nil => intro h; cases h
                | cons a ws ih2 =>
                  intro h
                  show ((wipe σ ws).set a none).set u none = (wipe σ ws).set a none
                  by_cases ha : a = u
                  · subst ha; rw [List.set_set]
                  · rcases List.mem_cons.mp h with z | z
                    · exact absurd z.symm ha
                    · rw [List.set_comm _ _ ha, ih2 z]
              exact this hu'
          exact idem vs fun _ h => h
        · have qt := qq.bind.noX (b' := badX (Cx.tx X T) B noW)
          refine ⟨B, env1, w', F2, O, M', s2, qt.imp fun b w3 q3 H3 F3 M3 s3 st3 => ?_⟩
          have sr3 := sr2.step st3 s3.fh s3.nt s3.wr s3.tb
          have hDl3 : H3 D = some (.lst vsD) := st3.fr D _ hMD (fun _ z => by cases z) (xt2.hh _ _ hDl)
          have hMD3 : D ∉ M3 := notM' st3 hMD (by rw [xt2.hh _ _ hDl]; simp)
          have hFD2 : F2 D = none := xt2.nf D (by rw [hDl]; simp) hFD
          have hFD3 : F3 D = none := st3.nf D (by rw [xt2.hh _ _ hDl]; simp) hFD2
          have st03 := (st.trans xt2.stp).trans st3
          cases b with
          | false =>
            simp only [Bool.false_eq_true, if_false] at q3 ⊢
            exact ⟨hlt, w3, es, F3, M3, vsD, by omega, sr3, st03, (sf.trans xt2.ff).trans st3.fg, hDl3, hFD3, hMD3, Rp.monoAll (xt2.ff.trans st3.fg) _ _ pd, q3⟩
          | true =>
            simp only [if_true] at q3 ⊢
            have qe := q3.bind.noX (b' := badX (Cx.tx X T) B noW)
            refine ⟨B, env1, w3, F3, O, M3, s3, qe.imp fun r w4 q4 y H4 F4 M4 s4 st4 r4 => ?_⟩
            split at q4
            · rename_i d ed
              obtain ⟨F5, s5, st5, a5⟩ := keep_arg s3 s4 st4 r4 (st_arg ed)
              have hDl4 : H4 D = some (.lst vsD) := st5.fr D _ hMD3 (fun _ z => by cases z) hDl3
              have hMD4 : D ∉ M4 := notM' st5 hMD3 (by rw [hDl3]; simp)
              have hFD5 : F5 D = none := st5.nf D (by rw [hDl3]; simp) hFD3
              have sr5 := sr3.step st5 s5.fh s5.nt s5.wr s5.tb
              have st05 := st03.trans st5
              have sr6 := sr5.updFree (ws := vsD ++ [y]) hDl4 hB hFD5 hMD4 hO
              have pd5 := Rp.monoAll ((xt2.ff.trans st3.fg).trans st5.fg) _ _ pd
              have hvl : vsD.length ≤ i := by rw [pd.length]; exact hes
              have hbd := wk.bd
              refine ⟨vsD, hDl4, by omega, hlt, w4, es ++ [d], F5, M4, vsD ++ [y], ?_, sr6, ?_, ((sf.trans xt2.ff).trans st3.fg).trans st5.fg, upd_same, hFD5, hMD4, Pr.append pd5 (.cons a5 .nil), ?_⟩
              · rw [List.length_append, List.length_singleton]; omega
              · exact ⟨st05.fg, fun a o hM' ht q' => by
                  have := st05.fr a o hM' ht q'
                  have na : a ≠ D := fun z => by subst z; rw [hH] at q'; cases q'
                  rw [upd_ne na]; exact this, fun a h => by
                  by_cases z : a = D
                  · subst z; rw [upd_same]; simp
                  · rw [upd_ne z]; exact st05.th a h, st05.nf, st05.mw⟩
              · have q5 := q4.bind
                refine q5.imp fun rest w5 q6 v H6 F6 M6 s6 st6 r6 => q6 v H6 F6 M6 s6 st6 ?_
                rw [List.append_assoc] at r6
                exact r6
            · exact q4.elim
    · have hil : i = l.length := by omega
      subst hil
      refine .inl ⟨wk.stop _ H' F' sf sr.fh (Nat.le_refl _), ?_⟩
      rw [List.drop_length] at qq
      have qq' : ∀ v H2 F2 M2, SR (Cx.tx X T) B env w' σ H2 F2 O M2 → Stp H F M H2 F2 M2 → RV.isAt (Cx.tx X T) H env O H2 F2 M2 v (.fresh (es ++ [])) → Q v H2 := qq
      rw [List.append_nil] at qq'
      exact qq' _ H' F' M' sr st ⟨Nat.le_trans hes wk.bd, D, vsD, rfl, hH, hFD, hMD, hDl, pd⟩
theorem je_comp {elt tg iter : Expr} {ifs : List Expr} {scope : Scope} {own : List (Str × Nat)} {src : Src} {g : Tgt} {tt : Tst} {de : Ex} {us vs : List Nat} (hc : X.calm = true) (hN : X.N.Nodup) (hi : JI X T Wi tg iter src) (ok : BlkOk X.N X.env.scope scope own)
    (hv : own.map (·.2) = vs) (hvs : ∀ i ∈ us, i ∈ vs)
    (hg : ∀ (s : Shared) (H : Hp) (C : Addr) (cl : List (Str × Addr)) (fp : List Addr), JG (X.blk s H scope (compEnvC scope cl C X.env) fp) T tg g us)
    (ht : ∀ (s : Shared) (H : Hp) (C : Addr) (cl : List (Str × Addr)) (fp : List Addr), JTs (X.blk s H scope (compEnvC scope cl C X.env) fp) T ifs tt)
    (he : ∀ (s : Shared) (H : Hp) (C : Addr) (cl : List (Str × Addr)) (fp : List Addr), JE (X.blk s H scope (compEnvC scope cl C X.env) fp) T noW elt de) (hs : ∀ x, foldedSetIterable iter X.env x = pure x := by intro _; rfl) :
    JE X T Wi (.ListComp elt [⟨tg, iter, ifs, 0⟩] scope pos) (dComp src vs g tt de) := by
  subst hv
  exact (pe_lc hc hN hi ok hg ht he hs).impD fun σ H Q q => lc_read hvs q
theorem js_setComp {i : Nat} {y : Str} {py spos : Pos} {elt tg iter : Expr} {ifs : List Expr} {scope : Scope} {own : List (Str × Nat)} {src : Src} {g : Tgt} {tt : Tst} {de : Ex} {us : List Nat} (hc : X.calm = true) (hN : X.N.Nodup) (hy : X.N[i]? = some y) (hyl : X.env.scope.names.lookup y = some .local)
    (hsw : swapsWith (.ListComp elt [⟨tg, iter, ifs, 0⟩] scope pos) (some (.Name y py)) spos.line X.env = pure true) (hi : JI X T Wi tg iter src) (ok : BlkOk X.N X.env.scope scope own) (hvs : ∀ i ∈ us, i ∈ own.map (·.2))
    (hg : ∀ (s : Shared) (H : Hp) (C : Addr) (cl : List (Str × Addr)) (fp : List Addr), JG (X.blk s H scope (compEnvC scope cl C X.env) fp) T tg g us)
    (ht : ∀ (s : Shared) (H : Hp) (C : Addr) (cl : List (Str × Addr)) (fp : List Addr), JTs (X.blk s H scope (compEnvC scope cl C X.env) fp) T ifs tt)
    (he : ∀ (s : Shared) (H : Hp) (C : Addr) (cl : List (Str × Addr)) (fp : List Addr), JE (X.blk s H scope (compEnvC scope cl C X.env) fp) T noW elt de) (hs : ∀ x, foldedSetIterable iter X.env x = pure x := by intro _; rfl) :
    PS X (.Assign [.Name y py] (.ListComp elt [⟨tg, iter, ifs, 0⟩] scope pos) spos) (tAsg (tD (Cx.tx X T) Wi (dComp src (own.map (·.2)) g tt de)) (gName i)) :=
  (ps_setLc hc hN hy hyl hsw hi ok hg ht he hs).impD fun D σ H q => lc_read hvs q
end
end Dl
/-! DlH: statements. -/
namespace Dl
open PySem PySem.Spec PyProof.Rows L2 NdefX
inductive Fl where
  | nx (env : Ev) | rt (r : RV) | bk (env : Ev) | ct (env : Ev)
abbrev Sd := Ev → World → Out Fl
/-- what is handed back -/
structure RetAt (X : Tx) (B : Base) (w : World) (H F : Hp) (M : List Addr) (v : V) (r : RV) : Prop where
  st : Stp B.H B.F B.M H F M
  fh : Same F H
  nt : NoTbl F
  wr : WRel X F H M w
  tb : TabsN X.T H
  at_ : r.isAt X B.H [] (fun _ => 0) H F M v
def flG (X : Tx) (B : Base) (F0 : Hp) (Dn : Ends) (f : Fl) (w : World) : Prop := match f with
  | .nx env => ∀ σ H F O M, SR X B env w σ H F O M → Same F0 F → Dn.nx σ H
  | .rt r => ∀ v H F M, RetAt X B w H F M v r → Dn.rt v H
  | .bk env => ∀ σ H F O M, SR X B env w σ H F O M → Same F0 F → Dn.bk σ H
  | .ct env => ∀ σ H F O M, SR X B env w σ H F O M → Same F0 F → Dn.ct σ H
theorem flG.later {X : Tx} {B : Base} {F0 F1 : Hp} {Dn : Ends} {f : Fl} {w : World} (h : flG X B F0 Dn f w) (e : Same F0 F1) : flG X B F1 Dn f w := by
  cases f with
  | nx env => exact fun σ H F O M s k => h σ H F O M s (e.trans k)
  | bk env => exact fun σ H F O M s k => h σ H F O M s (e.trans k)
  | ct env => exact fun σ H F O M s k => h σ H F O M s (e.trans k)
  | rt r => exact h
def tS (X : Tx) (Wi : WX) (s : Sd) : TS := fun Dn σ H => ∃ B env w F O M, SR X B env w σ H F O M ∧ Pst (s env w) (flG X B F Dn) (badX X B Wi)
abbrev JS (X : Cx) (T : List NTab) (Wi : WX) (st : Stmt) (d : Sd) : Prop := PS X st (tS (Cx.tx X T) Wi d)
abbrev JSs (X : Cx) (T : List NTab) (Wi : WX) (st : List Stmt) (d : Sd) : Prop := PSs X st (tS (Cx.tx X T) Wi d)
/-! ### blocks -/
def sNil : Sd := fun env w => .ok (.nx env) w
def sSeq (a b : Sd) : Sd := fun env w => (a env w).bind fun f w1 => match f with
  | .nx env1 => b env1 w1
  | f => .ok f w1
section
variable {X : Cx} {T : List NTab} {Wi : WX} {pos : Pos} {st : Stmt} {sts : List Stmt} {a b : Sd} {e : Expr} {d : Ex}
theorem jss_nil : JSs X T Wi [] sNil := pss_nil.impD fun D σ H q => by
  obtain ⟨B, env, w, F, O, M, s, q⟩ := q
  exact q σ H F O M s (Same.refl _)
theorem jss_cons (h : JS X T Wi st a) (hs : JSs X T Wi sts b) : JSs X T Wi (st :: sts) (sSeq a b) := (pss_cons h hs).impD fun D σ H q => by
  obtain ⟨B, env, w, F, O, M, s, q⟩ := q
  refine ⟨B, env, w, F, O, M, s, q.bind.imp fun f w1 q1 => ?_⟩
  cases f with
  | nx env1 => exact fun σ1 H1 F1 O1 M1 s1 k => ⟨B, env1, w1, F1, O1, M1, s1, q1.imp fun f w z => z.later k⟩
  | rt r => exact q1
  | bk env1 => exact q1
  | ct env1 => exact q1
theorem jss_one (h : JS X T Wi st a) : JSs X T Wi [st] a := pss_one h
def sPass : Sd := fun env w => .ok (.nx env) w
def sBreak : Sd := fun env w => .ok (.bk env) w
def sCont : Sd := fun env w => .ok (.ct env) w
def sNever : Sd := fun _ _ => .stuck
theorem js_pass : JS X T Wi (.Pass pos) sPass := ps_pass.impD fun D σ H q => by
  obtain ⟨B, env, w, F, O, M, s, q⟩ := q
  exact q σ H F O M s (Same.refl _)
theorem js_break : JS X T Wi (.Break pos) sBreak := ps_break.impD fun D σ H q => by
  obtain ⟨B, env, w, F, O, M, s, q⟩ := q
  exact q σ H F O M s (Same.refl _)
theorem js_cont : JS X T Wi (.Continue pos) sCont := ps_continue.impD fun D σ H q => by
  obtain ⟨B, env, w, F, O, M, s, q⟩ := q
  exact q σ H F O M s (Same.refl _)
theorem js_never : JS X T Wi st sNever := ps_never.impD fun D σ H q => by
  obtain ⟨B, env, w, F, O, M, s, q⟩ := q
  exact q.elim
/-- an expression whose value is dropped -/
def sExpr (e : Ex) : Sd := fun env w => (e env w).bind fun _ w1 => .ok (.nx env) w1
theorem js_expr (h : JE X T Wi e d) (hs : swapsWith e none pos.line X.env = pure false := by rfl) : JS X T Wi (.Expr e pos) (sExpr d) := (ps_expr h hs).impD fun D σ H q => by
  obtain ⟨B, env, w, F, O, M, s, q⟩ := q
  exact ⟨B, env, w, F, O, M, s, q.bind.imp fun r w1 q1 v H1 F1 M1 s1 st1 r1 => q1 σ H1 F1 O M1 s1 st1.fg⟩
/-- return -/
def RV.ret : RV → RV
  | .bor _ l => .fresh l
  | r => r
def sRet (e : Ex) : Sd := fun env w => (e env w).bind fun r w1 => .ok (.rt r.ret) w1
theorem ret_at {X : Tx} {B : Base} {env : Ev} {w w1 : World} {σ : St} {H F H1 F1 : Hp} {O : Nat → Addr} {M M1 : List Addr} {v : V} {r : RV} (s : SR X B env w σ H F O M) (s1 : SR X B env w1 σ H1 F1 O M1) (h : r.isAt X H env O H1 F1 M1 v) : RetAt X B w1 H1 F1 M1 v r.ret := by
  refine ⟨s1.st, s1.fh, s1.nt, s1.wr, s1.tb, ?_⟩
  cases r with
  | dat d => exact h
  | wref k => exact h
  | fresh l => exact RV.since (r := .fresh l) (env := []) (O := fun _ => 0) h s.st.th
  | bor i l =>
    obtain ⟨e1, e2⟩ := h
    obtain ⟨_, e4, e5, e6, ez, vs, e7, e8⟩ := s1.sl i _ e1
    exact ⟨ez, O i, vs, e2, e4, e5, e6, e7, e8⟩
theorem js_ret (h : JE X T Wi e d) : JS X T Wi (.Return (some e) pos) (sRet d) := (ps_ret h).impD fun D σ H q => by
  obtain ⟨B, env, w, F, O, M, s, q⟩ := q
  exact ⟨B, env, w, F, O, M, s, q.bind.imp fun r w1 q1 v H1 F1 M1 s1 st1 r1 => q1 v H1 F1 M1 (ret_at s s1 r1)⟩
def sRetN : Sd := fun _ w => .ok (.rt (.dat .non)) w
theorem js_retN : JS X T Wi (.Return none pos) sRetN := ps_retN.impD fun D σ H q => by
  obtain ⟨B, env, w, F, O, M, s, q⟩ := q
  exact q .non H F M ⟨s.st, s.fh, s.nt, s.wr, s.tb, .non⟩
/-- if -/
def sIf (c : Tst) (a b : Sd) : Sd := fun env w => (c env w).bind fun k w1 => if k = true then a env w1 else b env w1
theorem js_if {c : Expr} {tc : Tst} {sa sb : List Stmt} (hc : JT X T Wi c tc) (ha : JSs X T Wi sa a) (hb : JSs X T Wi sb b) : JS X T Wi (.If c sa sb pos) (sIf tc a b) := (ps_if hc ha hb).impD fun D σ H q => by
  obtain ⟨B, env, w, F, O, M, s, q⟩ := q
  refine ⟨B, env, w, F, O, M, s, q.bind.imp fun k w1 q1 H1 F1 M1 s1 st1 => ?_⟩
  cases k with
  | true => rw [if_pos rfl] at q1 ⊢; exact ⟨B, env, w1, F1, O, M1, s1, q1.imp fun f w z => z.later st1.fg⟩
  | false => rw [if_neg Bool.false_ne_true] at q1 ⊢; exact ⟨B, env, w1, F1, O, M1, s1, q1.imp fun f w z => z.later st1.fg⟩
/-! ### names stored -/
section
variable {X : Tx} {B : Base} {env : Ev} {w : World} {σ : St} {H F Hs : Hp} {O : Nat → Addr} {M : List Addr}
theorem own_of_set {sl : Sl} {i j : Nat} {l : List D} (h : (env.set i sl)[j]? = some (.own l)) (hn : ∀ l, sl ≠ .own l) : env[j]? = some (.own l) ∧ i ≠ j := by
  by_cases hj : i = j
  · subst hj
    have hlt : i < env.length := by simpa using (List.getElem?_eq_some_iff.mp h).1
    rw [List.getElem?_set_self hlt] at h
    exact absurd (Option.some.inj h) (hn l)
  · rw [List.getElem?_set_ne hj] at h; exact ⟨h, hj⟩
theorem SR.setOwn {i : Nat} {p : Addr} {vs : List V} {l : List D} (s : SR X B env w σ H F O M) (hz : l.length ≤ sizeLine) (hB : B.H p = none) (hF : F p = none) (hM : p ∉ M) (hp : H p = some (.lst vs)) (pp : Paired (Rp X.K F) vs l)
    (hO : ∀ j k, j ≠ i → env[j]? = some (.own k) → O j ≠ p) : SR X B (env.set i (.own l)) w (σ.set i (some (.ref p))) H F (fun j => if j = i then p else O j) M := by
  refine ⟨by simpa using s.len, s.fh, s.nt, s.st, s.wr, s.tb, fun j sl e => ?_, fun j k lj lk e1 e2 h => ?_⟩
  · by_cases hj : i = j
    · subst hj
      have hlt : i < env.length := by simpa using (List.getElem?_eq_some_iff.mp e).1
      rw [List.getElem?_set_self hlt] at e
      cases e
      rw [List.getElem?_set_self (by rw [s.len]; exact hlt)]
      show (some (some (V.ref p)) : Option (Option V)) = some (some (.ref (if i = i then p else O i))) ∧ B.H (if i = i then p else O i) = none ∧ F (if i = i then p else O i) = none ∧ (if i = i then p else O i) ∉ M ∧ l.length ≤ sizeLine ∧ ∃ vs, H (if i = i then p else O i) = some (.lst vs) ∧ Paired (Rp X.K F) vs l
      rw [if_pos rfl]
      exact ⟨rfl, hB, hF, hM, hz, vs, hp, pp⟩
    · rw [List.getElem?_set_ne hj] at e ⊢
      have h := s.sl j sl e
      cases sl with
      | own k =>
        show σ[j]? = some (some (.ref (if j = i then p else O j))) ∧ B.H (if j = i then p else O j) = none ∧ F (if j = i then p else O j) = none ∧ (if j = i then p else O j) ∉ M ∧ k.length ≤ sizeLine ∧ ∃ vs, H (if j = i then p else O j) = some (.lst vs) ∧ Paired (Rp X.K F) vs k
        rw [if_neg (fun z => hj z.symm)]
        exact h
      | un => trivial
      | dat d => exact h
      | wref k => exact h
  · have h : (if j = i then p else O j) = (if k = i then p else O k) := h
    by_cases hj : j = i
    · by_cases hk : k = i
      · rw [hj, hk]
      · rw [if_pos hj, if_neg hk] at h
        rw [List.getElem?_set_ne (fun z => hk z.symm)] at e2
        exact absurd h.symm (hO k lk hk e2)
    · rw [List.getElem?_set_ne (fun z => hj z.symm)] at e1
      by_cases hk : k = i
      · rw [if_neg hj, if_pos hk] at h
        exact absurd h (hO j lj hj e1)
      · rw [if_neg hj, if_neg hk] at h
        rw [List.getElem?_set_ne (fun z => hk z.symm)] at e2
        exact s.inj j k lj lk e1 e2 h
theorem SR.setRef {i k : Nat} {m : Addr} (s : SR X B env w σ H F O M) (hm : M[k]? = some m) : SR X B (env.set i (.wref k)) w (σ.set i (some (.ref m))) H F O M := by
  refine ⟨by simpa using s.len, s.fh, s.nt, s.st, s.wr, s.tb, fun j sl e => ?_, fun j k lj lk e1 e2 => ?_⟩
  · by_cases hj : i = j
    · subst hj
      have hlt : i < env.length := by simpa using (List.getElem?_eq_some_iff.mp e).1
      rw [List.getElem?_set_self hlt] at e
      cases e
      exact ⟨m, hm, by rw [List.getElem?_set_self (by rw [s.len]; exact hlt)]⟩
    · rw [List.getElem?_set_ne hj] at e
      have := s.sl j sl e
      rw [List.getElem?_set_ne hj]
      exact this
  · exact s.inj j k lj lk (own_of_set e1 (fun _ z => by cases z)).1 (own_of_set e2 (fun _ z => by cases z)).1
/-- facts of a fresh list -/
theorem fresh_out {r : RV} {l : List D} {w0 : World} {H0 F0 : Hp} {M0 : List Addr} {v : V} (s0 : SR X B env w0 σ H0 F0 O M0) (h : (RV.fresh l).isAt X H0 env O H F M v) : l.length ≤ sizeLine ∧ ∃ p vs, v = .ref p ∧ B.H p = none ∧ F p = none ∧ p ∉ M ∧ H p = some (.lst vs) ∧ Paired (Rp X.K F) vs l ∧ ∀ j k, env[j]? = some (.own k) → O j ≠ p := by
  obtain ⟨hz, p, vs, e1, e2, e3, e4, e5, e6⟩ := h
  refine ⟨hz, p, vs, e1, ?_, e3, e4, e5, e6, fun j k e z => ?_⟩
  · cases q : B.H p with
    | none => rfl
    | some o => exact absurd e2 (s0.st.th p (by rw [q]; simp))
  · obtain ⟨_, _, _, _, _, ws, q, _⟩ := s0.sl j _ e
    rw [z, e2] at q; cases q
end
/-- name = e -/
def sSet (i : Nat) (e : Ex) : Sd := fun env w => (e env w).bind fun r w1 => match r with
  | .dat d => .ok (.nx (env.set i (.dat d))) w1
  | .fresh l => .ok (.nx (env.set i (.own l))) w1
  | .wref k => .ok (.nx (env.set i (.wref k))) w1
  | .bor _ _ => .stuck
theorem set_read {i : Nat} {D : Ends} {σ : St} {H : Hp} (q : tS (Cx.tx X T) Wi (sSet i d) D σ H) : tAsg (tD (Cx.tx X T) Wi d) (gName i) D σ H := by
  obtain ⟨B, env, w, F, O, M, s, q⟩ := q
  refine ⟨B, env, w, F, O, M, s, q.bind.imp fun r w1 q1 v H1 F1 M1 s1 st1 r1 => ?_⟩
  cases r with
  | dat d => exact q1 _ H1 F1 O M1 (s1.setDat r1) st1.fg
  | wref k => obtain ⟨m, e1, e2⟩ := r1; subst e2; exact q1 _ H1 F1 O M1 (s1.setRef e1) st1.fg
  | bor i l => exact q1.elim
  | fresh l =>
    obtain ⟨hz, p, vs, e1, e2, e3, e4, e5, e6, e7⟩ := fresh_out (r := .dat .non) s r1
    subst e1
    exact q1 _ H1 F1 _ M1 (s1.setOwn hz e2 e3 e4 e5 e6 fun j k _ e => e7 j k e) st1.fg
theorem js_set {i : Nat} {x : Str} {pos' : Pos} (hN : X.N.Nodup) (hi : X.N[i]? = some x) (hx : Loc X.env.scope x) (h : JE X T Wi e d) (hs : swapsWith e (some (.Name x pos')) pos.line X.env = pure false := by rfl)
    (hf : X.fn x = true ∨ X.env.scope.names.lookup x = some .local := by first | exact .inl rfl | exact .inr rfl | assumption) : JS X T Wi (.Assign [.Name x pos'] e pos) (sSet i d) :=
  (ps_set hN hi hx h hs hf).impD fun D σ H q => set_read q
/-- name = [..] -/
theorem js_setC {i : Nat} {y : Str} {py spos : Pos} {elt tg iter : Expr} {ifs : List Expr} {scope : Scope} {own : List (Str × Nat)} {src : Src} {g : Tgt} {tt : Tst} {de : Ex} {us vs : List Nat} (hc : X.calm = true) (hN : X.N.Nodup) (hy : X.N[i]? = some y) (hyl : X.env.scope.names.lookup y = some .local)
    (hsw : swapsWith (.ListComp elt [⟨tg, iter, ifs, 0⟩] scope pos) (some (.Name y py)) spos.line X.env = pure true) (hi : JI X T Wi tg iter src) (ok : BlkOk X.N X.env.scope scope own) (hv : own.map (·.2) = vs) (hvs : ∀ i ∈ us, i ∈ vs)
    (hg : ∀ (s : Shared) (H : Hp) (C : Addr) (cl : List (Str × Addr)) (fp : List Addr), JG (X.blk s H scope (compEnvC scope cl C X.env) fp) T tg g us)
    (ht : ∀ (s : Shared) (H : Hp) (C : Addr) (cl : List (Str × Addr)) (fp : List Addr), JTs (X.blk s H scope (compEnvC scope cl C X.env) fp) T ifs tt)
    (he : ∀ (s : Shared) (H : Hp) (C : Addr) (cl : List (Str × Addr)) (fp : List Addr), JE (X.blk s H scope (compEnvC scope cl C X.env) fp) T noW elt de) (hs : ∀ x, foldedSetIterable iter X.env x = pure x := by intro _; rfl) :
    JS X T Wi (.Assign [.Name y py] (.ListComp elt [⟨tg, iter, ifs, 0⟩] scope pos) spos) (sSet i (dComp src vs g tt de)) := by
  subst hv
  exact (js_setComp hc hN hy hyl hsw hi ok hvs hg ht he hs).impD fun D σ H q => set_read q
/-- name = e, a fresh list, that is to be changed through references -/
def sSetW (i : Nat) (e : Ex) : Sd := fun env w => (e env w).bind fun r w1 => match r with
  | .fresh l => .ok (.nx (env.set i (.wref w1.length))) (w1 ++ [.lst l])
  | _ => .stuck
theorem paired_app1 {α β : Type} {R : α → β → Prop} {xs : List α} {ys : List β} {x : α} {y : β} (h : Paired R xs ys) (r : R x y) : Paired R (xs ++ [x]) (ys ++ [y]) := Pr.append h (.cons r .nil)
theorem js_setW {i : Nat} {x : Str} {pos' : Pos} (hN : X.N.Nodup) (hi : X.N[i]? = some x) (hx : Loc X.env.scope x) (h : JE X T Wi e d) (hs : swapsWith e (some (.Name x pos')) pos.line X.env = pure false := by rfl)
    (hf : X.fn x = true ∨ X.env.scope.names.lookup x = some .local := by first | exact .inl rfl | exact .inr rfl | assumption) : JS X T Wi (.Assign [.Name x pos'] e pos) (sSetW i d) := by
  refine (ps_set hN hi hx h hs hf).impD fun D σ H q => ?_
  obtain ⟨B, env, w, F, O, M, s, q⟩ := q
  refine ⟨B, env, w, F, O, M, s, q.bind.imp fun r w1 q1 v H1 F1 M1 s1 st1 r1 => ?_⟩
  cases r with
  | dat d => exact q1.elim
  | wref k => exact q1.elim
  | bor i l => exact q1.elim
  | fresh l =>
    obtain ⟨hz, p, vs, e1, e2, e3, e4, e5, e6, e7⟩ := fresh_out (r := .dat .non) s r1
    subst e1
    have hl : M1.length = w1.length := s1.wr.at_.length
    have s2 : SR (Cx.tx X T) B env (w1 ++ [.lst l]) σ H1 F1 O (M1 ++ [p]) := by
      refine ⟨s1.len, s1.fh, s1.nt, ⟨s1.st.fg, s1.st.fr, s1.st.th, s1.st.nf, ?_⟩, ⟨?_, paired_app1 s1.wr.at_ ⟨e3, hz, vs, e5, e6⟩⟩, s1.tb, fun j sl e => ?_, s1.inj⟩
      · obtain ⟨nw, em, hn⟩ := s1.st.mw
        refine ⟨nw ++ [p], by rw [em, List.append_assoc], fun m hm => ?_⟩
        rcases List.mem_append.mp hm with z | z
        · exact hn m z
        · rw [List.mem_singleton.mp z]; exact e2
      · rw [List.nodup_append]
        refine ⟨s1.wr.nd, by simp, fun a ha b hb => ?_⟩
        rw [List.mem_singleton.mp hb]
        exact fun z => e4 (z ▸ ha)
      · have h := s1.sl j sl e
        cases sl with
        | un => trivial
        | dat d => exact h
        | own k =>
          obtain ⟨f1, f2, f3, f4, f5⟩ := h
          refine ⟨f1, f2, f3, ?_, f5⟩
          rw [List.mem_append]
          rintro (z | z)
          · exact f4 z
          · exact e7 j k e (List.mem_singleton.mp z)
        | wref k => obtain ⟨m, f1, f2⟩ := h; exact ⟨m, mem_of_pfx rfl f1, f2⟩
    refine q1 _ H1 F1 O (M1 ++ [p]) (s2.setRef ?_) st1.fg
    rw [← hl, List.getElem?_append_right (Nat.le_refl _), Nat.sub_self]
    rfl
/-- (a, b) = e -/
def sAsg (g : Tgt) (e : Ex) : Sd := fun env w => (e env w).bind fun r w1 => match r.arg with
  | some (.dat d) => (match g d env with
    | some env' => .ok (.nx env') w1
    | none => .stuck)
  | _ => .stuck
theorem js_asg {tg : Expr} {g : Tgt} {us : List Nat} (hg : JG X T tg g us) (h : JE X T Wi e d) (hs : swapsWithSole [tg] e pos.line X.env = pure false := by rfl) (hw : swappedStores [tg] e X.env = pure none := by rfl)
    (h1 : (assignEach [tg] X.env).map (·.2) = [assign tg X.env] := by rfl) : JS X T Wi (.Assign [tg] e pos) (sAsg g d) := by
  refine (ps_asg h hg hs hw h1).impD fun D σ H q => ?_
  obtain ⟨B, env, w, F, O, M, s, q⟩ := q
  refine ⟨B, env, w, F, O, M, s, q.bind.imp fun r w1 q1 v H1 F1 M1 s1 st1 r1 => ?_⟩
  split at q1
  · rename_i dd ea
    split at q1
    · rename_i env' eg
      obtain ⟨F2, s2, st2, a2⟩ := keep_arg s s1 st1 r1 ea
      exact ⟨B, env, w1, F2, O, M1, dd, env', s2, a2, eg, fun σ' s' _ => q1 σ' H1 F2 O M1 s' st2.fg⟩
    · exact q1.elim
  · exact q1.elim
/-- name op= e, by the operation -/
def sAug (i : Nat) (g : D → D → Option RV) (e : Ex) : Sd := fun env w => match env[i]? with
  | some (.dat x) => (e env w).bind fun r w1 => (match r.val with
    | some y => (match g x y with
      | some (.dat z) => .ok (.nx (env.set i (.dat z))) w1
      | _ => .stuck)
    | none => .stuck)
  | _ => .stuck
theorem js_aug {i : Nat} {x : Str} {op : Operator} {g : D → D → Option RV} {pos' : Pos} (hN : X.N.Nodup) (hi : X.N[i]? = some x) (hx : Loc X.env.scope x) (hop : OpS X (inplaceOp op) g) (h : JE X T Wi e d)
    (hf : X.fn x = true ∨ X.env.scope.names.lookup x = some .local := by first | exact .inl rfl | exact .inr rfl | assumption) : JS X T Wi (.AugAssign (.Name x pos') op e pos) (sAug i g d) := by
  obtain ⟨r, ho, hr⟩ := hop
  refine (ps_aug (ti := r) hN hi hx h (fun pins s σ H x y v u Q I rx ry q => ho pins s σ H x y v u Q I rx ry q) hf).impD fun D σ H q => ?_
  obtain ⟨B, env, w, F, O, M, s, q⟩ := q
  unfold sAug at q
  split at q
  · rename_i dx ex
    obtain ⟨v, e1, e2⟩ := s.sl i _ ex
    refine ⟨v, e1, B, env, w, F, O, M, s, q.bind.imp fun rr w1 q1 y H1 F1 M1 s1 st1 r1 => ?_⟩
    split at q1
    · rename_i dy ey
      split at q1
      · rename_i dz ez
        refine hr v y dx dy _ H1 F1 s1.fh s1.nt (Rp.rv (e2.mono st1.fg) s1.fh) (RV.rv s1 r1 ey) ez _ fun z H2 F2 xt nw => ?_
        exact q1 _ H2 F2 O M1 ((s1.xt xt).setDat nw) (st1.fg.trans xt.ff)
      · exact q1.elim
    · exact q1.elim
  · exact q.elim
theorem is_add : OpS X (inplaceOp .Add) (fun d e => match d, e with
    | .int i, .int j => some (.dat (.int (i + j)))
    | _, _ => none) := by
  refine ⟨_, iop_add, fun x y d e rv H F fh nt rx ry h Q q => ?_⟩
  cases d <;> cases e <;> first | (simp only at h; cases h; done) | skip
  simp only [Option.some.injEq] at h; subst h
  cases rx; cases ry
  exact ⟨_, _, rfl, rfl, new_val fh nt q (.int _)⟩
theorem is_sub : OpS X (inplaceOp .Sub) gSub := by
  refine ⟨_, iop_sub, fun x y d e rv H F fh nt rx ry h Q q => ?_⟩
  cases d <;> cases e <;> first | (simp only [gSub] at h; cases h; done) | skip
  simp only [gSub, Option.some.injEq] at h; subst h
  cases rx; cases ry
  exact ⟨_, _, rfl, rfl, new_val fh nt q (.int _)⟩
/-! ### own lists changed -/
theorem SR.updOwn {X : Tx} {B : Base} {env : Ev} {w : World} {σ : St} {H F : Hp} {O : Nat → Addr} {M : List Addr} {i : Nat} {l l' : List D} {vs' : List V} (s : SR X B env w σ H F O M) (e : env[i]? = some (.own l)) (hz : l'.length ≤ sizeLine) (p : Paired (Rp X.K F) vs' l') :
    SR X B (env.set i (.own l')) w σ (upd H (O i) (.lst vs')) F O M := by
  obtain ⟨e1, e2, e3, e4, ez, vs, e5, e6⟩ := s.sl i _ e
  have hlt : i < env.length := (List.getElem?_eq_some_iff.mp e).1
  have ne : ∀ {a : Addr} {o : HO}, H a = some o → a ≠ O i → upd H (O i) (.lst vs') a = some o := fun h n => by rw [upd_ne n]; exact h
  refine ⟨by simpa using s.len, fun b o q => ?_, s.nt, ⟨s.st.fg, fun a o hM' ht q => ?_, fun a h => ?_, s.st.nf, s.st.mw⟩, ⟨s.wr.nd, ?_⟩, tab_updL s.tb e5, fun j sl e' => ?_, fun j k lj lk f1 f2 h => ?_⟩
  · exact ne (s.fh _ _ q) (fun z => by subst z; rw [e3] at q; cases q)
  · exact ne (s.st.fr a o hM' ht q) (fun z => by subst z; rw [e2] at q; cases q)
  · by_cases z : a = O i
    · subst z; rw [upd_same]; simp
    · rw [upd_ne z]; exact s.st.th a h
  · have go : ∀ {M : List Addr} {w : World}, O i ∉ M → Paired (fun m o => F m = none ∧ WO.isAt X F H m o) M w → Paired (fun m o => F m = none ∧ WO.isAt X F (upd H (O i) (.lst vs')) m o) M w := by
      intro M w hM h
      induction h with
      | nil => exact .nil
      | @cons m o _ _ h1 _ ih =>
        have nm : m ≠ O i := fun z => hM (by rw [← z]; exact List.mem_cons_self)
        refine .cons ⟨h1.1, ?_⟩ (ih fun z => hM (List.mem_cons_of_mem _ z))
        cases o with
        | lst l => obtain ⟨_, ez, us, f1, f2⟩ := h1; exact ⟨ez, us, ne f1 nm, f2⟩
    exact go e4 s.wr.at_
  · by_cases hj : i = j
    · subst hj
      rw [List.getElem?_set_self hlt] at e'
      cases e'
      exact ⟨e1, e2, e3, e4, hz, vs', upd_same, p⟩
    · rw [List.getElem?_set_ne hj] at e'
      have h := s.sl j sl e'
      cases sl with
      | un => trivial
      | dat d => exact h
      | own k =>
        obtain ⟨f1, f2, f3, f4, fz, us, f5, f6⟩ := h
        exact ⟨f1, f2, f3, f4, fz, us, ne f5 (fun z => hj (s.inj i j l k e e' z.symm)), f6⟩
      | wref k => exact h
  · have own' : ∀ {j : Nat} {lj : List D}, (env.set i (.own l'))[j]? = some (.own lj) → ∃ l0, env[j]? = some (.own l0) := by
      intro j lj f
      by_cases hj : i = j
      · subst hj; exact ⟨l, e⟩
      · rw [List.getElem?_set_ne hj] at f; exact ⟨lj, f⟩
    obtain ⟨a1, b1⟩ := own' f1
    obtain ⟨a2, b2⟩ := own' f2
    exact s.inj j k a1 a2 b1 b2 h
def sAppend (i : Nat) (e : Ex) : Sd := fun env w => match env[i]? with
  | some (.own l) => (e env w).bind fun r w1 => (match r.st with
    | some d => if l.length < 16777216 then .ok (.nx (env.set i (.own (l ++ [d])))) w1 else .stuck
    | none => .stuck)
  | _ => .stuck
theorem js_append {i : Nat} {x : Str} {p1 p2 p3 : Pos} (h0 : PE X (.Name x p1) (tVar i)) (h : JE X T Wi e d)
    (hs : swapsWith (.Call (.Attribute (.Name x p1) "append" p2) [e] [] p3) none pos.line X.env = pure false := by rfl)
    (hbase : attributeBase (.Name x p1) "append" X.env (eval (.Name x p1) X.env) = eval (.Name x p1) X.env := by rfl)
    (hfew : ((backTo p3 (starEach (e :: []) X.env)).all (fun x => !x.1) && (backToKw p3 (keywordEach [] X.env)).all (fun x => x.1.isSome)
      && decide ((e :: []).length + ([] : List Keyword).length + (if ([] : List Keyword).isEmpty then 0 else 1) < 30)) = true := by rfl)
    (hline : (p2.endLine == p3.line) = true := by rfl) (hst : starEach (e :: []) X.env = (false, eval e X.env) :: starEach [] X.env := by rfl) (hplain : (backTo p3 (starEach [] X.env)).any (·.1) = false := by rfl) :
    JS X T Wi (.Expr (.Call (.Attribute (.Name x p1) "append" p2) [e] [] p3) pos) (sAppend i d) := by
  refine (ps_expr (pe_bm PySem.F.plainAttrs_list PySem.F.slot_list_append PySem.F.type_list_append mt_append h0 (pa_cons h pa_nil hst) hbase hfew hline hst hplain) hs).impD fun D σ H q => ?_
  obtain ⟨B, env, w, F, O, M, s, q⟩ := q
  unfold sAppend at q
  split at q
  · rename_i l el
    obtain ⟨e1, e2, e3, e4, ez, vs, e5, e6⟩ := s.sl i _ el
    refine ⟨.ref (O i), e1, .inl ⟨rfl, vs, SqL.of e5⟩, B, env, w, F, O, M, s, q.bind.imp fun r w1 q1 v H1 F1 M1 s1 st1 r1 => ?_⟩
    split at q1
    · rename_i dd er
      split at q1
      · rename_i hz
        obtain ⟨F2, s2, st2, a2⟩ := keep_arg s s1 st1 r1 (st_arg er)
        obtain ⟨g1, g2, g3, g4, gz, ws, g5, g6⟩ := s2.sl i _ el
        have hwl : ws.length = l.length := g6.length
        refine ⟨O i, ws, v, rfl, rfl, g5, by rw [hwl, sizeLine_eq]; exact hz, ?_⟩
        exact q1 σ _ F2 O M1 (s2.updOwn el (by rw [List.length_append, List.length_singleton, sizeLine_eq]; omega) (Pr.append g6 (.cons a2 .nil))) st2.fg
      · exact q1.elim
    · exact q1.elim
  · exact q.elim
end
end Dl
/-! DlI: extend, stores by place, the world's lists, loops. -/
namespace Dl
open PySem PySem.Spec PyProof.Rows L2 NdefX
section
variable {X : Cx}
/-- extend by any list that can be read -/
def rExtA (K : PySem.W.Frag) : V → List V → Hp → VK → Prop := fun x vs H Q => ∃ l b xs zs, x = .ref l ∧ vs = [.ref b] ∧ H l = some (.lst xs) ∧ (SqL K H b zs ∨ SqT K H b zs) ∧ l ≠ b ∧ xs.length + zs.length ≤ sizeLine ∧ Q .non (upd H l (.lst (xs ++ zs)))
end
section
variable {X : Cx} {T : List NTab} {Wi : WX} {pos : Pos} {st : Stmt} {sts : List Stmt} {a b : Sd} {e : Expr} {d : Ex}
/-! ### stores by place: an own list, or one of the world's -/
def sSetIx (i : Nat) (ix e : Ex) : Sd := fun env w => (e env w).bind fun r w1 => match env[i]?, r.st with
  | some (.own l), some d => (ix env w1).bind fun k w2 => (match k with
    | .dat (.int z) => (match ixN l.length z with
      | some j => .ok (.nx (env.set i (.own (l.set j d)))) w2
      | none => .stuck)
    | _ => .stuck)
  | some (.wref m), some d => (ix env w1).bind fun k w2 => (match k, w2[m]? with
    | .dat (.int z), some (.lst l) => (match ixN l.length z with
      | some j => .ok (.nx env) (w2.set m (.lst (l.set j d)))
      | none => .stuck)
    | _, _ => .stuck)
  | _, _ => .stuck
theorem WRel.get {X : Tx} {F H : Hp} {M : List Addr} {w : World} (wr : WRel X F H M w) {k : Nat} {o : WO} (h : w[k]? = some o) : ∃ m, M[k]? = some m ∧ F m = none ∧ WO.isAt X F H m o := Pr.get wr.at_ h
/-- a list of the world is written -/
theorem SR.updW {X : Tx} {B : Base} {env : Ev} {w : World} {σ : St} {H F : Hp} {O : Nat → Addr} {M : List Addr} {k : Nat} {m : Addr} {l l' : List D} {vs' : List V} (s : SR X B env w σ H F O M) (e : w[k]? = some (.lst l)) (em : M[k]? = some m) (hz : l'.length ≤ sizeLine) (p : Paired (Rp X.K F) vs' l') :
    SR X B env (w.set k (.lst l')) σ (upd H m (.lst vs')) F O M := by
  obtain ⟨m', em', hF, ez, vs, e5, e6⟩ := s.wr.get e
  rw [em] at em'; cases em'
  have hmM : m ∈ M := List.mem_of_getElem? em
  have ne : ∀ {a : Addr} {o : HO}, H a = some o → a ≠ m → upd H m (.lst vs') a = some o := fun h n => by rw [upd_ne n]; exact h
  -- the frame: what stood at the entry and is no world's list
  have hBm : m ∈ B.M ∨ B.H m = none := by
    obtain ⟨nw, en, hn⟩ := s.st.mw
    rw [en] at hmM
    rcases List.mem_append.mp hmM with z | z
    · exact .inl z
    · exact .inr (hn m z)
  refine ⟨s.len, fun b o q => ?_, s.nt, ⟨s.st.fg, fun a o hM' ht q => ?_, fun a h => ?_, s.st.nf, s.st.mw⟩, ⟨s.wr.nd, ?_⟩, tab_updL s.tb e5, fun j sl e' => ?_, s.inj⟩
  · exact ne (s.fh _ _ q) (fun z => by subst z; rw [hF] at q; cases q)
  · refine ne (s.st.fr a o hM' ht q) (fun z => ?_)
    subst z
    rcases hBm with z | z
    · exact hM' z
    · rw [z] at q; cases q
  · by_cases z : a = m
    · subst z; rw [upd_same]; simp
    · rw [upd_ne z]; exact s.st.th a h
  · have go : ∀ {M : List Addr} {w : World} {k : Nat}, M.Nodup → M[k]? = some m → Paired (fun m o => F m = none ∧ WO.isAt X F H m o) M w → Paired (fun a o => F a = none ∧ WO.isAt X F (upd H m (.lst vs')) a o) M (w.set k (.lst l')) := by
      intro M w k nd hk h
      induction h generalizing k with
      | nil => cases hk
      | @cons a o M' w' h1 ht ih =>
        obtain ⟨nda, nd'⟩ := List.nodup_cons.mp nd
        cases k with
        | zero =>
          simp only [List.getElem?_cons_zero, Option.some.injEq] at hk
          subst hk
          refine .cons ⟨hF, hz, vs', upd_same, p⟩ ?_
          have rest : ∀ {M' : List Addr} {w' : World}, a ∉ M' → Paired (fun m o => F m = none ∧ WO.isAt X F H m o) M' w' → Paired (fun b o => F b = none ∧ WO.isAt X F (upd H a (.lst vs')) b o) M' w' := by
            intro M' w' hn h
            induction h with
            | nil => exact .nil
            | @cons b o _ _ h1 _ ih =>
              refine .cons ⟨h1.1, ?_⟩ (ih fun z => hn (List.mem_cons_of_mem _ z))
              cases o with
              | lst l => obtain ⟨_, ez, us, f1, f2⟩ := h1; exact ⟨ez, us, ne f1 (fun z => hn (by rw [← z]; exact List.mem_cons_self)), f2⟩
          exact rest nda ht
        | succ k =>
          simp only [List.getElem?_cons_succ] at hk
          refine .cons ⟨h1.1, ?_⟩ (ih nd' hk)
          cases o with
          | lst l => obtain ⟨_, ez, us, f1, f2⟩ := h1; exact ⟨ez, us, ne f1 (fun z => nda (by rw [z]; exact List.mem_of_getElem? hk)), f2⟩
    exact go s.wr.nd em s.wr.at_
  · have h := s.sl j sl e'
    cases sl with
    | un => trivial
    | dat d => exact h
    | own k =>
      obtain ⟨f1, f2, f3, f4, fz, us, f5, f6⟩ := h
      exact ⟨f1, f2, f3, f4, fz, us, ne f5 (fun z => f4 (z ▸ hmM)), f6⟩
    | wref k => exact h
theorem js_setIx {i : Nat} {x : Str} {p1 p2 : Pos} {ei : Expr} {di : Ex} (h0 : PE X (.Name x p1) (tVar i)) (hi : JE X T Wi ei di) (h : JE X T Wi e d)
    (ha : ∀ v, assign (.Subscript (.Name x p1) ei p2) X.env v = (do
      let ov ← holding [v] (eval (.Name x p1) X.env)
      let iv ← holding [v, ov] (eval ei X.env)
      standAt p2
      holding [v, ov, iv] (setItem ov iv v)
      release [v, ov, iv] []) := by intro _; rfl)
    (hs : swapsWithSole [.Subscript (.Name x p1) ei p2] e pos.line X.env = pure false := by rfl) (hw : swappedStores [.Subscript (.Name x p1) ei p2] e X.env = pure none := by rfl)
    (h1 : (assignEach [.Subscript (.Name x p1) ei p2] X.env).map (·.2) = [assign (.Subscript (.Name x p1) ei p2) X.env] := by rfl) : JS X T Wi (.Assign [.Subscript (.Name x p1) ei p2] e pos) (sSetIx i di d) := by
  refine (ps_asg h (pg_sub h0 hi set_list ha) hs hw h1).impD fun D σ H q => ?_
  obtain ⟨B, env, w, F, O, M, s, q⟩ := q
  refine ⟨B, env, w, F, O, M, s, q.bind.imp fun r w1 q1 v H1 F1 M1 s1 st1 r1 => ?_⟩
  split at q1
  · rename_i l dd el er
    obtain ⟨F2, s2, st2, a2⟩ := keep_arg s s1 st1 r1 (st_arg er)
    obtain ⟨e1, e2, e3, e4, ez, vs, e5, e6⟩ := s2.sl i _ el
    refine ⟨.ref (O i), e1, B, env, w1, F2, O, M1, s2, q1.bind.imp fun k w2 q2 y H3 F3 M3 s3 st3 r3 => ?_⟩
    split at q2
    · rename_i z
      cases r3
      split at q2
      · rename_i j ej
        obtain ⟨g1, g2, g3, g4, gz, ws, g5, g6⟩ := s3.sl i _ el
        refine ⟨O i, ws, z, j, rfl, rfl, g5, by rw [g6.length]; exact ej, ?_⟩
        exact q2 σ _ F3 O M3 (s3.updOwn el (by rw [List.length_set]; exact gz) (Pr.set (Rp.mono st3.fg _ _ a2) j g6)) (st2.fg.trans st3.fg)
      · exact q2.elim
    · exact q2.elim
  · rename_i m dd em er
    obtain ⟨F2, s2, st2, a2⟩ := keep_arg s s1 st1 r1 (st_arg er)
    obtain ⟨am, e1, e2⟩ := s2.sl i _ em
    refine ⟨.ref am, e2, B, env, w1, F2, O, M1, s2, q1.bind.imp fun k w2 q2 y H3 F3 M3 s3 st3 r3 => ?_⟩
    split at q2
    · rename_i z l el
      cases r3
      split at q2
      · rename_i j ej
        obtain ⟨am3, f1, f2⟩ := s3.sl i _ em
        obtain ⟨am', f3, f4, fz, ws, f5, f6⟩ := s3.wr.get el
        rw [f1] at f3; cases f3
        obtain ⟨nw, en, _⟩ := id st3.mw
        have : am3 = am := by
          have := mem_of_pfx en e1
          rw [f1] at this
          exact Option.some.inj this
        subst this
        refine ⟨am3, ws, z, j, rfl, rfl, f5, by rw [f6.length]; exact ej, ?_⟩
        exact q2 σ _ F3 O M3 (s3.updW el f1 (by rw [List.length_set]; exact fz) (Pr.set (Rp.mono st3.fg _ _ a2) j f6)) (st2.fg.trans st3.fg)
      · exact q2.elim
    · exact q2.elim
  · exact q1.elim
/-- an item of one of the world's lists -/
def dIxW (i : Nat) (ix : Ex) : Ex := fun env w => match env[i]? with
  | some (.wref m) => (ix env w).bind fun k w1 => (match k, w1[m]? with
    | .dat (.int z), some (.lst l) => lift ((atI l z).map .dat) w1
    | _, _ => .stuck)
  | _ => .stuck
theorem je_ixW {i : Nat} {x : Str} {p1 : Pos} {ei : Expr} {di : Ex} (h0 : PE X (.Name x p1) (tVar i)) (hi : JE X T Wi ei di) (hs : PlainIx ei := by exact fun _ _ => rfl) : JE X T Wi (.Subscript (.Name x p1) ei pos) (dIxW i di) := by
  refine (pe_ix ix_list h0 hi hs).impD fun σ H Q q => ?_
  obtain ⟨B, env, w, F, O, M, s, q⟩ := q
  unfold dIxW at q
  split at q
  · rename_i m em
    obtain ⟨am, e1, e2⟩ := s.sl i _ em
    refine ⟨.ref am, e2, B, env, w, F, O, M, s, q.bind.imp fun k w1 q1 y H1 F1 M1 s1 st1 r1 => ?_⟩
    split at q1
    · rename_i z l el
      cases r1
      obtain ⟨rv, e, q3⟩ := q1.lift
      cases ea : atI l z with
      | none => rw [ea] at e; cases e
      | some dd =>
        rw [ea] at e
        cases e
        obtain ⟨am1, f1, f2⟩ := s1.sl i _ em
        obtain ⟨am', f3, f4, fz, ws, f5, f6⟩ := s1.wr.get el
        rw [f1] at f3; cases f3
        obtain ⟨nw, en, _⟩ := id st1.mw
        have : am1 = am := by
          have := mem_of_pfx en e1
          rw [f1] at this
          exact Option.some.inj this
        subst this
        obtain ⟨v, ev, rv⟩ := atI_pair f6 ea
        exact ⟨am1, ws, z, v, rfl, rfl, SqL.of f5, ev, q3 v H1 F1 M1 s1 st1 rv⟩
    · exact q1.elim
  · exact q.elim
/-! ### for -/
def forGo (g : Tgt) (body : Sd) : List D → Sd
  | [], env, w => .ok (.nx env) w
  | d :: ds, env, w => match g d env with
    | some env1 => (body env1 w).bind fun f w1 => (match f with
      | .nx e => forGo g body ds e w1
      | .ct e => forGo g body ds e w1
      | .bk e => .ok (.nx e) w1
      | .rt r => .ok (.rt r) w1)
    | none => .stuck
def sFor (src : Src) (g : Tgt) (body : Sd) : Sd := fun env w => (src env w).bind fun l w1 => forGo g body l env w1
theorem js_for {tg iter : Expr} {body : List Stmt} {src : Src} {g : Tgt} {us : List Nat} (hp : PassesOwn (model X.prog X.w) X.A X.env X.xe) (hc : X.calm = true) (hi : JI X T Wi tg iter src) (hg : JG X T tg g us) (hb : JSs X T Wi body b)
    (hs : ∀ x, foldedSetIterable iter X.env x = pure x := by intro _; rfl) : JS X T Wi (.For tg iter body [] pos) (sFor src g b) := by
  refine (ps_for hp hc hi hg hb hs).impD fun D σ H q => ?_
  obtain ⟨B, env, w, F, O, M, s, q⟩ := q
  refine ⟨B, env, w, F, O, M, s, q.bind.imp fun l w1 q1 J H1 F1 M1 s1 st1 wk => ?_⟩
  refine ⟨fun i m σ H => m = l.length - i ∧ i ≤ l.length ∧ ∃ env w F O M, SR (Cx.tx X T) B env w σ H F O M ∧ Same F1 F ∧ Pst (forGo g b (l.drop i) env w) (flG (Cx.tx X T) B F D) (badX (Cx.tx X T) B Wi), ⟨l.length, by simp, Nat.zero_le _, env, w1, F1, O, M1, s1, Same.refl _, by rw [List.drop_zero]; exact q1.imp fun f w z => z.later st1.fg⟩, ?_⟩
  rintro i m σ' H' ⟨rfl, hi, env', w', F', O', M', s', sf, qq⟩
  by_cases hlt : i < l.length
  · rw [List.drop_eq_getElem_cons hlt] at qq
    refine .inr ⟨wk.go i H' F' sf s'.fh hlt, fun σ H => i + 1 ≤ l.length ∧ ∃ env w F O M, SR (Cx.tx X T) B env w σ H F O M ∧ Same F1 F ∧ Pst (forGo g b (l.drop (i + 1)) env w) (flG (Cx.tx X T) B F D) (badX (Cx.tx X T) B Wi), fun σ H ⟨z1, z2⟩ => ⟨l.length - (i + 1), by omega, rfl, z1, z2⟩, fun x H2 hy => ?_⟩
    obtain ⟨F2, xt2, rx⟩ := wk.yld i H' F' x H2 l[i] sf s'.fh s'.nt hy (List.getElem?_eq_getElem hlt)
    have s2 := s'.xt xt2
    unfold forGo at qq
    split at qq
    · rename_i env1 eg
      refine ⟨B, env', w', F2, O', M', l[i], env1, s2, rx, eg, fun σ3 s3 _ => ?_⟩
      refine ⟨B, env1, w', F2, O', M', s3, qq.bind.imp fun f w4 q4 => ?_⟩
      cases f with
      | nx e => exact fun σ5 H5 F5 O5 M5 s5 k => ⟨hlt, e, w4, F5, O5, M5, s5, (sf.trans xt2.ff).trans k, q4.imp fun f w z => z.later (xt2.ff.trans k)⟩
      | ct e => exact fun σ5 H5 F5 O5 M5 s5 k => ⟨hlt, e, w4, F5, O5, M5, s5, (sf.trans xt2.ff).trans k, q4.imp fun f w z => z.later (xt2.ff.trans k)⟩
      | bk e => exact fun σ5 H5 F5 O5 M5 s5 k => q4 σ5 H5 F5 O5 M5 s5 (xt2.ff.trans k)
      | rt r => exact q4
    · exact qq.elim
  · have hil : i = l.length := by omega
    subst hil
    rw [List.drop_length] at qq
    exact .inl ⟨wk.stop _ H' F' sf s'.fh (Nat.le_refl _), qq σ' H' F' O' M' s' (Same.refl _)⟩
end
end Dl
/-! DlJ: defs, levels, the law. -/
namespace Dl
open PySem PySem.Spec PyProof.Rows L2 NdefX
structure DefB where
  ar : Nat
  ns : Nat
  body : Cs → Sd
def toSl : RV → Sl
  | .dat d => .dat d
  | .wref k => .wref k
  | _ => .un
def initE (args : List RV) (ns : Nat) : Ev := args.map toSl ++ List.replicate (ns - args.length) .un
def endR (o : Out Fl) : Out RV := match o with
  | .ok (.rt r) w => .ok r w
  | .ok (.nx _) w => .ok (.dat .non) w
  | .ok _ _ => .stuck
  | .exc x e w => .exc x e w
  | .stuck => .stuck
@[simp] theorem endR_rt (r : RV) (w : World) : endR (.ok (.rt r) w) = .ok r w := rfl
@[simp] theorem endR_nx (e : Ev) (w : World) : endR (.ok (.nx e) w) = .ok (.dat .non) w := rfl
def runB (b : DefB) (C : Cs) (args : List RV) (w : World) : Out RV := if args.length = b.ar then endR (b.body C (initE args b.ns) w) else .stuck
def Den (tbl : Nat → Option DefB) : Nat → Cs
  | 0 => ⟨fun _ _ _ => .stuck, 200⟩
  | n + 1 => ⟨fun i args w => match tbl i with
    | some b => runB b (Den tbl n) args w
    | none => .stuck, 16 * (n + 1) + 200⟩
theorem den_room (tbl : Nat → Option DefB) (n : Nat) : (Den tbl n).room = 16 * n + 200 := by cases n <;> rfl
theorem den_succ {tbl : Nat → Option DefB} {n i : Nat} {b : DefB} {args : List RV} {w : World} (h : tbl i = some b) : (Den tbl (n + 1)).call i args w = runB b (Den tbl n) args w := by
  show (match tbl i with
    | some b => runB b (Den tbl n) args w
    | none => .stuck) = _
  rw [h]
theorem initE_len {args : List RV} {ns : Nat} (h : args.length ≤ ns) : (initE args ns).length = ns := by
  unfold initE
  rw [List.length_append, List.length_map, List.length_replicate]
  omega
theorem start_len {N : List Str} {vs : List V} (h : vs.length ≤ N.length) : (L2.start N vs).length = N.length := by
  unfold L2.start
  rw [List.length_append, List.length_map, List.length_replicate]
  omega
/-- the state at a def's entry -/
theorem sr_start {X : Tx} {H F : Hp} {M : List Addr} {w : World} {vs : List V} {args : List RV} {N : List Str} (fh : Same F H) (nt : NoTbl F) (wr : WRel X F H M w) (tb : TabsN X.T H) (p : Paired (argAt X F M) vs args) (hl : args.length ≤ N.length) :
    SR X ⟨H, F, M⟩ (initE args N.length) w (L2.start N vs) H F (fun _ => 0) M := by
  have hv := p.length
  refine ⟨by rw [start_len (by omega), initE_len hl], fh, nt, .refl, wr, tb, fun i sl e => ?_, fun i j li lj e1 e2 _ => ?_⟩
  · by_cases hi : i < args.length
    · unfold initE at e
      rw [List.getElem?_append_left (by simpa using hi), List.getElem?_map] at e
      cases ea : args[i]? with
      | none => rw [ea] at e; cases e
      | some a =>
        rw [ea] at e
        simp only [Option.map_some, Option.some.injEq] at e; subst e
        obtain ⟨v, ev, av⟩ := Pr.get p ea
        have es : (L2.start N vs)[i]? = some (some v) := by
          unfold L2.start
          rw [List.getElem?_append_left (by simpa [hv] using hi), List.getElem?_map, ev]
          rfl
        rw [es]
        cases a with
        | dat d => exact ⟨v, rfl, av⟩
        | wref k => obtain ⟨m, e1, e2⟩ := av; subst e2; exact ⟨m, e1, rfl⟩
        | fresh l => exact av.elim
        | bor i l => exact av.elim
    · unfold initE at e
      rw [List.getElem?_append_right (by simpa using hi)] at e
      have := List.mem_of_getElem? e
      rw [List.mem_replicate] at this
      rw [this.2]
      trivial
  · exfalso
    have noOwn : ∀ {i : Nat} {l : List D}, (initE args N.length)[i]? = some (.own l) → False := by
      intro i l e
      have m := List.mem_of_getElem? e
      unfold initE at m
      rcases List.mem_append.mp m with m | m
      · obtain ⟨a, _, ea⟩ := List.mem_map.mp m
        cases a <;> cases ea
      · rw [List.mem_replicate] at m
        cases m.2
    exact noOwn e1
/-- a def, by its body's denotation -/
theorem def_ok {P : Program} {w : PySem.World} {K : PySem.W.Frag} {mg : Str → Option Value} {base : Heap} {T : List NTab} {x qual : Str} {params : Arguments} {body : List Stmt} {scope : Scope} {f : Addr} {fd : FuncData} {N ps : List Str} {tbl : Nat → Option DefB} {n i : Nat} {bd : Cs → Sd}
    (F : FunD K x qual params body scope [] [] f fd) (S : FnScope N ps scope) (ht : tbl i = some ⟨ps.length, N.length, bd⟩)
    (hb : ∀ (cdv : Value) (A : Around) (outer : List Env) (s : Shared) (H : Hp) (E : XK), Room n (A.deeper (envOfC qual scope s.heap.objs.size f cdv)) →
      JSs (cxOf (L2.CX P w) P w K mg base N qual scope f cdv A outer s H E) T (fun cls d _ H => E cls d H) body (bd (Den tbl n))) :
    FnOk P w K mg base (L2.CX P w) (n + 1) f fd ps (spD ⟨K, mg, T⟩ ((Den tbl (n + 1)).call i)) := by
  have hNl : ps.length ≤ N.length := by
    have := congrArg List.length S.pre
    rw [List.length_take] at this
    omega
  have hlen : ∀ vs H Q E, spD ⟨K, mg, T⟩ ((Den tbl (n + 1)).call i) vs H Q E → vs.length = ps.length := by
    intro vs H Q E h
    obtain ⟨F', M, args, w', fh, nt, wr, tb, p, q⟩ := h
    rw [den_succ ht] at q
    unfold runB at q
    split at q
    · rename_i hl; rw [p.length]; exact hl
    · exact q.elim
  refine F.ok S hlen fun cdv A outer s H vs Q E hr h => ⟨_, hb cdv A outer s H E hr, ?_⟩
  obtain ⟨F', M, args, w', fh, nt, wr, tb, p, q⟩ := h
  rw [den_succ ht] at q
  unfold runB at q
  split at q
  · rename_i hl
    have hl : args.length = ps.length := hl
    refine ⟨⟨H, F', M⟩, _, w', F', _, M, sr_start fh nt wr tb p (by omega), ?_⟩
    have q : Pst (endR (bd (Den tbl n) (initE args N.length) w')) _ _ := q
    cases eo : bd (Den tbl n) (initE args N.length) w' with
    | stuck => rw [eo] at q; exact q.elim
    | exc x' e' w2 =>
      rw [eo] at q
      intro cls d σ' H' F2 O2 M2 s2 hx
      exact q cls d H' F2 M2 s2.fh s2.nt s2.wr s2.tb s2.st hx
    | ok fl w2 =>
      rw [eo] at q
      cases fl with
      | rt r =>
        intro v H' F2 M2 ra
        exact q v H' F2 M2 ra.fh ra.nt ra.wr ra.tb ra.st ra.at_
      | nx e =>
        intro σ' H' F2 O2 M2 s2 _
        exact q .non H' F2 M2 s2.fh s2.nt s2.wr s2.tb s2.st .non
      | bk e => exact q.elim
      | ct e => exact q.elim
  · exact q.elim
/-- at level 0 nothing is promised -/
theorem def_zero {P : Program} {w : PySem.World} {K : PySem.W.Frag} {mg : Str → Option Value} {base : Heap} {T : List NTab} {f : Addr} {fd : FuncData} {ps : List Str} {tbl : Nat → Option DefB} {i : Nat} {CX : CXT} : FnOk P w K mg base CX 0 f fd ps (spD ⟨K, mg, T⟩ ((Den tbl 0).call i)) := by
  have no : ∀ vs H Q E, ¬ spD ⟨K, mg, T⟩ ((Den tbl 0).call i) vs H Q E := fun vs H Q E h => by
    obtain ⟨_, _, _, _, _, _, _, _, _, q⟩ := h
    exact q
  exact ⟨fun vs H Q E h => absurd h (no vs H Q E), fun A outer s H args us vs Q E _ _ _ _ h => absurd h (no vs H Q E)⟩
/-- a def that stands behind the top: its name, its place in the table, what it computes at each level -/
structure Dfn (P : Program) (w : PySem.World) (K : PySem.W.Frag) (mg : Str → Option Value) (base : Heap) (T : List NTab) (C : Cs) (n : Nat) (x : Str) (i : Nat) : Prop where
  ex : ∃ (a : Addr) (fd : FuncData) (ps : List Str), mg x = some (.ref a) ∧ PySem.W.keepIn K (.ref a) = true ∧ Binds K fd ps [] ∧ FnOk P w K mg base (L2.CX P w) n a fd ps (spD ⟨K, mg, T⟩ (C.call i))
theorem Dfn.cal {X : Cx} {T : List NTab} {C : Cs} {n : Nat} {x : Str} {i : Nat} (d : Dfn X.prog X.w X.K X.mg X.base T C n x i) : Cal X T n C x i := ⟨d.ex⟩
/-- the law's promise from what it computes -/
theorem law_sp {K : PySem.W.Frag} {mg : Str → Option Value} {m : List RV → World → Out RV} {H : Hp} {a : Addr} {ns : List Int} (hO : Only H) (hS : SqL K H a (ns.map V.int)) (hl : ns.length ≤ sizeLine) {w' : World} (h : m [.dat (.lst (ns.map D.int))] [] = .ok (.dat (.bl true)) w') :
    spD ⟨K, mg, []⟩ m [.ref a] H (fun v _ => v = .bl true) (fun _ _ _ => False) := by
  have nt : NoTbl H := fun b ps e => by
    rcases hO b with z | ⟨o, xs, z⟩
    · rw [z] at e; cases e
    · rw [z] at e; cases e
  have pp : ∀ ns : List Int, Paired (Rp K H) (ns.map V.int) (ns.map D.int) := by
    intro ns
    induction ns with
    | nil => exact .nil
    | cons n ns ih => exact .cons (.int n) ih
  refine ⟨H, [], [.dat (.lst (ns.map D.int))], [], Same.refl _, nt, ⟨List.nodup_nil, .nil⟩, (show TabsN [] H from fun p hp => absurd hp List.not_mem_nil), .cons (.lst (by rw [List.length_map]; exact hl) hS (pp ns)) .nil, ?_⟩
  rw [h]
  intro v H' F' M' _ _ _ _ _ r
  cases r
  rfl
end Dl
/-! DlK: constants of the module, tables by text keys. -/
namespace Dl
open PySem PySem.Spec PyProof.Rows L2 NdefX
section
variable {X : Cx} {T : List NTab} {Wi : WX} {a : Expr} {da : Ex} {pos : Pos}
theorem pe_globI {x : Str} {i : Int} (hg : Gl X x) (hm : ∃ t, X.mg x = some (.int i t)) (hd : (x == ("__debug__" : Str)) = false := by decide) : PE X (.Name x pos) (tC (.int i)) := by
  obtain ⟨t, e⟩ := hm
  exact pe_glob hg e ⟨t, rfl⟩ hd
theorem pe_globS {x : Str} {i : Str} (hg : Gl X x) (hm : ∃ t, X.mg x = some (.str i t)) (hd : (x == ("__debug__" : Str)) = false := by decide) : PE X (.Name x pos) (tC (.str i)) := by
  obtain ⟨t, e⟩ := hm
  exact pe_glob hg e ⟨t, rfl⟩ hd
/-- a table of the top -/
def sV : D → V
  | .int i => .int i
  | .str s => .str s
  | .bl b => .bl b
  | _ => .non
structure TabAt (K : PySem.W.Frag) (w : PySem.World) (mg : Str → Option Value) (x : Str) (t : List (Str × D)) : Prop where
  ex : ∃ a es n, mg x = some (.ref a) ∧ KDict K w a es n ∧ (∀ q ∈ t, ∃ u, PySem.W.nsIn K a q.1 = some (some u) ∧ RelV (sV q.2) u)
def gGetK (t : List (Str × D)) : D → Option RV
  | .str z => (match t.lookup z with
    | some (.int i) => some (.dat (.int i))
    | some (.bl i) => some (.dat (.bl i))
    | _ => none)
  | _ => none
theorem lookup_mem {t : List (Str × D)} {z : Str} {d : D} (h : t.lookup z = some d) : (z, d) ∈ t := by
  induction t with
  | nil => cases h
  | cons p t ih =>
    obtain ⟨k, v⟩ := p
    rw [List.lookup_cons] at h
    split at h
    · rename_i e
      cases h
      rw [eq_of_beq e]
      exact .head _
    · exact .tail _ (ih h)
theorem je_getK {x : Str} {t : List (Str × D)} {p0 apos : Pos} (D : TabAt X.K X.w X.mg x t) (hg : Gl X x) (ha : JE X T Wi a da) (m : M1 X (.Name x p0) "get" apos a pos := by exact ⟨rfl, rfl, rfl, rfl⟩) (hd : (x == ("__debug__" : Str)) = false := by decide) :
    JE X T Wi (.Call (.Attribute (.Name x p0) "get" apos) [a] [] pos) (dUn (gGetK t) da) := by
  obtain ⟨l, es, n, hx, kd, hv⟩ := D.ex
  refine ⟨fun pins s σ H Q I q => ?_⟩
  have q := un_read (r := fun x H1 Q => ∃ z v u, x = .str z ∧ PySem.W.nsIn X.K l z = some (some u) ∧ RelV v u ∧ Q v H1) (fun x d rv H F fh nt rx h Q q => ?_) q
  · refine wpAny_Call_method m.base m.few m.line PySem.F.plainAttrs_dict PySem.F.slot_dict_get PySem.F.type_dict_get (thn ((pe_glob (v := .ref l) hg hx rfl hd).run pins s σ H (fun v H' => v = .ref l ∧ H' = H) I ⟨rfl, rfl⟩) fun u s1 ⟨x, H1, I1, rx, ex, eh⟩ => ?_)
    subst ex eh
    obtain rfl : u = Value.ref l := rx
    have mo := PySem.W.mapOf_K (prog := X.prog) (w := X.w) I1.kIn kd.at_ kd.lit
    refine ⟨mo.typeIs, fun b e => ?_, ?_⟩
    · cases e
      exact ⟨_, I1.kIn _ _ kd.at_, rfl⟩
    rw [m.trees]
    refine Calls.callWith_builtin rfl (Calls.evalArgs_plain (Calls.spliced_cons (thn (ha.run pins s1 σ H1 _ I1 q) fun iv s2 ⟨y, H2, I2, ry, z, v, u, ez, en, rv, q2⟩ => Calls.spliced_nil ?_)))
    subst ez
    obtain ⟨t, rfl⟩ := (show ∃ t, iv = Value.str z t from ry)
    have mo2 := PySem.W.mapOf_K (prog := X.prog) (w := X.w) I2.kIn kd.at_ kd.lit
    refine call_meetsIn PySem.F.slot_dict_get mo2.typeIs PySem.F.entry_dict_get (PySem.F.args_dict_get_2 _ _) (meets_dict_get (PySem.strKind X.prog X.w) l (PySem.strKind_is X.prog X.w z t) kd.low) ⟨_, mo2, ?_⟩
    rw [PySem.W.find_K kd.at_ en]
    exact ⟨v, H2, I2.tok _, rv, q2⟩
  · cases d <;> first | (simp only [gGetK] at h; cases h; done) | skip
    rename_i z
    cases rx
    simp only [gGetK] at h
    split at h
    · rename_i i e
      cases h
      obtain ⟨u, e1, e2⟩ := hv _ (lookup_mem e)
      exact ⟨z, .int i, u, rfl, e1, e2, new_val fh nt q (.int i)⟩
    · rename_i i e
      cases h
      obtain ⟨u, e1, e2⟩ := hv _ (lookup_mem e)
      exact ⟨z, .bl i, u, rfl, e1, e2, new_val fh nt q (.bl i)⟩
    · cases h
end
end Dl
/-! DlH2: the head: a hook with facts of one's own, the law's end at any world. -/
namespace Dl
open PySem PySem.Spec PyProof.Rows L2 NdefX He
abbrev AlX : Type := AlT × Bool
def obsX (fa : List Fa) (fn : List DefD) (ts : List Tab) (ex : PySem.W.Frag → Bool) (K : PySem.W.Frag) : AlX := (obsT fa fn ts K, ex K)
def valX (fn : List DefD) (ts : List Tab) (w : PySem.World) : AlX := (valT fn ts w, true)
def obsXG (n : Nat) (fa : List Fa) (fn : List DefD) (ts : List Tab) (ex : PySem.W.Frag → Bool) (g : Addr → Option Obj) : AlX := obsX fa fn ts ex (frG g (asD g n))
def SaysX (fa : List Fa) (fn : List DefD) (ts : List Tab) (ex : PySem.W.Frag → Bool) (w : PySem.World) (K : PySem.W.Frag) : Prop := obsX fa fn ts ex K = valX fn ts w
def hookX (n : Nat) (fa : List Fa) (fn : List DefD) (ts : List Tab) (ex : PySem.W.Frag → Bool) : PySem.W.Hook where
  α := AlX
  obs := fun s => obsXG n fa fn ts ex s.heap.get?
  val := fun w => valX fn ts w
  says := fun w h => ∃ K : PySem.W.Frag, K.In h ∧ SaysX fa fn ts ex w K
  of := fun _ _ e => ⟨_, frG_in, e⟩
  keeps := fun _ _ _ ⟨K, hK, c⟩ k => ⟨K, PySem.W.Frag.In.keeps hK k, c⟩
theorem obsXG_eq {n : Nat} {fa : List Fa} {fn : List DefD} {ts : List Tab} {ex : PySem.W.Frag → Bool} {g : Addr → Option Obj} {s : Shared} (h : ∀ a, g a = s.heap.get? a) : obsXG n fa fn ts ex g = (hookX n fa fn ts ex).obs s := by
  have e : g = s.heap.get? := funext h
  rw [e] <;> rfl
section
variable {fa : List Fa} {fn : List DefD} {ts : List Tab} {ex : PySem.W.Frag → Bool} {w : PySem.World} {K : PySem.W.Frag}
theorem SaysX.t (c : SaysX fa fn ts ex w K) : SaysT fa fn ts w K := congrArg (fun z : AlX => z.1) c
theorem SaysX.x (c : SaysX fa fn ts ex w K) : ex K = true := congrArg (fun z : AlX => z.2) c
/-- a table of ints by text keys -/
theorem tabAt_of {mg : Str → Option Value} {h : Heap} {x : Str} {t : List (Str × D)} {kvs : List (Str × Dv)} {es : Array DictEntry} {n : Nat} (X : K.In h) (G : h.Ns mainGlobals mg) (c : (Fa.glo x).ok K = true) (kd : KDict K w (ga K x) es n) (hv : valsB K (ga K x) kvs = true)
    (he : t.map (fun q => (q.1, sV q.2)) = kvs.map fun q => (q.1, q.2.v K)) : TabAt K w mg x t := by
  refine ⟨ga K x, es, n, glo_ok X G c, kd, fun q hq => ?_⟩
  have m : (q.1, sV q.2) ∈ kvs.map fun q => (q.1, q.2.v K) := by rw [← he]; exact List.mem_map.mpr ⟨q, hq, rfl⟩
  obtain ⟨r, hr, er⟩ := List.mem_map.mp m
  obtain ⟨u, e1, e2⟩ := valsB_ok hv hr
  have e3 : r.1 = q.1 := congrArg Prod.fst er
  have e4 : r.2.v K = sV q.2 := congrArg Prod.snd er
  rw [e3] at e1
  rw [e4] at e2
  exact ⟨u, e1, e2⟩
end
theorem noCX {P : Program} {w : PySem.World} (H : Hp) (s : Shared) (e : Value) (s' : Shared) (h : L2.CX P w [] H s (fun _ _ _ => False) e s') : False := by
  obtain ⟨_, _, _, _, _, _, _, _, _, _, _, _, f⟩ := h
  exact f
/-- walk_ofE, with what is behind a call at the world -/
theorem walk_ofW {l : PySem.W.OpenLaw} {n k : Nat} {q : Program} {loose : List Str} {XP : (Str → Option Value) → Heap → Prop} {YP : PySem.World → Heap → Prop} {d : DefRec} {x : Str}
    (hn : l.most = some n) (hn2 : n ≤ sizeLine) (hdf : d.params.defaults = []) (hr : Room k callerA)
    (F : ∀ (w : PySem.World) (mg : Str → Option Value) (fa : Addr) (h : Heap), YP w h → h.Ns mainGlobals mg → mg d.name = some (.ref fa) →
      ∃ (K : PySem.W.Frag) (fd : FuncData) (sp : Sp), K.In h ∧ (∀ (s : Shared) (u : Value), BindsTo s fd ⟨[u], []⟩ [(x, u)]) ∧
        (∀ (H : Hp) (a : Addr) (ns : List Int), ns.length ≤ n → Only H → SqL K H a (ns.map V.int) → sp [.ref a] H (fun v _ => v = .bl true) fun _ _ _ => False) ∧
        ∀ base : Heap, K.In base → base.Ns mainGlobals mg → FnOk l.prog w K mg base (L2.CX l.prog w) k fa fd [x] sp) :
    PySem.W.WalkO q loose XP YP l.row.toRowW d [] (fun f vs => PySem.call f vs) := by
  refine Att.attach_call hn hdf fun w s₀ s₁ mg mb fa o pm cd doc a vs ns G Y ho hd hcd hmg hobj hints hlen hg => ?_
  obtain ⟨K, fd, sp, KX, hb, hsp, hF⟩ := F w mg fa _ Y G.T.g hmg
  exact law_call KX G.T.g G.T.b G.T.builtins G.T.nolimit hg hobj hints (Nat.le_trans hlen hn2) hr hF hb (fun H hO hS => hsp H a ns hlen hO hS) fun H e s' => noCX H s₁ e s'
end Dl
/-! DlP: the plain side: what the denotations compute. -/
namespace Dl
open PySem PySem.Spec PyProof.Rows L2 NdefX
section
variable {α β : Type} {env : Ev} {w : World} {i : Nat} {e : Ex} {a b : Sd}
@[simp] theorem bind_ite {c : Prop} [Decidable c] {x y : Out α} {f : α → World → Out β} : (if c then x else y).bind f = if c then x.bind f else y.bind f := by split <;> rfl
@[simp] theorem sNil_ap : sNil env w = .ok (.nx env) w := rfl
@[simp] theorem sPass_ap : sPass env w = .ok (.nx env) w := rfl
@[simp] theorem sBreak_ap : sBreak env w = .ok (.bk env) w := rfl
@[simp] theorem sCont_ap : sCont env w = .ok (.ct env) w := rfl
@[simp] theorem sRetN_ap : sRetN env w = .ok (.rt (.dat .non)) w := rfl
def seqK (b : Sd) : Fl → World → Out Fl := fun f w1 => match f with
  | .nx env1 => b env1 w1
  | f => .ok f w1
@[simp] theorem seqK_nx : seqK b (.nx env) w = b env w := rfl
@[simp] theorem seqK_rt {r : RV} : seqK b (.rt r) w = .ok (.rt r) w := rfl
@[simp] theorem seqK_bk : seqK b (.bk env) w = .ok (.bk env) w := rfl
@[simp] theorem seqK_ct : seqK b (.ct env) w = .ok (.ct env) w := rfl
@[simp] theorem sSeq_ap : sSeq a b env w = (a env w).bind (seqK b) := rfl
@[simp] theorem sIf_ap {c : Tst} : sIf c a b env w = (c env w).bind fun k w1 => if k = true then a env w1 else b env w1 := rfl
@[simp] theorem sExpr_ap : sExpr e env w = (e env w).bind fun _ w1 => .ok (.nx env) w1 := rfl
@[simp] theorem sRet_ap : sRet e env w = (e env w).bind fun r w1 => .ok (.rt r.ret) w1 := rfl
@[simp] theorem ret_dat {d : D} : (RV.dat d).ret = .dat d := rfl
@[simp] theorem ret_fresh {l : List D} : (RV.fresh l).ret = .fresh l := rfl
@[simp] theorem ret_bor {l : List D} : (RV.bor i l).ret = .fresh l := rfl
@[simp] theorem ret_wref {k : Nat} : (RV.wref k).ret = .wref k := rfl
def setK (i : Nat) (env : Ev) : RV → World → Out Fl := fun r w1 => match r with
  | .dat d => .ok (.nx (env.set i (.dat d))) w1
  | .fresh l => .ok (.nx (env.set i (.own l))) w1
  | .wref k => .ok (.nx (env.set i (.wref k))) w1
  | .bor _ _ => .stuck
@[simp] theorem setK_dat {d : D} : setK i env (.dat d) w = .ok (.nx (env.set i (.dat d))) w := rfl
@[simp] theorem setK_fresh {l : List D} : setK i env (.fresh l) w = .ok (.nx (env.set i (.own l))) w := rfl
@[simp] theorem setK_wref {k : Nat} : setK i env (.wref k) w = .ok (.nx (env.set i (.wref k))) w := rfl
@[simp] theorem sSet_ap : sSet i e env w = (e env w).bind (setK i env) := rfl
@[simp] theorem sSetW_ap : sSetW i e env w = (e env w).bind fun r w1 => match r with
  | .fresh l => .ok (.nx (env.set i (.wref w1.length))) (w1 ++ [.lst l])
  | _ => .stuck := rfl
@[simp] theorem sAsg_ap {g : Tgt} : sAsg g e env w = (e env w).bind fun r w1 => match r.arg with
  | some (.dat d) => (match g d env with
    | some env' => .ok (.nx env') w1
    | none => .stuck)
  | _ => .stuck := rfl
@[simp] theorem sAppend_ap : sAppend i e env w = (match env[i]? with
  | some (.own l) => (e env w).bind fun r w1 => (match r.st with
    | some d => if l.length < 16777216 then .ok (.nx (env.set i (.own (l ++ [d])))) w1 else .stuck
    | none => .stuck)
  | _ => .stuck) := rfl
@[simp] theorem sSetIx_ap {ix : Ex} : sSetIx i ix e env w = (e env w).bind fun r w1 => match env[i]?, r.st with
  | some (.own l), some d => (ix env w1).bind fun k w2 => (match k with
    | .dat (.int z) => (match ixN l.length z with
      | some j => .ok (.nx (env.set i (.own (l.set j d)))) w2
      | none => .stuck)
    | _ => .stuck)
  | some (.wref m), some d => (ix env w1).bind fun k w2 => (match k, w2[m]? with
    | .dat (.int z), some (.lst l) => (match ixN l.length z with
      | some j => .ok (.nx env) (w2.set m (.lst (l.set j d)))
      | none => .stuck)
    | _, _ => .stuck)
  | _, _ => .stuck := rfl
@[simp] theorem sFor_ap {src : Src} {g : Tgt} {body : Sd} : sFor src g body env w = (src env w).bind fun l w1 => forGo g body l env w1 := rfl
@[simp] theorem sAug_ap {g : D → D → Option RV} : sAug i g e env w = (match env[i]? with
  | some (.dat x) => (e env w).bind fun r w1 => (match r.val with
    | some y => (match g x y with
      | some (.dat z) => .ok (.nx (env.set i (.dat z))) w1
      | _ => .stuck)
    | none => .stuck)
  | _ => .stuck) := rfl
end
section
variable {env : Ev} {w : World} {i : Nat} {e a b c : Ex} {d : D} {l : List D}
@[simp] theorem dName_ap : dName i env w = (match env[i]? with
  | some (.dat d) => .ok (.dat d) w
  | some (.own l) => .ok (.bor i l) w
  | some (.wref k) => .ok (.wref k) w
  | _ => .stuck) := rfl
@[simp] theorem dC_ap : dC d env w = .ok (.dat d) w := rfl
@[simp] theorem arg_dat : (RV.dat d).arg = some (.dat d) := rfl
@[simp] theorem arg_fresh : (RV.fresh l).arg = some (.dat (.lst l)) := rfl
@[simp] theorem arg_wref {k : Nat} : (RV.wref k).arg = some (.wref k) := rfl
@[simp] theorem arg_bor : (RV.bor i l).arg = none := rfl
@[simp] theorem val_dat : (RV.dat d).val = some d := rfl
@[simp] theorem val_fresh : (RV.fresh l).val = some (.lst l) := rfl
@[simp] theorem val_bor : (RV.bor i l).val = some (.lst l) := rfl
@[simp] theorem st_dat : (RV.dat d).st = some d := rfl
@[simp] theorem st_fresh : (RV.fresh l).st = some (.lst l) := rfl
@[simp] theorem aNil_ap : aNil env w = .ok [] w := rfl
@[simp] theorem rNil_ap : rNil env w = .ok [] w := rfl
@[simp] theorem aCons_ap {r : Exs} : aCons e r env w = (e env w).bind fun x w1 => match x.arg with
  | some a => (r env w1).bind fun as w2 => .ok (a :: as) w2
  | none => .stuck := rfl
@[simp] theorem rCons_ap {r : Exs} : rCons e r env w = (e env w).bind fun x w1 => (r env w1).bind fun xs w2 => .ok (x :: xs) w2 := rfl
@[simp] theorem dats_nil : dats [] = some [] := rfl
@[simp] theorem dats_cons {rs : List RV} : dats (.dat d :: rs) = (dats rs).map (d :: ·) := by
  show (match some d, dats rs with
    | some d, some ds => some (d :: ds)
    | _, _ => none) = _
  cases dats rs <;> rfl
@[simp] theorem vals_nil : vals [] = some [] := rfl
@[simp] theorem vals_cons {r : RV} {rs : List RV} : vals (r :: rs) = (match r.val, vals rs with
    | some d, some ds => some (d :: ds)
    | _, _ => none) := rfl
@[simp] theorem dTup_ap {es : Exs} : dTup es env w = (es env w).bind fun rs w1 => match dats rs with
  | some ds => if ds.length ≤ 1000 then .ok (.dat (.tup ds)) w1 else .stuck
  | none => .stuck := rfl
@[simp] theorem dLst_ap {es : Exs} : dLst es env w = (es env w).bind fun rs w1 => match dats rs with
  | some ds => if ds.length ≤ 1000 then .ok (.fresh ds) w1 else .stuck
  | none => .stuck := rfl
@[simp] theorem dCall_ap {C : Cs} {es : Exs} : dCall C i es env w = (es env w).bind fun rs w1 => withEnv env (C.call i rs w1) := rfl
@[simp] theorem dBlt_ap {g : List D → Option RV} {es : Exs} : dBlt g es env w = (es env w).bind fun rs w1 => match vals rs with
  | some ds => lift (g ds) w1
  | none => .stuck := rfl
@[simp] theorem vals2_ap {g : D → D → Option RV} {x y : RV} : vals2 g x y = (match x.val, y.val with
  | some x, some y => g x y
  | _, _ => none) := rfl
@[simp] theorem vals1_ap {g : D → Option RV} {x : RV} : vals1 g x = (match x.val with
  | some x => g x
  | none => none) := rfl
@[simp] theorem dBin_ap {g : D → D → Option RV} : dBin g a b env w = (a env w).bind fun ra w1 => (b env w1).bind fun rb w2 => lift (vals2 g ra rb) w2 := rfl
@[simp] theorem dUn_ap {g : D → Option RV} : dUn g a env w = (a env w).bind fun ra w1 => lift (vals1 g ra) w1 := rfl
def andK (b : Ex) (env : Ev) : RV → World → Out RV := fun ra w1 => match ra with
  | .dat (.bl true) => b env w1
  | .dat (.bl false) => .ok (.dat (.bl false)) w1
  | _ => .stuck
@[simp] theorem andK_bl {k : Bool} : andK b env (.dat (.bl k)) w = if k = true then b env w else .ok (.dat (.bl false)) w := by cases k <;> rfl
@[simp] theorem dAnd_ap : dAnd a b env w = (a env w).bind (andK b env) := rfl
def orK (b : Ex) (env : Ev) : RV → World → Out RV := fun ra w1 => match ra with
  | .dat (.bl false) => b env w1
  | .dat (.bl true) => .ok (.dat (.bl true)) w1
  | _ => .stuck
@[simp] theorem orK_bl {k : Bool} : orK b env (.dat (.bl k)) w = if k = true then .ok (.dat (.bl true)) w else b env w := by cases k <;> rfl
@[simp] theorem dOr_ap : dOr a b env w = (a env w).bind (orK b env) := rfl
@[simp] theorem dIf_ap {t : Tst} : dIf t a b env w = (t env w).bind fun c w1 => if c = true then a env w1 else b env w1 := rfl
def chK (g' : D → D → Option RV) (c : Ex) (env : Ev) (rb : RV) (w2 : World) : Option RV → Out RV
  | some (.dat (.bl true)) => (c env w2).bind fun rc w3 => lift (vals2 g' rb rc) w3
  | some (.dat (.bl false)) => .ok (.dat (.bl false)) w2
  | _ => .stuck
@[simp] theorem chK_bl {g' : D → D → Option RV} {rb : RV} {k : Bool} : chK g' c env rb w (some (.dat (.bl k))) = if k = true then (c env w).bind fun rc w3 => lift (vals2 g' rb rc) w3 else .ok (.dat (.bl false)) w := by cases k <;> rfl
@[simp] theorem dChain_ap {g g' : D → D → Option RV} : dChain g g' a b c env w = (a env w).bind fun ra w1 => (b env w1).bind fun rb w2 => chK g' c env rb w2 (vals2 g ra rb) := by
  unfold dChain chK
  rfl
@[simp] theorem dTst_ap : dTst a env w = (a env w).bind fun ra w1 => match ra with
  | .dat (.bl b) => .ok b w1
  | _ => .stuck := rfl
@[simp] theorem dTru_ap : dTru a env w = (a env w).bind fun ra w1 => match ra.val with
  | some d => (match d.truth with
    | some b => .ok b w1
    | none => .stuck)
  | none => .stuck := rfl
@[simp] theorem truth_bl {k : Bool} : (D.bl k).truth = some k := rfl
@[simp] theorem truth_int {k : Int} : (D.int k).truth = some (k != 0) := rfl
@[simp] theorem truth_lst : (D.lst l).truth = some (!l.isEmpty) := rfl
@[simp] theorem truth_tup : (D.tup l).truth = some (!l.isEmpty) := rfl
@[simp] theorem truth_non : D.non.truth = some false := rfl
@[simp] theorem tNot_ap {t : Tst} : tNot' t env w = (t env w).bind fun b w1 => .ok (!b) w1 := rfl
@[simp] theorem tAnd_ap {t u : Tst} : tAnd' t u env w = (t env w).bind fun c w1 => if c = true then u env w1 else .ok false w1 := rfl
@[simp] theorem tOr_ap {t u : Tst} : tOr' t u env w = (t env w).bind fun c w1 => if c = true then .ok true w1 else u env w1 := rfl
@[simp] theorem tYes_ap : tYes' env w = .ok true w := rfl
@[simp] theorem optI_none : optI none env w = .ok none w := rfl
@[simp] theorem optI_some : optI (some a) env w = (a env w).bind fun r w1 => match r with
    | .dat (.int i) => .ok (some i) w1
    | _ => .stuck := rfl
@[simp] theorem dSl_ap {lo hi : Option Ex} : dSl a lo hi env w = (a env w).bind fun ra w1 => (optI lo env w1).bind fun l w2 => (optI hi env w2).bind fun u w3 => lift (vals1 (gSl l u) ra) w3 := rfl
@[simp] theorem dIxW_ap : dIxW i a env w = (match env[i]? with
  | some (.wref m) => (a env w).bind fun k w1 => (match k, w1[m]? with
    | .dat (.int z), some (.lst l) => lift ((atI l z).map .dat) w1
    | _, _ => .stuck)
  | _ => .stuck) := rfl
@[simp] theorem iSeq_ap : iSeq a env w = (a env w).bind fun r w1 => match r.its with
  | some l => .ok l w1
  | none => .stuck := rfl
@[simp] theorem its_lst : (RV.dat (.lst l)).its = some l := rfl
@[simp] theorem its_tup : (RV.dat (.tup l)).its = some l := rfl
@[simp] theorem its_fresh : (RV.fresh l).its = some l := rfl
@[simp] theorem iRange_ap {g : List D → Option (Int × Int)} {es : Exs} : iRange g es env w = (es env w).bind fun rs w1 => match vals rs with
  | some ds => (match g ds with
    | some (lo, hi) => if (hi - lo).toNat ≤ 16777216 ∧ -(2 ^ 62) ≤ lo ∧ lo < 2 ^ 62 ∧ -(2 ^ 62) ≤ hi ∧ hi < 2 ^ 62 then .ok (rngD lo hi) w1 else .stuck
    | none => .stuck)
  | none => .stuck := rfl
@[simp] theorem rg1_i {j : Int} : rg1 [.int j] = some (0, j) := rfl
@[simp] theorem rg2_i {j k : Int} : rg2 [.int j, .int k] = some (j, k) := rfl
@[simp] theorem dComp_ap {src : Src} {vs : List Nat} {g : Tgt} {tt : Tst} : dComp src vs g tt e env w = (src env w).bind fun l w1 => (compGo g tt e (wipeE env vs) l w1).bind fun xs w2 => .ok (.fresh xs) w2 := rfl
@[simp] theorem wipe_nil : wipeE env [] = env := rfl
@[simp] theorem wipe_cons {v : Nat} {vs : List Nat} : wipeE env (v :: vs) = (wipeE env vs).set v .un := rfl
@[simp] theorem gN_ap : gN i d env = some (env.set i (.dat d)) := rfl
@[simp] theorem gT_ap {n : Nat} {ts : Tgts} : gT n ts (.tup l) env = if l.length = n then ts l env else none := rfl
@[simp] theorem gsNil_ap : gsNil [] env = some env := rfl
@[simp] theorem gsCons_ap {t : Tgt} {ts : Tgts} : gsCons t ts (d :: l) env = (t d env).bind fun env' => ts l env' := rfl
@[simp] theorem go_nil {g : Tgt} {tt : Tst} : compGo g tt e env [] w = .ok [] w := rfl
@[simp] theorem for_nil {g : Tgt} {s : Sd} : forGo g s [] env w = .ok (.nx env) w := rfl
end
/-! values -/
section
variable {i j : Int} {s t : Str} {rm : Nat} {k l : List D} {b c : Bool} {d : D}
@[simp] theorem gAdd_i : gAdd (.int i) (.int j) = some (.dat (.int (i + j))) := rfl
@[simp] theorem gSub_i : gSub (.int i) (.int j) = some (.dat (.int (i - j))) := rfl
@[simp] theorem gMul_i : gMul (.int i) (.int j) = if mulOk i j then some (.dat (.int (i * j))) else none := rfl
@[simp] theorem gFdiv_i : gFdiv (.int i) (.int j) = if 0 < j ∧ (j < 1073741824 ∨ j.natAbs.log2 < 8990) then some (.dat (.int (i / j))) else none := rfl
@[simp] theorem gMod_i : gMod (.int i) (.int j) = if 0 < j then some (.dat (.int (i % j))) else none := rfl
@[simp] theorem gPow_i : gPow (.int i) (.int j) = if 0 ≤ j ∧ j ≤ 1000000 ∧ i.natAbs < 2 ^ 64 then some (.dat (.int (i ^ j.toNat))) else none := rfl
@[simp] theorem gAdd_t : gAdd (.tup k) (.tup l) = if k.length + l.length ≤ sizeLine then some (.dat (.tup (k ++ l))) else none := rfl
@[simp] theorem gAdd_l : gAdd (.lst k) (.lst l) = if k.length + l.length ≤ sizeLine then some (.fresh (k ++ l)) else none := rfl
@[simp] theorem gNeg_i : gNeg (.int i) = some (.dat (.int (-i))) := rfl
@[simp] theorem gNot_b : gNot (.bl b) = some (.dat (.bl (!b))) := rfl
@[simp] theorem dep_i : (D.int i).dep = 0 := rfl
@[simp] theorem dep_b : (D.bl b).dep = 0 := rfl
@[simp] theorem dep_s : (D.str s).dep = 0 := rfl
@[simp] theorem dep_n : D.non.dep = 0 := rfl
theorem eq_i : (D.int i).eq (.int j) = decide (i = j) := by rfl
@[simp] theorem gEq_i : gEq rm (.int i) (.int j) = some (.dat (.bl (decide (i = j)))) := by simp [gEq, eq_i]
@[simp] theorem gNe_i : gNe rm (.int i) (.int j) = some (.dat (.bl (!decide (i = j)))) := by simp [gNe, eq_i]
@[simp] theorem gLt_i : gLt rm (.int i) (.int j) = some (.dat (.bl (decide (i < j)))) := rfl
@[simp] theorem gGt_i : gGt rm (.int i) (.int j) = some (.dat (.bl (decide (j < i)))) := rfl
@[simp] theorem gLe_i : gLe rm (.int i) (.int j) = some (.dat (.bl (decide (i ≤ j)))) := rfl
@[simp] theorem gGe_i : gGe rm (.int i) (.int j) = some (.dat (.bl (decide (j ≤ i)))) := rfl
@[simp] theorem gIs_b : gIs (.bl b) (.bl c) = some (.dat (.bl (decide (b = c)))) := rfl
@[simp] theorem gIsNot_b : gIsNot (.bl b) (.bl c) = some (.dat (.bl (!decide (b = c)))) := rfl
@[simp] theorem gIs_n : gIs d .non = some (.dat (.bl d.isN)) := by cases d <;> rfl
@[simp] theorem gIsNot_n : gIsNot d .non = some (.dat (.bl (!d.isN))) := by cases d <;> rfl
@[simp] theorem isN_n : D.non.isN = true := rfl
@[simp] theorem isN_i : (D.int i).isN = false := rfl
@[simp] theorem isN_b : (D.bl b).isN = false := rfl
@[simp] theorem isN_s : (D.str s).isN = false := rfl
@[simp] theorem isN_l : (D.lst l).isN = false := rfl
@[simp] theorem isN_t : (D.tup l).isN = false := rfl
@[simp] theorem gIx_l : gIx (.lst l) (.int i) = (atI l i).map .dat := rfl
@[simp] theorem gIx_t : gIx (.tup l) (.int i) = (atI l i).map .dat := rfl
@[simp] theorem gSl_l {lo hi : Option Int} : gSl lo hi (.lst l) = some (.fresh (cutD l lo hi)) := rfl
@[simp] theorem gSl_t {lo hi : Option Int} : gSl lo hi (.tup l) = some (.dat (.tup (cutD l lo hi))) := rfl
@[simp] theorem cLen_l : cLen [.lst l] = some (.dat (.int l.length)) := rfl
@[simp] theorem cLen_t : cLen [.tup l] = some (.dat (.int l.length)) := rfl
@[simp] theorem cLen_s : cLen [.str s] = some (.dat (.int s.length)) := rfl
@[simp] theorem cInt_i : cInt [.int i] = some (.dat (.int i)) := rfl
@[simp] theorem cInt_b : cInt [.bl b] = some (.dat (.int (if b then 1 else 0))) := rfl
@[simp] theorem cTup_l : cTuple [.lst l] = some (.dat (.tup l)) := rfl
@[simp] theorem cTup_t : cTuple [.tup l] = some (.dat (.tup l)) := rfl
@[simp] theorem cLst_l : cList [.lst l] = some (.fresh l) := rfl
@[simp] theorem cLst_t : cList [.tup l] = some (.fresh l) := rfl
@[simp] theorem cMax_i : cMax2 [.int i, .int j] = some (.dat (.int (if j > i then j else i))) := rfl
@[simp] theorem cMin_i : cMin2 [.int i, .int j] = some (.dat (.int (if j < i then j else i))) := rfl
@[simp] theorem cAll_l : cAll [.lst l] = (bolsOf l).map fun ns => .dat (.bl (ns.all id)) := rfl
@[simp] theorem cAny_l : cAny [.lst l] = (bolsOf l).map fun ns => .dat (.bl (ns.any id)) := rfl
@[simp] theorem cSum_l : cSum [.lst l] = (intsOf l).map fun ns => .dat (.int ns.sum) := rfl
@[simp] theorem isi_ap {ts : List Ty} : gIsi ts d = some (.dat (.bl (ts.any d.isTy))) := rfl
@[simp] theorem bolsOf_mapF {α : Type} {f : α → Bool} (xs : List α) : bolsOf (xs.map fun x => D.bl (f x)) = some (xs.map f) := by
  induction xs with
  | nil => rfl
  | cons x xs ih => simp [bolsOf, ih]
theorem eq_s : (D.str s).eq (.str t) = decide (s = t) := by rfl
@[simp] theorem gEq_s : gEq rm (.str s) (.str t) = some (.dat (.bl (decide (s = t)))) := by simp [gEq, eq_s]
@[simp] theorem gNe_s : gNe rm (.str s) (.str t) = some (.dat (.bl (!decide (s = t)))) := by simp [gNe, eq_s]
theorem eq_b : (D.bl b).eq (.bl c) = decide (b = c) := by cases b <;> cases c <;> rfl
@[simp] theorem gEq_b : gEq rm (.bl b) (.bl c) = some (.dat (.bl (decide (b = c)))) := by simp [gEq, eq_b]
@[simp] theorem gNe_b : gNe rm (.bl b) (.bl c) = some (.dat (.bl (!decide (b = c)))) := by simp [gNe, eq_b]
end
/-! loops -/
/-- a comprehension whose element is a function of the item, the world left alone -/
theorem compGo_map {i : Nat} {e : Ex} {env : Ev} {w : World} {f : D → D} : ∀ {l : List D}, (∀ d ∈ l, e (env.set i (.dat d)) w = .ok (.dat (f d)) w) → compGo (gN i) tYes' e env l w = .ok (l.map f) w
  | [], _ => rfl
  | d :: l, h => by
    have h1 := h d (.head _)
    have h2 := compGo_map (l := l) (fun x hx => h x (.tail _ hx))
    unfold compGo
    simp only [gN_ap, tYes_ap, noX_ok, bind_ok, if_true, h1, st_dat, h2, List.map_cons]
/-- an element that works upon the world -/
theorem compGo_inv {i : Nat} {e : Ex} {env : Ev} {P : List D → World → Prop} : ∀ {l : List D} {w : World} {pre : List D}, P pre w → (∀ pre w d, P pre w → d ∈ l → ∃ x w', e (env.set i (.dat d)) w = .ok (.dat x) w' ∧ P (pre ++ [x]) w') →
    ∃ xs w', compGo (gN i) tYes' e env l w = .ok xs w' ∧ P (pre ++ xs) w' ∧ xs.length = l.length
  | [], w, pre, h, _ => ⟨[], w, rfl, by simpa using h, rfl⟩
  | d :: l, w, pre, h, s => by
    obtain ⟨x, w1, e1, h1⟩ := s pre w d h (.head _)
    obtain ⟨xs, w2, e2, h2, h3⟩ := compGo_inv h1 (fun pre w y hp hy => s pre w y hp (.tail _ hy))
    refine ⟨x :: xs, w2, ?_, by simpa using h2, by simp [h3]⟩
    unfold compGo
    simp only [gN_ap, tYes_ap, noX_ok, bind_ok, if_true, e1, st_dat, e2]
theorem for_cons {g : Tgt} {s : Sd} {d : D} {ds : List D} {env : Ev} {w : World} : forGo g s (d :: ds) env w = (match g d env with
    | some env1 => (s env1 w).bind fun f w1 => (match f with
      | .nx e => forGo g s ds e w1
      | .ct e => forGo g s ds e w1
      | .bk e => .ok (.nx e) w1
      | .rt r => .ok (.rt r) w1)
    | none => .stuck) := rfl
/-- a loop without break or return, by an invariant -/
theorem for_inv {i : Nat} {s : Sd} {P : Nat → Ev → World → Prop} : ∀ {l : List D} {k : Nat} {env : Ev} {w : World}, P k env w → (∀ j d env w, P (k + j) env w → l[j]? = some d → ∃ env' w', s (env.set i (.dat d)) w = .ok (.nx env') w' ∧ P (k + j + 1) env' w') →
    ∃ env' w', forGo (gN i) s l env w = .ok (.nx env') w' ∧ P (k + l.length) env' w'
  | [], k, env, w, h, _ => ⟨env, w, rfl, by simpa using h⟩
  | d :: l, k, env, w, h, st => by
    obtain ⟨e1, w1, q1, h1⟩ := st 0 d env w (by simpa using h) rfl
    obtain ⟨e2, w2, q2, h2⟩ := for_inv (l := l) (k := k + 1) h1 (fun j x e w hp hx => by
      obtain ⟨a, b, c, d⟩ := st (j + 1) x e w (by rw [show k + (j + 1) = k + 1 + j by omega]; exact hp) hx
      exact ⟨a, b, c, by rw [show k + 1 + j + 1 = k + (j + 1) + 1 by omega]; exact d⟩)
    refine ⟨e2, w2, ?_, by rw [List.length_cons, show k + (l.length + 1) = k + 1 + l.length by omega]; exact h2⟩
    rw [for_cons]
    simp only [gN_ap, q1, bind_ok, q2]
end Dl
namespace Dl
open PySem PySem.Spec PyProof.Rows L2 NdefX
def b__law_tape (C : Cs) : Sd := (sRet (dLst (aCons (dBlt cList (rCons (dName 0) rNil)) (aCons (dC (.int 0)) (aCons (dC (.int 0)) (aCons (dC (.int 1)) (aCons (dC (.int 0)) aNil)))))))
def b__law_pick (C : Cs) : Sd := (sSeq (sIf (dTst (dBin (gGt C.room) (dIxW 0 (dC (.int 2))) (dC (.int 1)))) (sSeq (sSet 2 (dBin gMod (dBlt cInt (rCons (dIxW 0 (dC (.int 2))) rNil)) (dName 1)))
  (sSeq (sSetIx 0 (dC (.int 2)) (dBin gFdiv (dIxW 0 (dC (.int 2))) (dName 1)))
  (sRet (dName 2)))) sNil)
  (sSeq (sSetIx 0 (dC (.int 4)) (dBin gAdd (dIxW 0 (dC (.int 4))) (dC (.int 1))))
  (sSeq (sSet 3 (dC (.int 0)))
  (sSeq (sIf (dTst (dBin (gLt C.room) (dIxW 0 (dC (.int 1))) (dBlt cLen (rCons (dIxW 0 (dC (.int 0))) rNil)))) (sSeq (sSet 3 (dBin gIx (dIxW 0 (dC (.int 0))) (dIxW 0 (dC (.int 1)))))
  (sSetIx 0 (dC (.int 1)) (dBin gAdd (dIxW 0 (dC (.int 1))) (dC (.int 1))))) sNil)
  (sSeq (sIf (dTst (dBin (gGe C.room) (dName 3) (dBin gPow (dC (.int 10)) (dC (.int 18))))) (sSeq (sSetIx 0 (dC (.int 2)) (dBin gFdiv (dName 3) (dName 1)))
  (sRet (dBin gMod (dBlt cInt (rCons (dName 3) rNil)) (dName 1)))) sNil)
  (sSeq (sSet 4 (dBin gMod (dBlt cInt (rCons (dBin gAdd (dBin gAdd (dBin gMul (dIxW 0 (dC (.int 3))) (dC (.int 48271))) (dBin gMod (dBlt cInt (rCons (dName 3) rNil)) (dC (.int 2147483629)))) (dBin gMul (dIxW 0 (dC (.int 4))) (dC (.int 69621)))) rNil)) (dC (.int 2147483647))))
  (sSeq (sSet 4 (dBin gMod (dBlt cInt (rCons (dBin gMul (dName 4) (dBin gAdd (dBin gFdiv (dName 4) (dC (.int 1009))) (dC (.int 40692)))) rNil)) (dC (.int 2147483399))))
  (sSeq (sSetIx 0 (dC (.int 3)) (dName 4))
  (sRet (dBin gMod (dBlt cInt (rCons (dBin gFdiv (dName 4) (dC (.int 16))) rNil)) (dName 1)))))))))))
end Dl
/-! DlT: the tape. -/
namespace Dl
open PySem PySem.Spec PyProof.Rows L2 NdefX
theorem atI_nat {α : Type} {l : List α} {i : Int} (h0 : 0 ≤ i) (h1 : i < l.length) : atI l i = l[i.toNat]? := by
  unfold atI ixN
  rw [if_pos h0, if_pos h1]
  rfl
def tapeD (ns : List Int) (pos c2 c3 c4 : Int) : WO := .lst [.lst (ns.map .int), .int pos, .int c2, .int c3, .int c4]
/-- the world's first object is a tape -/
def TapeOk (rest w : World) : Prop := ∃ ns pos c2 c3 c4, w = tapeD ns pos c2 c3 c4 :: rest ∧ 0 ≤ pos
theorem at0 {a b c d e : D} : atI [a, b, c, d, e] 0 = some a := rfl
theorem at1 {a b c d e : D} : atI [a, b, c, d, e] 1 = some b := rfl
theorem at2 {a b c d e : D} : atI [a, b, c, d, e] 2 = some c := rfl
theorem at3 {a b c d e : D} : atI [a, b, c, d, e] 3 = some d := rfl
theorem at4 {a b c d e : D} : atI [a, b, c, d, e] 4 = some e := rfl
theorem ix5 {i : Int} (h : 0 ≤ i) (h1 : i < 5) : ixN 5 i = some i.toNat := by
  unfold ixN
  rw [if_pos h, if_pos (by simpa using h1)]
@[simp] theorem endR_rt' (r : RV) (w : World) : endR (.ok (.rt r) w) = .ok r w := rfl
theorem tape_run {C : Cs} {l : List Int} {w : World} : runB ⟨1, 1, b__law_tape⟩ C [.dat (.lst (l.map .int))] w = .ok (.fresh [.lst (l.map .int), .int 0, .int 0, .int 1, .int 0]) w := by
  simp [runB, initE, toSl, b__law_tape]
theorem pick_run {C : Cs} {rest w : World} {m : Int} (h : TapeOk rest w) (hm : 0 < m) (hb : m < 1073741824) :
    ∃ r w', runB ⟨2, 5, b__law_pick⟩ C [.wref 0, .dat (.int m)] w = .ok (.dat (.int r)) w' ∧ TapeOk rest w' ∧ 0 ≤ r ∧ r < m := by
  obtain ⟨ns, pos, c2, c3, c4, rfl, hp⟩ := h
  have hmod : ∀ z : Int, 0 ≤ z % m ∧ z % m < m := fun z => ⟨Int.emod_nonneg _ (by omega), Int.emod_lt_of_pos _ hm⟩
  simp only [runB, initE, toSl, b__law_pick, tapeD, List.length_cons, List.length_nil, Nat.reduceAdd, if_true, List.map_cons, List.map_nil, Nat.reduceSub, List.replicate]
  by_cases h2 : 1 < c2
  · refine ⟨c2 % m, tapeD ns pos (c2 / m) c3 c4 :: rest, ?_, ⟨ns, pos, c2 / m, c3, c4, rfl, hp⟩, hmod c2⟩
    simp [at0, at1, at2, at3, at4, h2, hm, hb, ix5, tapeD]
  · have mk : ∀ i j : Int, i.natAbs < 2 ^ 64 → mulOk i j = true := fun i j h => by simp [mulOk, h]
    have mk' : ∀ i j : Int, j.natAbs < 2 ^ 64 → mulOk i j = true := fun i j h => by simp [mulOk, h]
    have fin : ∀ cell pos' : Int, 0 ≤ pos' → ∃ r w', endR
        ((if 1000000000000000000 ≤ cell then Out.ok (Fl.rt (.dat (.int (cell % m)))) (tapeD ns pos' (cell / m) c3 (c4 + 1) :: rest) else
          (Out.ok (Fl.rt (.dat (.int ((c3 * 48271 + cell % 2147483629 + (c4 + 1) * 69621) % 2147483647 * ((c3 * 48271 + cell % 2147483629 + (c4 + 1) * 69621) % 2147483647 / 1009 + 40692) % 2147483399 / 16 % m)))) (tapeD ns pos' c2 ((c3 * 48271 + cell % 2147483629 + (c4 + 1) * 69621) % 2147483647 * ((c3 * 48271 + cell % 2147483629 + (c4 + 1) * 69621) % 2147483647 / 1009 + 40692) % 2147483399) (c4 + 1) :: rest)))) = .ok (.dat (.int r)) w' ∧ TapeOk rest w' ∧ 0 ≤ r ∧ r < m := fun cell pos' hp' => by
      split
      · exact ⟨_, _, rfl, ⟨_, _, _, _, _, rfl, hp'⟩, hmod _⟩
      · exact ⟨_, _, rfl, ⟨_, _, _, _, _, rfl, hp'⟩, hmod _⟩
    by_cases hlt : pos < ns.length
    · obtain ⟨k, rfl⟩ : ∃ k : Nat, pos = k := ⟨pos.toNat, by omega⟩
      have hk : k < ns.length := by omega
      have hc : atI (ns.map D.int) (k : Int) = some (.int ns[k]) := by
        rw [atI_nat (by omega) (by simpa using hlt)]
        simp [hk]
      have mo := mk ((c3 * 48271 + ns[k] % 2147483629 + (c4 + 1) * 69621) % 2147483647) ((c3 * 48271 + ns[k] % 2147483629 + (c4 + 1) * 69621) % 2147483647 / 1009 + 40692) (by omega)
      have := fin ns[k] (k + 1) (by omega)
      revert this
      simp [at0, at1, at2, at3, at4, h2, hm, hb, ix5, tapeD, hlt, hc, mk', mo, hk]
    · have mo := mk ((c3 * 48271 + (c4 + 1) * 69621) % 2147483647) ((c3 * 48271 + (c4 + 1) * 69621) % 2147483647 / 1009 + 40692) (by omega)
      have := fin 0 pos hp
      revert this
      simp [at0, at1, at2, at3, at4, h2, hm, hb, ix5, tapeD, hlt, mk', mo]
end Dl
/-! DlQ: lists. -/
namespace Dl
open PySem PySem.Spec PyProof.Rows L2 NdefX
section
variable {α : Type} {l : List α}
theorem atI_get {k : Nat} (h : k < l.length) : atI l (k : Int) = some l[k] := by
  rw [atI_nat (by omega) (by omega)]
  simp [h]
theorem ixN_get {n k : Nat} (h : k < n) : ixN n (k : Int) = some k := by
  unfold ixN
  rw [if_pos (by omega), if_pos (by omega)]
  rfl
theorem cutD_to {k : Nat} : cutD l none (some (k : Int)) = l.take k := by
  unfold cutD
  rw [HT.sIx_none, HT.sIx_nat]
  simp only [List.drop_zero, Nat.sub_zero]
  by_cases h : k ≤ l.length
  · rw [Nat.min_eq_left h]
  · rw [Nat.min_eq_right (by omega), List.take_of_length_le (Nat.le_refl _), List.take_of_length_le (by omega)]
theorem cutD_from {k : Nat} : cutD l (some (k : Int)) none = l.drop k := by
  unfold cutD
  rw [HT.sIx_none, HT.sIx_nat]
  by_cases h : k ≤ l.length
  · rw [Nat.min_eq_left h, List.take_of_length_le (by simp)]
  · rw [Nat.min_eq_right (by omega), List.drop_of_length_le (Nat.le_refl _), List.drop_of_length_le (by omega)]
    simp
theorem rngD_nat (n : Nat) : rngD 0 (n : Int) = (List.range n).map fun (i : Nat) => D.int (i : Int) := by
  unfold rngD
  simp
end
end Dl
namespace Dl
open PySem PySem.Spec PyProof.Rows L2 NdefX
def b_is_integer (C : Cs) : Sd := (sRet (dAnd (dUn (gIsi [.int]) (dName 0)) (dUn gNot (dUn (gIsi [.bool]) (dName 0)))))
def b_is_within (C : Cs) : Sd := (sRet (dAnd (dCall C 1 (aCons (dName 0) aNil)) (dChain (gLe C.room) (gLe C.room) (dName 1) (dName 0) (dName 2))))
def b_is_pair (C : Cs) : Sd := (sRet (dAnd (dUn (gIsi [.tuple]) (dName 0)) (dBin (gEq C.room) (dBlt cLen (rCons (dName 0) rNil)) (dC (.int 2)))))
def b_check_count (C : Cs) : Sd := (sIf (tNot' (dTru (dCall C 2 (aCons (dName 0) (aCons (dName 1) (aCons (dName 2) aNil)))))) sNever sNil)
def t_LENGTHS : List (Str × D) := [("halt", .int 1), ("up", .int 3), ("down", .int 4)]
def b_is_instruction (C : Cs) : Sd := (sSeq (sIf (tOr' (tNot' (dTru (dUn (gIsi [.tuple]) (dName 0)))) (tOr' (dTst (dBin (gEq C.room) (dBlt cLen (rCons (dName 0) rNil)) (dC (.int 0)))) (tNot' (dTru (dUn (gIsi [.str]) (dBin gIx (dName 0) (dC (.int 0)))))))) (sRet (dC (.bl false))) sNil)
  (sSeq (sIf (dTst (dBin (gNe C.room) (dUn (gGetK t_LENGTHS) (dBin gIx (dName 0) (dC (.int 0)))) (dBlt cLen (rCons (dName 0) rNil)))) (sRet (dC (.bl false))) sNil)
  (sSeq (sIf (tAnd' (dTst (dBin (gGt C.room) (dBlt cLen (rCons (dName 0) rNil)) (dC (.int 1)))) (tNot' (dTru (dCall C 2 (aCons (dBin gIx (dName 0) (dC (.int 1))) (aCons (dC (.int 0)) (aCons (dBin gSub (dBlt cLen (rCons (dC (.str "mnop")) rNil)) (dC (.int 1))) aNil))))))) (sRet (dC (.bl false))) sNil)
  (sRet (dBlt cAll (rCons (dComp (iSeq (dSl (dName 0) (some (dC (.int 2))) none)) [2] (gN 2) tYes' (dCall C 2 (aCons (dName 2) (aCons (dC (.int 0)) (aCons (dBin gSub (dName 1) (dC (.int 1))) aNil))))) rNil))))))
def b_is_machine (C : Cs) : Sd := (sSeq (sIf (tOr' (tNot' (dTru (dUn (gIsi [.tuple]) (dName 0)))) (tNot' (dTst (dChain (gLe C.room) (gLe C.room) (dC (.int 1)) (dBlt cLen (rCons (dName 0) rNil)) (dC (.int 12)))))) (sRet (dC (.bl false))) sNil)
  (sRet (dBlt cAll (rCons (dComp (iSeq (dName 0)) [1] (gN 1) tYes' (dCall C 3 (aCons (dName 1) (aCons (dBlt cLen (rCons (dName 0) rNil)) aNil)))) rNil))))
def b_is_standing (C : Cs) : Sd := (sSeq (sIf (tOr' (tNot' (dTru (dCall C 4 (aCons (dName 1) aNil)))) (tNot' (dTru (dCall C 2 (aCons (dBin gIx (dName 1) (dC (.int 0))) (aCons (dC (.int 0)) (aCons (dBin gSub (dBlt cLen (rCons (dName 0) rNil)) (dC (.int 1))) aNil))))))) (sRet (dC (.bl false))) sNil)
  (sSeq (sIf (tOr' (tNot' (dTru (dUn (gIsi [.tuple]) (dBin gIx (dName 1) (dC (.int 1)))))) (dTst (dBin (gNe C.room) (dBlt cLen (rCons (dBin gIx (dName 1) (dC (.int 1))) rNil)) (dBlt cLen (rCons (dC (.str "mnop")) rNil))))) (sRet (dC (.bl false))) sNil)
  (sRet (dBlt cAll (rCons (dComp (iSeq (dBin gIx (dName 1) (dC (.int 1)))) [2] (gN 2) tYes' (dAnd (dCall C 1 (aCons (dName 2) aNil)) (dBin (gGe C.room) (dName 2) (dC (.int 0))))) rNil)))))
def b_check_machine (C : Cs) : Sd := (sIf (tNot' (dTru (dCall C 5 (aCons (dName 0) aNil)))) sNever sNil)
def b_check_both (C : Cs) : Sd := (sSeq (sExpr (dCall C 7 (aCons (dName 0) aNil)))
  (sIf (tNot' (dTru (dCall C 6 (aCons (dName 0) (aCons (dName 1) aNil))))) sNever sNil))
def b_behind_step (C : Cs) : Sd := (sSeq (sAsg (gT 2 (gsCons (gN 2) (gsCons (gN 3) gsNil))) (dName 1))
  (sSeq (sSet 4 (dBin gIx (dName 0) (dName 2)))
  (sSeq (sSet 5 (dBin gIx (dName 4) (dC (.int 1))))
  (sSeq (sIf (dTst (dBin (gEq C.room) (dBin gIx (dName 4) (dC (.int 0))) (dC (.str "up")))) (sSet 6 (dC (.int 1))) (sIf (dTst (dBin (gEq C.room) (dBin gIx (dName 3) (dName 5)) (dC (.int 0)))) (sRet (dTup (aCons (dBin gIx (dName 4) (dC (.int 3))) (aCons (dName 3) aNil)))) (sSet 6 (dUn gNeg (dC (.int 1))))))
  (sSeq (sSet 7 (dBin gAdd (dBin gAdd (dSl (dName 3) none (some (dName 5))) (dTup (aCons (dBin gAdd (dBin gIx (dName 3) (dName 5)) (dName 6)) aNil))) (dSl (dName 3) (some (dBin gAdd (dName 5) (dC (.int 1)))) none)))
  (sRet (dTup (aCons (dBin gIx (dName 4) (dC (.int 2))) (aCons (dName 7) aNil)))))))))
def b_done (C : Cs) : Sd := (sSeq (sExpr (dCall C 10 (aCons (dName 0) (aCons (dName 1) aNil))))
  (sSeq (sExpr (dCall C 9 (aCons (dName 2) (aCons (dC (.int 0)) (aCons (dC (.int 100000)) aNil)))))
  (sSeq (sFor (iRange rg1 (rCons (dName 2) rNil)) (gN 3) (sSeq (sIf (dTst (dBin (gEq C.room) (dBin gIx (dBin gIx (dName 0) (dBin gIx (dName 1) (dC (.int 0)))) (dC (.int 0))) (dC (.str "halt")))) sBreak sNil)
  (sSet 1 (dCall C 8 (aCons (dName 0) (aCons (dName 1) aNil))))))
  (sRet (dName 1)))))
def b__law_machine (C : Cs) : Sd := (sSeq (sSet 2 (dBin gAdd (dC (.int 1)) (dCall C 11 (aCons (dName 0) (aCons (dName 1) aNil)))))
  (sSeq (sSet 3 (dLst aNil))
  (sSeq (sFor (iRange rg1 (rCons (dName 2) rNil)) (gN 4) (sSeq (sSet 5 (dCall C 11 (aCons (dName 0) (aCons (dC (.int 6)) aNil))))
  (sSeq (sSet 6 (dCall C 11 (aCons (dName 0) (aCons (dC (.int 4)) aNil))))
  (sIf (dTst (dBin (gEq C.room) (dName 5) (dC (.int 0)))) (sAppend 3 (dTup (aCons (dC (.str "halt")) aNil))) (sIf (dTst (dBin (gLt C.room) (dName 5) (dC (.int 3)))) (sAppend 3 (dTup (aCons (dC (.str "up")) (aCons (dName 6) (aCons (dCall C 11 (aCons (dName 0) (aCons (dName 2) aNil))) aNil))))) (sAppend 3 (dTup (aCons (dC (.str "down")) (aCons (dName 6) (aCons (dCall C 11 (aCons (dName 0) (aCons (dName 2) aNil))) (aCons (dCall C 11 (aCons (dName 0) (aCons (dName 2) aNil))) aNil)))))))))))
  (sRet (dBlt cTuple (rCons (dName 3) rNil))))))
def b__law_standing (C : Cs) : Sd := (sRet (dTup (aCons (dCall C 11 (aCons (dName 0) (aCons (dBlt cLen (rCons (dName 1) rNil)) aNil))) (aCons (dBlt cTuple (rCons (dComp (iRange rg1 (rCons (dC (.int 4)) rNil)) [3] (gN 3) tYes' (dCall C 11 (aCons (dName 0) (aCons (dName 2) aNil)))) rNil)) aNil))))
def b__law_next (C : Cs) : Sd := (sSeq (sAsg (gT 2 (gsCons (gN 2) (gsCons (gN 3) gsNil))) (dName 1))
  (sSeq (sSet 4 (dBin gIx (dName 0) (dName 2)))
  (sSeq (sIf (dTst (dBin (gEq C.room) (dBin gIx (dName 4) (dC (.int 0))) (dC (.str "halt")))) (sRet (dC .non)) sNil)
  (sSeq (sSet 5 (dBlt cList (rCons (dName 3) rNil)))
  (sSeq (sIf (dTst (dBin (gEq C.room) (dBin gIx (dName 4) (dC (.int 0))) (dC (.str "up")))) (sSetIx 5 (dBin gIx (dName 4) (dC (.int 1))) (dBin gAdd (dBin gIx (dName 5) (dBin gIx (dName 4) (dC (.int 1)))) (dC (.int 1)))) (sIf (dTst (dBin (gEq C.room) (dBin gIx (dName 5) (dBin gIx (dName 4) (dC (.int 1)))) (dC (.int 0)))) (sRet (dTup (aCons (dBin gIx (dName 4) (dC (.int 3))) (aCons (dName 3) aNil)))) (sSetIx 5 (dBin gIx (dName 4) (dC (.int 1))) (dBin gSub (dBin gIx (dName 5) (dBin gIx (dName 4) (dC (.int 1)))) (dC (.int 1))))))
  (sRet (dTup (aCons (dBin gIx (dName 4) (dC (.int 2))) (aCons (dBlt cTuple (rCons (dName 5) rNil)) aNil)))))))))
def b__law_same (C : Cs) : Sd := (sSeq (sIf (dTst (dBin gIs (dName 1) (dC .non))) (sRet (dBin gIs (dName 0) (dC .non))) sNil)
  (sSeq (sIf (tOr' (dTru (dUn (gIsi [.bool]) (dName 1))) (dTru (dUn (gIsi [.bool]) (dName 0)))) (sRet (dAnd (dUn (gIsi [.bool]) (dName 1)) (dAnd (dUn (gIsi [.bool]) (dName 0)) (dBin (gEq C.room) (dName 0) (dName 1))))) sNil)
  (sSeq (sIf (tOr' (dTru (dUn (gIsi [.str]) (dName 1))) (dTru (dUn (gIsi [.int]) (dName 1)))) (sRet (dAnd (dBin (gEq C.room) (dUn (gIsi [.str]) (dName 0)) (dUn (gIsi [.str]) (dName 1))) (dAnd (dUn (gIsi [.int, .str]) (dName 0)) (dBin (gEq C.room) (dName 0) (dName 1))))) sNil)
  (sSeq (sIf (tOr' (dTst (dBin (gNe C.room) (dUn (gIsi [.tuple]) (dName 1)) (dUn (gIsi [.tuple]) (dName 0)))) (tNot' (dTru (dUn (gIsi [.list, .tuple]) (dName 0))))) (sRet (dC (.bl false))) sNil)
  (sRet (dAnd (dBin (gEq C.room) (dBlt cLen (rCons (dName 0) rNil)) (dBlt cLen (rCons (dName 1) rNil))) (dBlt cAll (rCons (dComp (iRange rg1 (rCons (dBlt cLen (rCons (dName 1) rNil)) rNil)) [2] (gN 2) tYes' (dCall C 12 (aCons (dBin gIx (dName 0) (dName 2)) (aCons (dBin gIx (dName 1) (dName 2)) aNil)))) rNil))))))))
def b__law_behind (C : Cs) : Sd := (sSeq (sFor (iRange rg1 (rCons (dName 2) rNil)) (gN 3) (sSeq (sSet 4 (dCall C 13 (aCons (dName 0) (aCons (dName 1) aNil))))
  (sSeq (sIf (dTst (dBin gIs (dName 4) (dC .non))) sBreak sNil)
  (sSet 1 (dName 4)))))
  (sRet (dName 1)))
def b__law_great (C : Cs) : Sd := (sSeq (sSet 1 (dC (.int 0)))
  (sSeq (sFor (iRange rg1 (rCons (dC (.int 5)) rNil)) (gN 2) (sSet 1 (dBin gAdd (dBin gMul (dName 1) (dBin gPow (dC (.int 10)) (dC (.int 8)))) (dCall C 11 (aCons (dName 0) (aCons (dBin gPow (dC (.int 10)) (dC (.int 8))) aNil))))))
  (sRet (dName 1))))
def b__law_asked (C : Cs) : Sd := (sSeq (sSet 2 (dCall C 17 (aCons (dName 0) (aCons (dName 1) (aCons (dC (.int 4)) aNil)))))
  (sSeq (sIf (dTst (dBin (gEq C.room) (dCall C 11 (aCons (dName 0) (aCons (dC (.int 4)) aNil))) (dC (.int 0)))) (sSet 2 (dTup (aCons (dBin gIx (dName 2) (dC (.int 0))) (aCons (dBlt cTuple (rCons (dComp (iRange rg1 (rCons (dC (.int 4)) rNil)) [3] (gN 3) tYes' (dCall C 16 (aCons (dName 0) aNil))) rNil)) aNil)))) sNil)
  (sSeq (sSet 4 (dCall C 11 (aCons (dName 0) (aCons (dC (.int 40)) aNil))))
  (sSeq (sSet 5 (dCall C 11 (aCons (dName 0) (aCons (dC (.int 40)) aNil))))
  (sSeq (sSet 6 (dCall C 15 (aCons (dName 1) (aCons (dName 2) (aCons (dName 4) aNil)))))
  (sSeq (sSet 7 (dCall C 14 (aCons (dName 1) (aCons (dName 2) (aCons (dName 4) aNil)))))
  (sSeq (sIf (tNot' (dTru (dCall C 12 (aCons (dName 7) (aCons (dName 6) aNil))))) (sRet (dC (.bl false))) sNil)
  (sSeq (sIf (tNot' (dTru (dCall C 12 (aCons (dCall C 14 (aCons (dName 1) (aCons (dName 7) (aCons (dName 5) aNil)))) (aCons (dCall C 15 (aCons (dName 1) (aCons (dName 6) (aCons (dName 5) aNil)))) aNil))))) (sRet (dC (.bl false))) sNil)
  (sSeq (sIf (tNot' (dTru (dCall C 12 (aCons (dCall C 14 (aCons (dName 1) (aCons (dName 2) (aCons (dBin gAdd (dName 4) (dName 5)) aNil)))) (aCons (dCall C 15 (aCons (dName 1) (aCons (dName 6) (aCons (dName 5) aNil)))) aNil))))) (sRet (dC (.bl false))) sNil)
  (sSeq (sIf (dTst (dBin (gEq C.room) (dBin gIx (dBin gIx (dName 1) (dBin gIx (dName 7) (dC (.int 0)))) (dC (.int 0))) (dC (.str "halt")))) (sRet (dCall C 12 (aCons (dCall C 14 (aCons (dName 1) (aCons (dName 2) (aCons (dBin gPow (dC (.int 10)) (dC (.int 5))) aNil)))) (aCons (dName 6) aNil)))) sNil)
  (sRet (dCall C 12 (aCons (dCall C 14 (aCons (dName 1) (aCons (dName 2) (aCons (dC (.int 0)) aNil)))) (aCons (dName 2) aNil))))))))))))))
def b__law_brought (C : Cs) : Sd := (sSeq (sSet 1 (dCall C 11 (aCons (dName 0) (aCons (dC (.int 4)) aNil))))
  (sSeq (sSet 2 (dBin gMod (dBlt cInt (rCons (dBin gAdd (dBin gAdd (dName 1) (dC (.int 1))) (dCall C 11 (aCons (dName 0) (aCons (dC (.int 3)) aNil)))) rNil)) (dC (.int 4))))
  (sSeq (sSet 3 (dCall C 11 (aCons (dName 0) (aCons (dC (.int 700)) aNil))))
  (sSeq (sSet 4 (dTup (aCons (dTup (aCons (dC (.str "down")) (aCons (dName 1) (aCons (dC (.int 1)) (aCons (dC (.int 2)) aNil))))) (aCons (dTup (aCons (dC (.str "up")) (aCons (dName 2) (aCons (dC (.int 0)) aNil)))) (aCons (dTup (aCons (dC (.str "halt")) aNil)) aNil)))))
  (sSeq (sSet 5 (dComp (iRange rg1 (rCons (dC (.int 4)) rNil)) [6] (gN 6) tYes' (dCall C 11 (aCons (dName 0) (aCons (dC (.int 5)) aNil)))))
  (sSeq (sSetIx 5 (dName 1) (dName 3))
  (sSeq (sSet 7 (dBlt cList (rCons (dName 5) rNil)))
  (sSeq (sSetIx 7 (dName 1) (dC (.int 0)))
  (sSeq (sSetIx 7 (dName 2) (dBin gAdd (dBin gIx (dName 5) (dName 2)) (dName 3)))
  (sSeq (sSet 8 (dTup (aCons (dC (.int 0)) (aCons (dBlt cTuple (rCons (dName 5) rNil)) aNil))))
  (sSeq (sIf (tNot' (dTru (dCall C 12 (aCons (dCall C 14 (aCons (dName 4) (aCons (dName 8) (aCons (dBin gAdd (dBin gMul (dC (.int 2)) (dName 3)) (dC (.int 1))) aNil)))) (aCons (dTup (aCons (dC (.int 2)) (aCons (dBlt cTuple (rCons (dName 7) rNil)) aNil))) aNil))))) (sRet (dC (.bl false))) sNil)
  (sSeq (sIf (tNot' (dTru (dCall C 12 (aCons (dCall C 14 (aCons (dName 4) (aCons (dName 8) (aCons (dBin gAdd (dBin gAdd (dBin gMul (dC (.int 2)) (dName 3)) (dC (.int 1))) (dCall C 11 (aCons (dName 0) (aCons (dC (.int 90000)) aNil)))) aNil)))) (aCons (dTup (aCons (dC (.int 2)) (aCons (dBlt cTuple (rCons (dName 7) rNil)) aNil))) aNil))))) (sRet (dC (.bl false))) sNil)
  (sRet (dCall C 12 (aCons (dCall C 14 (aCons (dName 4) (aCons (dName 8) (aCons (dBin gMul (dC (.int 2)) (dName 3)) aNil)))) (aCons (dTup (aCons (dC (.int 0)) (aCons (dBlt cTuple (rCons (dName 7) rNil)) aNil))) aNil))))))))))))))))
def b__law_long (C : Cs) : Sd := (sSeq (sSet 1 (dCall C 11 (aCons (dName 0) (aCons (dC (.int 1000)) aNil))))
  (sSeq (sSet 2 (dTup (aCons (dTup (aCons (dC (.str "up")) (aCons (dC (.int 0)) (aCons (dC (.int 1)) aNil)))) (aCons (dTup (aCons (dC (.str "up")) (aCons (dC (.int 3)) (aCons (dC (.int 0)) aNil)))) aNil))))
  (sSeq (sSet 3 (dBin gSub (dBin gPow (dC (.int 10)) (dC (.int 5))) (dCall C 11 (aCons (dName 0) (aCons (dC (.int 2)) aNil)))))
  (sSeq (sSet 4 (dTup (aCons (dBin gMod (dBlt cInt (rCons (dName 3) rNil)) (dC (.int 2))) (aCons (dTup (aCons (dBin gSub (dBin gAdd (dName 1) (dName 3)) (dBin gFdiv (dName 3) (dC (.int 2)))) (aCons (dC (.int 0)) (aCons (dC (.int 0)) (aCons (dBin gFdiv (dName 3) (dC (.int 2))) aNil))))) aNil))))
  (sRet (dCall C 12 (aCons (dCall C 14 (aCons (dName 2) (aCons (dTup (aCons (dC (.int 0)) (aCons (dTup (aCons (dName 1) (aCons (dC (.int 0)) (aCons (dC (.int 0)) (aCons (dC (.int 0)) aNil))))) aNil))) (aCons (dName 3) aNil)))) (aCons (dName 4) aNil))))))))
def b_law (C : Cs) : Sd := (sSeq (sSetW 1 (dCall C 22 (aCons (dName 0) aNil)))
  (sSeq (sIf (tAnd' (dTst (dBin (gEq C.room) (dCall C 11 (aCons (dName 1) (aCons (dC (.int 40)) aNil))) (dC (.int 0)))) (tNot' (dTru (dCall C 21 (aCons (dName 1) aNil))))) (sRet (dC (.bl false))) sNil)
  (sSeq (sSet 2 (dIf (dTst (dBin (gEq C.room) (dCall C 11 (aCons (dName 1) (aCons (dC (.int 4)) aNil))) (dC (.int 0)))) (dC (.int 12)) (dC (.int 5))))
  (sSeq (sSet 3 (dCall C 20 (aCons (dName 1) (aCons (dName 2) aNil))))
  (sSeq (sIf (dTst (dBin gIsNot (dCall C 5 (aCons (dName 3) aNil)) (dC (.bl true)))) (sRet (dC (.bl false))) sNil)
  (sSeq (sFor (iRange rg1 (rCons (dBlt cMax2 (rCons (dC (.int 2)) (rCons (dBlt cMin2 (rCons (dC (.int 6)) (rCons (dBlt cLen (rCons (dName 0) rNil)) rNil))) rNil))) rNil)) (gN 4) (sIf (tNot' (dTru (dCall C 19 (aCons (dName 1) (aCons (dName 3) aNil))))) (sRet (dC (.bl false))) sNil))
  (sRet (dCall C 18 (aCons (dName 1) aNil)))))))))
end Dl
namespace Dl
namespace K83
open PySem PySem.Spec PyProof.Rows L2 NdefX
inductive Ins where
  | halt | up (r t : Nat) | down (r t z : Nat)
  deriving DecidableEq
def Ins.d : Ins → D
  | .halt => .tup [.str "halt"]
  | .up r t => .tup [.str "up", .int r, .int t]
  | .down r t z => .tup [.str "down", .int r, .int t, .int z]
def Ins.ok (m : Nat) : Ins → Prop
  | .halt => True
  | .up r t => r < 4 ∧ t < m
  | .down r t z => r < 4 ∧ t < m ∧ z < m
structure MOk (ms : List Ins) : Prop where
  lo : 1 ≤ ms.length
  hi : ms.length ≤ 12
  all : ∀ x ∈ ms, x.ok ms.length
def mD (ms : List Ins) : D := .tup (ms.map Ins.d)
structure Stg where
  pc : Nat
  ns : List Nat
def Stg.d (s : Stg) : D := .tup [.int s.pc, .tup (s.ns.map fun (n : Nat) => D.int (n : Int))]
structure SOk (ms : List Ins) (s : Stg) : Prop where
  pc : s.pc < ms.length
  ns : s.ns.length = 4
def stepS (ms : List Ins) (s : Stg) : Option Stg := match ms[s.pc]? with
  | some (.up r t) => some ⟨t, s.ns.set r (s.ns[r]?.getD 0 + 1)⟩
  | some (.down r t z) => if s.ns[r]?.getD 0 = 0 then some ⟨z, s.ns⟩ else some ⟨t, s.ns.set r (s.ns[r]?.getD 0 - 1)⟩
  | _ => none
def runS (ms : List Ins) : Nat → Stg → Stg
  | 0, s => s
  | n + 1, s => match stepS ms s with
    | none => s
    | some s' => runS ms n s'
theorem step_ok {ms : List Ins} {s s' : Stg} (hm : MOk ms) (hs : SOk ms s) (h : stepS ms s = some s') : SOk ms s' := by
  unfold stepS at h
  have hpc := hs.pc
  have e : ms[s.pc]? = some ms[s.pc] := by simp [hpc]
  have ok := hm.all _ (List.getElem_mem hpc)
  rw [e] at h
  cases q : ms[s.pc]'hpc with
  | halt => rw [q] at h; cases h
  | up r t =>
    rw [q] at h ok
    cases h
    exact ⟨ok.2, by simp [hs.ns]⟩
  | down r t z =>
    rw [q] at h ok
    simp only at h
    split at h
    · cases h; exact ⟨ok.2.2, hs.ns⟩
    · cases h; exact ⟨ok.2.1, by simp [hs.ns]⟩
theorem run_ok {ms : List Ins} (hm : MOk ms) : ∀ (n : Nat) {s : Stg}, SOk ms s → SOk ms (runS ms n s)
  | 0, s, h => h
  | n + 1, s, h => by
    unfold runS
    split
    · exact h
    · rename_i e; exact run_ok hm n (step_ok hm h e)
/-! the program's tests -/
def isI : D → Bool
  | .int _ => true
  | _ => false
theorem r_integer {C : Cs} {d : D} {w : World} : runB ⟨1, 1, b_is_integer⟩ C [.dat d] w = .ok (.dat (.bl (isI d))) w := by
  cases d <;> simp [runB, initE, toSl, b_is_integer, D.isTy, isI]
def SInt (C : Cs) : Prop := ∀ d w, C.call 1 [.dat d] w = .ok (.dat (.bl (isI d))) w
def SWit (C : Cs) : Prop := ∀ (i l m : Int) w, C.call 2 [.dat (.int i), .dat (.int l), .dat (.int m)] w = .ok (.dat (.bl (decide (l ≤ i) && decide (i ≤ m)))) w
def SPair (C : Cs) : Prop := ∀ (a b : D) w, C.call 4 [.dat (.tup [a, b])] w = .ok (.dat (.bl true)) w
theorem r_within {C : Cs} (h : SInt C) {i l m : Int} {w : World} : runB ⟨3, 3, b_is_within⟩ C [.dat (.int i), .dat (.int l), .dat (.int m)] w = .ok (.dat (.bl (decide (l ≤ i) && decide (i ≤ m)))) w := by
  by_cases h1 : l ≤ i <;> simp [runB, initE, toSl, b_is_within, h _ _, isI, h1]
theorem r_pair {C : Cs} {a b : D} {w : World} : runB ⟨1, 1, b_is_pair⟩ C [.dat (.tup [a, b])] w = .ok (.dat (.bl true)) w := by
  simp [runB, initE, toSl, b_is_pair, D.isTy]
def SCount (C : Cs) : Prop := ∀ (i l m : Int) w, l ≤ i → i ≤ m → C.call 9 [.dat (.int i), .dat (.int l), .dat (.int m)] w = .ok (.dat .non) w
theorem r_count {C : Cs} (h : SWit C) {i l m : Int} {w : World} (h1 : l ≤ i) (h2 : i ≤ m) : runB ⟨3, 3, b_check_count⟩ C [.dat (.int i), .dat (.int l), .dat (.int m)] w = .ok (.dat .non) w := by
  simp [runB, initE, toSl, b_check_count, h _ _ _ _, h1, h2]
def SIns (C : Cs) : Prop := ∀ (x : Ins) (m : Nat) w, x.ok m → C.call 3 [.dat x.d, .dat (.int m)] w = .ok (.dat (.bl true)) w
theorem at_0 {α : Type} {a : α} {l : List α} : atI (a :: l) 0 = some a := by
  have := atI_get (l := a :: l) (k := 0) (by simp)
  simpa using this
theorem at_1 {α : Type} {a b : α} {l : List α} : atI (a :: b :: l) 1 = some b := by
  have := atI_get (l := a :: b :: l) (k := 1) (by simp)
  simpa using this
theorem at_2 {α : Type} {a b c : α} {l : List α} : atI (a :: b :: c :: l) 2 = some c := by
  have := atI_get (l := a :: b :: c :: l) (k := 2) (by simp)
  simpa using this
theorem at_3 {α : Type} {a b c d : α} {l : List α} : atI (a :: b :: c :: d :: l) 3 = some d := by
  have := atI_get (l := a :: b :: c :: d :: l) (k := 3) (by simp)
  simpa using this
theorem cut2 {α : Type} {l : List α} : cutD l (some 2) none = l.drop 2 := cutD_from (k := 2)
theorem len_mnop : Str.length "mnop" = 4 := by decide +kernel
theorem lk_h : t_LENGTHS.lookup (Str.ofString "halt") = some (D.int 1) := by rfl
theorem lk_u : t_LENGTHS.lookup (Str.ofString "up") = some (D.int 3) := by rfl
theorem lk_d : t_LENGTHS.lookup (Str.ofString "down") = some (D.int 4) := by rfl
theorem r_instruction {C : Cs} (h : SWit C) {x : Ins} {m : Nat} {w : World} (hx : x.ok m) : runB ⟨2, 3, b_is_instruction⟩ C [.dat x.d, .dat (.int m)] w = .ok (.dat (.bl true)) w := by
  cases x with
  | halt => simp [runB, initE, toSl, b_is_instruction, Ins.d, D.isTy, at_0, gGetK, lk_h, cut2, bolsOf]
  | up r t =>
    obtain ⟨h1, h2⟩ := hx
    have e1 : (r : Int) ≤ 3 := by omega
    have e2 : (t : Int) ≤ m - 1 := by omega
    simp [runB, initE, toSl, b_is_instruction, Ins.d, D.isTy, at_0, at_1, gGetK, lk_u, cut2, bolsOf, compGo, h _ _ _ _, len_mnop, e1, e2]
  | down r t z =>
    obtain ⟨h1, h2, h3⟩ := hx
    have e1 : (r : Int) ≤ 3 := by omega
    have e2 : (t : Int) ≤ m - 1 := by omega
    have e3 : (z : Int) ≤ m - 1 := by omega
    simp [runB, initE, toSl, b_is_instruction, Ins.d, D.isTy, at_0, at_1, gGetK, lk_d, cut2, bolsOf, compGo, h _ _ _ _, len_mnop, e1, e2, e3]
def SMach (C : Cs) : Prop := ∀ ms w, MOk ms → C.call 5 [.dat (mD ms)] w = .ok (.dat (.bl true)) w
theorem bols_true : ∀ l : List D, (∀ d ∈ l, d = .bl true) → ∃ bs, bolsOf l = some bs ∧ bs.all id = true
  | [], _ => ⟨[], rfl, rfl⟩
  | d :: l, h => by
    obtain ⟨bs, e1, e2⟩ := bols_true l fun x hx => h x (.tail _ hx)
    have := h d (.head _)
    subst this
    exact ⟨true :: bs, by simp [bolsOf, e1], by simpa using e2⟩
theorem all_true {l : List D} (h : ∀ d ∈ l, d = .bl true) : cAll [.lst l] = some (.dat (.bl true)) := by
  obtain ⟨bs, e1, e2⟩ := bols_true l h
  rw [cAll_l, e1]
  show some (RV.dat (.bl (bs.all id))) = _
  rw [e2]
theorem r_machine {C : Cs} (h : SIns C) {ms : List Ins} {w : World} (hm : MOk ms) : runB ⟨1, 2, b_is_machine⟩ C [.dat (mD ms)] w = .ok (.dat (.bl true)) w := by
  have e1 : (1 : Int) ≤ ms.length := by have := hm.lo; omega
  have e2 : (ms.length : Int) ≤ 12 := by have := hm.hi; omega
  have g := compGo_map (i := 1) (e := dCall C 3 (aCons (dName 1) (aCons (dBlt cLen (rCons (dName 0) rNil)) aNil))) (env := [.dat (mD ms), .un]) (w := w) (f := fun _ => .bl true) (l := ms.map Ins.d) (fun d hd => by
    obtain ⟨x, hx, rfl⟩ := List.mem_map.mp hd
    simp [mD, h _ _ _ (hm.all x hx)])
  have ha := all_true (l := (ms.map Ins.d).map fun _ => D.bl true) (by simp)
  simp only [mD] at g
  simp [runB, initE, toSl, b_is_machine, mD, D.isTy, e1, e2, g, -cAll_l, ha, -List.map_map, -List.map_const']
def SStd (C : Cs) : Prop := ∀ ms s w, SOk ms s → C.call 6 [.dat (mD ms), .dat s.d] w = .ok (.dat (.bl true)) w
theorem r_standing {C : Cs} (hp : SPair C) (hw : SWit C) (hi : SInt C) {ms : List Ins} {s : Stg} {w : World} (hs : SOk ms s) : runB ⟨2, 3, b_is_standing⟩ C [.dat (mD ms), .dat s.d] w = .ok (.dat (.bl true)) w := by
  obtain ⟨pc, ns⟩ := s
  have e1 : (pc : Int) ≤ ms.length - 1 := by have := hs.pc; simp only at this; omega
  have e2 : ns.length = 4 := hs.ns
  have g := compGo_map (i := 2) (e := dAnd (dCall C 1 (aCons (dName 2) aNil)) (dBin (gGe C.room) (dName 2) (dC (.int 0)))) (env := [.dat (mD ms), .dat (Stg.d ⟨pc, ns⟩), .un]) (w := w) (f := fun _ => .bl true) (l := ns.map fun (n : Nat) => D.int (n : Int)) (fun d hd => by
    obtain ⟨x, hx, rfl⟩ := List.mem_map.mp hd
    simp [hi _ _, isI])
  have ha := all_true (l := (ns.map fun (n : Nat) => D.int (n : Int)).map fun _ => D.bl true) (by simp)
  simp only [mD, Stg.d] at g
  simp [runB, initE, toSl, b_is_standing, mD, Stg.d, D.isTy, hp _ _ _, hw _ _ _ _, at_0, at_1, e1, e2, len_mnop, g, -cAll_l, ha, -List.map_map, -List.map_const']
def SChM (C : Cs) : Prop := ∀ ms w, MOk ms → C.call 7 [.dat (mD ms)] w = .ok (.dat .non) w
theorem r_chm {C : Cs} (h : SMach C) {ms : List Ins} {w : World} (hm : MOk ms) : runB ⟨1, 1, b_check_machine⟩ C [.dat (mD ms)] w = .ok (.dat .non) w := by
  simp [runB, initE, toSl, b_check_machine, h _ _ hm]
def SChB (C : Cs) : Prop := ∀ ms s w, MOk ms → SOk ms s → C.call 10 [.dat (mD ms), .dat s.d] w = .ok (.dat .non) w
theorem r_chb {C : Cs} (h : SChM C) (h2 : SStd C) {ms : List Ins} {s : Stg} {w : World} (hm : MOk ms) (hs : SOk ms s) : runB ⟨2, 2, b_check_both⟩ C [.dat (mD ms), .dat s.d] w = .ok (.dat .non) w := by
  simp [runB, initE, toSl, b_check_both, h _ _ hm, h2 _ _ _ hs]
theorem ne_du : ¬ Str.ofString "down" = Str.ofString "up" := by decide +kernel
theorem ne_dh : ¬ Str.ofString "down" = Str.ofString "halt" := by decide +kernel
theorem ne_uh : ¬ Str.ofString "up" = Str.ofString "halt" := by decide +kernel
theorem nsD {ns : List Nat} {r : Nat} (h : r < ns.length) : atI (ns.map fun (n : Nat) => D.int (n : Int)) (r : Int) = some (.int (ns[r]?.getD 0 : Nat)) := by
  rw [atI_get (by simpa using h)]
  simp [h]
theorem set_cut {α : Type} {l : List α} {r : Nat} {x : α} (h : r < l.length) : l.take r ++ [x] ++ l.drop (r + 1) = l.set r x := by
  rw [List.set_eq_take_append_cons_drop, if_pos h]
  simp
theorem getI {ms : List Ins} {k : Nat} (h : k < ms.length) : atI (ms.map Ins.d) (k : Int) = some (ms[k]'h).d := by
  rw [atI_get (by simpa using h)]
  simp
def SBst (C : Cs) : Prop := ∀ ms s s' w, MOk ms → SOk ms s → stepS ms s = some s' → C.call 8 [.dat (mD ms), .dat s.d] w = .ok (.dat s'.d) w
theorem r_bstep {C : Cs} {ms : List Ins} {s s' : Stg} {w : World} (hm : MOk ms) (hs : SOk ms s) (h : stepS ms s = some s') : runB ⟨2, 8, b_behind_step⟩ C [.dat (mD ms), .dat s.d] w = .ok (.dat s'.d) w := by
  obtain ⟨pc, ns⟩ := s
  have hpc : pc < ms.length := hs.pc
  have hns : ns.length = 4 := hs.ns
  have ok := hm.all _ (List.getElem_mem hpc)
  have e : ms[pc]? = some ms[pc] := by simp [hpc]
  have g := getI hpc
  unfold stepS at h
  simp only [e] at h
  cases q : ms[pc]'hpc with
  | halt => rw [q] at h; cases h
  | up r t =>
    rw [q] at h ok g
    cases h
    have hr : r < ns.length := by have := ok.1; omega
    have e1 := nsD hr
    have c1 : cutD (ns.map fun (n : Nat) => D.int (n : Int)) none (some (r : Int)) = (ns.map fun (n : Nat) => D.int (n : Int)).take r := cutD_to
    have c2 : cutD (ns.map fun (n : Nat) => D.int (n : Int)) (some ((r : Int) + 1)) none = (ns.map fun (n : Nat) => D.int (n : Int)).drop (r + 1) := cutD_from (k := r + 1)
    have z1 : min r 4 + 1 ≤ sizeLine := by simp [sizeLine]; omega
    have z2 : min r 4 + 1 + (3 - r) ≤ sizeLine := by simp [sizeLine]; omega
    have sc : List.take r (ns.map fun (n : Nat) => D.int (n : Int)) ++ D.int ((ns[r]?.getD 0 : Nat) + 1) :: List.drop (r + 1) (ns.map fun (n : Nat) => D.int (n : Int)) = (ns.set r (ns[r]?.getD 0 + 1)).map fun (n : Nat) => D.int (n : Int) := by
      have := set_cut (l := ns.map fun (n : Nat) => D.int (n : Int)) (r := r) (x := D.int ((ns[r]?.getD 0 : Nat) + 1)) (by simpa using hr)
      rw [List.append_assoc] at this
      rw [List.map_set]
      simpa using this
    simp [runB, initE, toSl, b_behind_step, mD, Stg.d, g, Ins.d, at_0, at_1, at_2, at_3, e1, c1, c2, hns, z1, z2, sc]
  | down r t z =>
    rw [q] at h ok g
    have hr : r < ns.length := by have := ok.1; omega
    have e1 := nsD hr
    simp only at h
    by_cases h0 : ns[r]?.getD 0 = 0
    · rw [if_pos h0] at h
      cases h
      rw [h0] at e1
      simp [runB, initE, toSl, b_behind_step, mD, Stg.d, g, Ins.d, at_0, at_1, at_2, at_3, e1, hns, ne_du]
    · rw [if_neg h0] at h
      cases h
      have c1 : cutD (ns.map fun (n : Nat) => D.int (n : Int)) none (some (r : Int)) = (ns.map fun (n : Nat) => D.int (n : Int)).take r := cutD_to
      have c2 : cutD (ns.map fun (n : Nat) => D.int (n : Int)) (some ((r : Int) + 1)) none = (ns.map fun (n : Nat) => D.int (n : Int)).drop (r + 1) := cutD_from (k := r + 1)
      have z1 : min r 4 + 1 ≤ sizeLine := by simp [sizeLine]; omega
      have z2 : min r 4 + 1 + (3 - r) ≤ sizeLine := by simp [sizeLine]; omega
      have sc : List.take r (ns.map fun (n : Nat) => D.int (n : Int)) ++ D.int ((ns[r]?.getD 0 : Nat) + -1) :: List.drop (r + 1) (ns.map fun (n : Nat) => D.int (n : Int)) = (ns.set r (ns[r]?.getD 0 - 1)).map fun (n : Nat) => D.int (n : Int) := by
        have := set_cut (l := ns.map fun (n : Nat) => D.int (n : Int)) (r := r) (x := D.int ((ns[r]?.getD 0 : Nat) + -1)) (by simpa using hr)
        rw [List.append_assoc] at this
        rw [List.map_set, show ((ns[r]?.getD 0 - 1 : Nat) : Int) = ((ns[r]?.getD 0 : Nat) : Int) + -1 by omega]
        simpa using this
      simp [runB, initE, toSl, b_behind_step, mD, Stg.d, g, Ins.d, at_0, at_1, at_2, at_3, e1, c1, c2, hns, z1, z2, sc, h0, ne_du]
theorem halt_of {ms : List Ins} {s : Stg} (hs : SOk ms s) : (stepS ms s = none ↔ ms[s.pc]'hs.pc = .halt) := by
  have hpc := hs.pc
  have e : ms[s.pc]? = some ms[s.pc] := by simp [hpc]
  unfold stepS
  rw [e]
  cases q : ms[s.pc]'hpc with
  | halt => simp
  | up r t => simp
  | down r t z =>
    simp only [reduceCtorEq, iff_false]
    split <;> simp
theorem head_d (x : Ins) : ∃ l s, x.d = .tup (.str s :: l) ∧ (decide (s = Str.ofString "halt") = decide (x = .halt)) := by
  cases x with
  | halt => exact ⟨_, _, rfl, by simp⟩
  | up r t => exact ⟨_, _, rfl, by simp [ne_uh]⟩
  | down r t z => exact ⟨_, _, rfl, by simp [ne_dh]⟩
def SDone (C : Cs) : Prop := ∀ ms s (n : Nat) w, MOk ms → SOk ms s → n ≤ 100000 → C.call 14 [.dat (mD ms), .dat s.d, .dat (.int n)] w = .ok (.dat (runS ms n s).d) w
theorem done_loop {C : Cs} (h : SBst C) {ms : List Ins} (hm : MOk ms) {st : D} {w : World} : ∀ (l : List D) (s : Stg) (x : Sl), SOk ms s → ∃ y,
    forGo (gN 3) (sSeq (sIf (dTst (dBin (gEq C.room) (dBin gIx (dBin gIx (dName 0) (dBin gIx (dName 1) (dC (.int 0)))) (dC (.int 0))) (dC (.str "halt")))) sBreak sNil)
      (sSet 1 (dCall C 8 (aCons (dName 0) (aCons (dName 1) aNil))))) l [.dat (mD ms), .dat s.d, .dat st, x] w = .ok (.nx [.dat (mD ms), .dat (runS ms l.length s).d, .dat st, y]) w
  | [], s, x, _ => ⟨x, rfl⟩
  | d :: l, s, x, hs => by
    have hpc := hs.pc
    have g := getI hpc
    obtain ⟨xs, z, e1, e2⟩ := head_d (ms[s.pc]'hpc)
    rw [for_cons]
    cases q : stepS ms s with
    | none =>
      have := (halt_of hs).mp q
      rw [this] at e2
      simp only [decide_true, decide_eq_true_eq] at e2
      rw [e1] at g
      exact ⟨.dat d, by simp [mD, Stg.d, at_0, g, e2, runS, q]⟩
    | some s' =>
      have hne : ms[s.pc]'hpc ≠ .halt := fun e => by
        rw [(halt_of hs).mpr e] at q; cases q
      have e3 : z ≠ Str.ofString "halt" := by simpa [hne] using e2
      have hs' := step_ok hm hs q
      obtain ⟨y, ih⟩ := done_loop h hm (st := st) (w := w) l s' (.dat d) hs'
      refine ⟨y, ?_⟩
      rw [e1] at g
      have hc := h ms s s' w hm hs q
      simp only [mD, Stg.d] at ih hc
      simp [mD, Stg.d, at_0, g, e3, hc, ih, runS, q]
theorem r_done {C : Cs} (hb : SChB C) (hc : SCount C) (h : SBst C) {ms : List Ins} {s : Stg} {n : Nat} {w : World} (hm : MOk ms) (hs : SOk ms s) (hn : n ≤ 100000) : runB ⟨3, 4, b_done⟩ C [.dat (mD ms), .dat s.d, .dat (.int n)] w = .ok (.dat (runS ms n s).d) w := by
  obtain ⟨y, e⟩ := done_loop h hm (st := .int n) (w := w) (rngD 0 n) s .un hs
  have el : (rngD 0 n).length = n := by rw [rngD_nat]; simp
  rw [el] at e
  have z : (n : Int) ≤ 16777216 ∧ (n : Int) < 4611686018427387904 := by omega
  simp [runB, initE, toSl, b_done, hb ms s w hm hs, hc n 0 100000 w (by omega) (by omega), e, z]
/-! the law's own -/
def SNext (C : Cs) : Prop := ∀ ms s w, MOk ms → SOk ms s → C.call 13 [.dat (mD ms), .dat s.d] w = .ok (.dat (match stepS ms s with
  | none => .non
  | some s' => s'.d)) w
theorem r_next {C : Cs} {ms : List Ins} {s : Stg} {w : World} (hm : MOk ms) (hs : SOk ms s) : runB ⟨2, 6, b__law_next⟩ C [.dat (mD ms), .dat s.d] w = .ok (.dat (match stepS ms s with
  | none => .non
  | some s' => s'.d)) w := by
  obtain ⟨pc, ns⟩ := s
  have hpc : pc < ms.length := hs.pc
  have hns : ns.length = 4 := hs.ns
  have ok := hm.all _ (List.getElem_mem hpc)
  have e : ms[pc]? = some ms[pc] := by simp [hpc]
  have g := getI hpc
  unfold stepS
  simp only [e]
  cases q : ms[pc]'hpc with
  | halt =>
    rw [q] at g
    simp [runB, initE, toSl, b__law_next, mD, Stg.d, g, Ins.d, at_0]
  | up r t =>
    rw [q] at ok g
    have hr : r < ns.length := by have := ok.1; omega
    have e1 := nsD hr
    have i1 : ixN 4 (r : Int) = some r := ixN_get (by omega)
    simp [runB, initE, toSl, b__law_next, mD, Stg.d, g, Ins.d, at_0, at_1, at_2, at_3, e1, hns, ne_uh, i1, List.map_set]
  | down r t z =>
    rw [q] at ok g
    have hr : r < ns.length := by have := ok.1; omega
    have e1 := nsD hr
    have i1 : ixN 4 (r : Int) = some r := ixN_get (by omega)
    by_cases h0 : ns[r]?.getD 0 = 0
    · rw [h0] at e1
      simp [runB, initE, toSl, b__law_next, mD, Stg.d, g, Ins.d, at_0, at_1, at_2, at_3, e1, hns, ne_dh, ne_du, i1, h0]
    · have c : ((ns[r]?.getD 0 - 1 : Nat) : Int) = ((ns[r]?.getD 0 : Nat) : Int) - 1 := by omega
      simp [runB, initE, toSl, b__law_next, mD, Stg.d, g, Ins.d, at_0, at_1, at_2, at_3, e1, hns, ne_dh, ne_du, i1, h0, List.map_set, c]
def SBeh (C : Cs) : Prop := ∀ ms s (n : Nat) w, MOk ms → SOk ms s → n ≤ 100000 → C.call 15 [.dat (mD ms), .dat s.d, .dat (.int n)] w = .ok (.dat (runS ms n s).d) w
theorem beh_loop {C : Cs} (h : SNext C) {ms : List Ins} (hm : MOk ms) {st : D} {w : World} : ∀ (l : List D) (s : Stg) (x x' : Sl), SOk ms s → ∃ y y',
    forGo (gN 3) (sSeq (sSet 4 (dCall C 13 (aCons (dName 0) (aCons (dName 1) aNil))))
  (sSeq (sIf (dTst (dBin gIs (dName 4) (dC .non))) sBreak sNil)
  (sSet 1 (dName 4)))) l [.dat (mD ms), .dat s.d, .dat st, x, x'] w = .ok (.nx [.dat (mD ms), .dat (runS ms l.length s).d, .dat st, y, y']) w
  | [], s, x, x', _ => ⟨x, x', rfl⟩
  | d :: l, s, x, x', hs => by
    have hc := h ms s w hm hs
    rw [for_cons]
    cases q : stepS ms s with
    | none =>
      rw [q] at hc
      simp only [mD, Stg.d] at hc
      exact ⟨.dat d, .dat .non, by simp [mD, Stg.d, hc, runS, q]⟩
    | some s' =>
      rw [q] at hc
      have hs' := step_ok hm hs q
      obtain ⟨y, y', ih⟩ := beh_loop h hm (st := st) (w := w) l s' (.dat d) (.dat s'.d) hs'
      refine ⟨y, y', ?_⟩
      simp only [mD, Stg.d] at ih hc
      simp [mD, Stg.d, hc, ih, runS, q]
theorem r_beh {C : Cs} (h : SNext C) {ms : List Ins} {s : Stg} {n : Nat} {w : World} (hm : MOk ms) (hs : SOk ms s) (hn : n ≤ 100000) : runB ⟨3, 5, b__law_behind⟩ C [.dat (mD ms), .dat s.d, .dat (.int n)] w = .ok (.dat (runS ms n s).d) w := by
  obtain ⟨y, y', e⟩ := beh_loop h hm (st := .int n) (w := w) (rngD 0 n) s .un .un hs
  have el : (rngD 0 n).length = n := by rw [rngD_nat]; simp
  rw [el] at e
  have z : (n : Int) ≤ 16777216 ∧ (n : Int) < 4611686018427387904 := by omega
  simp [runB, initE, toSl, b__law_behind, e, z]
/-! same -/
def SSameI (C : Cs) : Prop := ∀ (i : Int) w, C.call 12 [.dat (.int i), .dat (.int i)] w = .ok (.dat (.bl true)) w
theorem r_sameI {C : Cs} {i : Int} {w : World} : runB ⟨2, 3, b__law_same⟩ C [.dat (.int i), .dat (.int i)] w = .ok (.dat (.bl true)) w := by
  simp [runB, initE, toSl, b__law_same, D.isTy]
/-- two alike tuples whose items answer alike -/
def SSameL (C : Cs) (l : List D) : Prop := ∀ w, C.call 12 [.dat (.tup l), .dat (.tup l)] w = .ok (.dat (.bl true)) w
theorem r_sameL {C : Cs} {l : List D} (h : ∀ d ∈ l, ∀ w, C.call 12 [.dat d, .dat d] w = .ok (.dat (.bl true)) w) (hl : l.length ≤ 1000) {w : World} : runB ⟨2, 3, b__law_same⟩ C [.dat (.tup l), .dat (.tup l)] w = .ok (.dat (.bl true)) w := by
  have g := compGo_map (i := 2) (e := dCall C 12 (aCons (dBin gIx (dName 0) (dName 2)) (aCons (dBin gIx (dName 1) (dName 2)) aNil))) (env := [.dat (.tup l), .dat (.tup l), .un]) (w := w) (f := fun _ => .bl true) (l := rngD 0 l.length) (fun d hd => by
    rw [rngD_nat] at hd
    obtain ⟨k, hk, rfl⟩ := List.mem_map.mp hd
    have hk : k < l.length := by simpa using hk
    have e := atI_get hk
    simp [e, h _ (List.getElem_mem hk) w])
  have ha := all_true (l := (rngD 0 l.length).map fun _ => D.bl true) (by simp)
  have z : (l.length : Int) ≤ 16777216 ∧ (l.length : Int) < 4611686018427387904 := by omega
  simp [runB, initE, toSl, b__law_same, D.isTy, g, -cAll_l, ha, z, -List.map_const']
def SSame (C : Cs) : Prop := ∀ (s : Stg) w, s.ns.length = 4 → C.call 12 [.dat s.d, .dat s.d] w = .ok (.dat (.bl true)) w
end K83
end Dl
namespace Dl
namespace K83
open PySem PySem.Spec PyProof.Rows L2 NdefX
def SPick (C : Cs) : Prop := ∀ rest w (m : Int), TapeOk rest w → 0 < m → m < 1073741824 → ∃ (r : Nat) (w' : World), C.call 11 [.wref 0, .dat (.int m)] w = .ok (.dat (.int r)) w' ∧ TapeOk rest w' ∧ (r : Int) < m
theorem r_pick {C : Cs} {rest w : World} {m : Int} (h : TapeOk rest w) (hm : 0 < m) (hb : m < 1073741824) :
    ∃ (r : Nat) (w' : World), runB ⟨2, 5, b__law_pick⟩ C [.wref 0, .dat (.int m)] w = .ok (.dat (.int r)) w' ∧ TapeOk rest w' ∧ (r : Int) < m := by
  obtain ⟨r, w', e, t, h0, h1⟩ := pick_run (C := C) h hm hb
  obtain ⟨k, rfl⟩ : ∃ k : Nat, r = k := ⟨r.toNat, by omega⟩
  exact ⟨k, w', e, t, h1⟩
def SGreat (C : Cs) : Prop := ∀ rest w, TapeOk rest w → ∃ (r : Nat) (w' : World), C.call 16 [.wref 0] w = .ok (.dat (.int r)) w' ∧ TapeOk rest w'
theorem r_great {C : Cs} (hp : SPick C) {rest w : World} (h : TapeOk rest w) : ∃ (r : Nat) (w' : World), runB ⟨1, 3, b__law_great⟩ C [.wref 0] w = .ok (.dat (.int r)) w' ∧ TapeOk rest w' := by
  obtain ⟨env', w', e, k, x, ee, t⟩ := for_inv (i := 2) (s := sSet 1 (dBin gAdd (dBin gMul (dName 1) (dBin gPow (dC (.int 10)) (dC (.int 8)))) (dCall C 11 (aCons (dName 0) (aCons (dBin gPow (dC (.int 10)) (dC (.int 8))) aNil)))))
    (P := fun _ env w => ∃ (k : Nat) (x : Sl), env = [.wref 0, .dat (.int k), x] ∧ TapeOk rest w) (l := rngD 0 5) (k := 0) (env := [.wref 0, .dat (.int 0), .un]) (w := w) ⟨0, .un, rfl, h⟩ (by
      rintro j d env w ⟨k, x, rfl, t⟩ _
      obtain ⟨r, w1, e1, t1, _⟩ := hp rest w 100000000 t (by decide) (by decide)
      refine ⟨[.wref 0, .dat (.int ((k * 100000000 + r : Nat) : Int)), .dat d], w1, ?_, _, _, rfl, t1⟩
      simp [mulOk, e1])
  subst ee
  exact ⟨k, w', by simp [runB, initE, toSl, b__law_great, e], t⟩
def SStand (C : Cs) : Prop := ∀ rest w ms, MOk ms → TapeOk rest w → ∃ s w', C.call 17 [.wref 0, .dat (mD ms), .dat (.int 4)] w = .ok (.dat (Stg.d s)) w' ∧ SOk ms s ∧ TapeOk rest w'
/-- four picks -/
theorem four {C : Cs} {e : Ex} {i : Nat} {env : Ev} {rest w : World} (h : TapeOk rest w) (he : ∀ d w, TapeOk rest w → ∃ (r : Nat) (w' : World), e (env.set i (.dat d)) w = .ok (.dat (.int r)) w' ∧ TapeOk rest w') :
    ∃ (ns : List Nat) (w' : World), compGo (gN i) tYes' e env (rngD 0 4) w = .ok (ns.map fun (n : Nat) => D.int (n : Int)) w' ∧ TapeOk rest w' ∧ ns.length = 4 := by
  obtain ⟨xs, w', e1, ⟨ns, e2, t⟩, hl⟩ := compGo_inv (i := i) (e := e) (env := env) (P := fun pre w => ∃ ns : List Nat, pre = ns.map (fun (n : Nat) => D.int (n : Int)) ∧ TapeOk rest w) (l := rngD 0 4) (w := w) (pre := []) ⟨[], rfl, h⟩ (by
    rintro pre w d ⟨ns, rfl, t⟩ _
    obtain ⟨r, w1, e1, t1⟩ := he d w t
    exact ⟨.int r, w1, e1, ns ++ [r], by simp, t1⟩)
  have e2 : xs = ns.map (fun (n : Nat) => D.int (n : Int)) := e2
  subst e2
  exact ⟨ns, w', e1, t, by simpa [rngD] using hl⟩
theorem r_stand {C : Cs} (hp : SPick C) {rest w : World} {ms : List Ins} (hm : MOk ms) (h : TapeOk rest w) : ∃ s w', runB ⟨3, 4, b__law_standing⟩ C [.wref 0, .dat (mD ms), .dat (.int 4)] w = .ok (.dat (Stg.d s)) w' ∧ SOk ms s ∧ TapeOk rest w' := by
  obtain ⟨pc, w1, e1, t1, l1⟩ := hp rest w (ms.length : Int) h (by have := hm.lo; omega) (by have := hm.hi; omega)
  obtain ⟨ns, w2, e2, t2, l2⟩ := four (C := C) (e := dCall C 11 (aCons (dName 0) (aCons (dName 2) aNil))) (i := 3) (env := [.wref 0, .dat (mD ms), .dat (.int 4), .un]) t1 (fun d w t => by
    obtain ⟨r, w1, e1, t1, _⟩ := hp rest w 4 t (by decide) (by decide)
    exact ⟨r, w1, by simp [e1], t1⟩)
  refine ⟨⟨pc, ns⟩, w2, ?_, ⟨by simpa using (by omega : pc < ms.length), l2⟩, t2⟩
  simp only [mD] at e2
  simp [runB, initE, toSl, b__law_standing, mD, Stg.d, e1, e2]
def SMake (C : Cs) : Prop := ∀ rest w (most : Int), (most = 12 ∨ most = 5) → TapeOk rest w → ∃ ms w', C.call 20 [.wref 0, .dat (.int most)] w = .ok (.dat (mD ms)) w' ∧ MOk ms ∧ TapeOk rest w'
theorem r_make {C : Cs} (hp : SPick C) {rest w : World} {most : Int} (hm : most = 12 ∨ most = 5) (h : TapeOk rest w) : ∃ ms w', runB ⟨2, 7, b__law_machine⟩ C [.wref 0, .dat (.int most)] w = .ok (.dat (mD ms)) w' ∧ MOk ms ∧ TapeOk rest w' := by
  obtain ⟨q, w1, e1, t1, l1⟩ := hp rest w most h (by omega) (by omega)
  obtain ⟨env', w', e, rows, x4, x5, x6, hl, ha, ee, t⟩ := for_inv (i := 4) (s := (sSeq (sSet 5 (dCall C 11 (aCons (dName 0) (aCons (dC (.int 6)) aNil))))
  (sSeq (sSet 6 (dCall C 11 (aCons (dName 0) (aCons (dC (.int 4)) aNil))))
  (sIf (dTst (dBin (gEq C.room) (dName 5) (dC (.int 0)))) (sAppend 3 (dTup (aCons (dC (.str "halt")) aNil))) (sIf (dTst (dBin (gLt C.room) (dName 5) (dC (.int 3)))) (sAppend 3 (dTup (aCons (dC (.str "up")) (aCons (dName 6) (aCons (dCall C 11 (aCons (dName 0) (aCons (dName 2) aNil))) aNil))))) (sAppend 3 (dTup (aCons (dC (.str "down")) (aCons (dName 6) (aCons (dCall C 11 (aCons (dName 0) (aCons (dName 2) aNil))) (aCons (dCall C 11 (aCons (dName 0) (aCons (dName 2) aNil))) aNil)))))))))))
    (P := fun j env w => ∃ (rows : List Ins) (x4 x5 x6 : Sl), rows.length = j ∧ (∀ x ∈ rows, x.ok (1 + q)) ∧ env = [.wref 0, .dat (.int most), .dat (.int ((1 + q : Nat) : Int)), .own (rows.map Ins.d), x4, x5, x6] ∧ TapeOk rest w)
    (l := rngD 0 ((1 + q : Nat) : Int)) (k := 0) (env := [.wref 0, .dat (.int most), .dat (.int ((1 + q : Nat) : Int)), .own [], .un, .un, .un]) (w := w1) ⟨[], .un, .un, .un, rfl, by simp, rfl, t1⟩ (by
      rintro j d env w ⟨rows, x4, x5, x6, hl, ha, rfl, t⟩ hd
      have hj : j < 1 + q := by
        have := (List.getElem?_eq_some_iff.mp hd).1
        rw [rngD_nat] at this
        simpa using this
      have hz : rows.length < 16777216 := by omega
      obtain ⟨kd, w2, e2, t2, l2⟩ := hp rest w 6 t (by decide) (by decide)
      obtain ⟨rg, w3, e3, t3, l3⟩ := hp rest w2 4 t2 (by decide) (by decide)
      obtain ⟨p1, w4, e4, t4, l4⟩ := hp rest w3 ((1 + q : Nat) : Int) t3 (by omega) (by omega)
      obtain ⟨p2, w5, e5, t5, l5⟩ := hp rest w4 ((1 + q : Nat) : Int) t4 (by omega) (by omega)
      have mk : ∀ (x : Ins), x.ok (1 + q) → ∀ y ∈ rows ++ [x], y.ok (1 + q) := fun x hx y hy => by
        rcases List.mem_append.mp hy with z | z
        · exact ha y z
        · rw [List.mem_singleton.mp z]; exact hx
      simp only [Int.natCast_add, Int.cast_ofNat_Int] at e4 e5
      by_cases k0 : kd = 0
      · subst k0
        refine ⟨_, w3, ?_, rows ++ [.halt], .dat d, .dat (.int 0), .dat (.int rg), by simp [hl], mk .halt trivial, rfl, t3⟩
        simp [e2, e3, hz, Ins.d]
      · by_cases k1 : (kd : Int) < 3
        · refine ⟨_, w4, ?_, rows ++ [.up rg p1], .dat d, .dat (.int kd), .dat (.int rg), by simp [hl], mk (.up rg p1) ⟨by omega, by omega⟩, rfl, t4⟩
          simp [e2, e3, e4, hz, k0, k1, Ins.d]
        · refine ⟨_, w5, ?_, rows ++ [.down rg p1 p2], .dat d, .dat (.int kd), .dat (.int rg), by simp [hl], mk (.down rg p1 p2) ⟨by omega, by omega, by omega⟩, rfl, t5⟩
          simp [e2, e3, e4, e5, hz, k0, k1, Ins.d])
  have hl : rows.length = 1 + q := by rw [hl, rngD_nat]; simp
  subst ee
  refine ⟨rows, w', ?_, ⟨by omega, by omega, by rw [hl]; exact ha⟩, t⟩
  have z : (1 + (q : Int)) ≤ 16777216 ∧ (1 + (q : Int)) < 4611686018427387904 ∧ -4611686018427387904 ≤ 1 + (q : Int) := by omega
  simp only [Int.natCast_add, Int.cast_ofNat_Int] at e
  simp [runB, initE, toSl, b__law_machine, mD, e1, e, z]
end K83
end Dl
namespace Dl
namespace K83
open PySem PySem.Spec PyProof.Rows L2 NdefX
theorem run_n {ms : List Ins} {s : Stg} {n : Nat} (h : stepS ms s = none) : runS ms n s = s := by
  cases n with
  | zero => rfl
  | succ n =>
    show (match stepS ms s with
      | none => s
      | some s' => runS ms n s') = s
    rw [h]
theorem run_s {ms : List Ins} {s s' : Stg} {n : Nat} (h : stepS ms s = some s') : runS ms (n + 1) s = runS ms n s' := by
  show (match stepS ms s with
    | none => s
    | some s' => runS ms n s') = _
  rw [h]
theorem run_add {ms : List Ins} : ∀ (a b : Nat) (s : Stg), runS ms (a + b) s = runS ms b (runS ms a s)
  | 0, b, s => by simp [runS]
  | a + 1, b, s => by
    rw [show a + 1 + b = (a + b) + 1 by omega]
    cases q : stepS ms s with
    | none => rw [run_n q, run_n q, run_n q]
    | some s' => rw [run_s q, run_s q, run_add a b s']
theorem run_halt {ms : List Ins} {s : Stg} (h : stepS ms s = none) : ∀ n, runS ms n s = s
  | 0 => rfl
  | n + 1 => by simp [runS, h]
/-! long -/
def msL : List Ins := [.up 0 1, .up 3 0]
theorem msL_ok : MOk msL := ⟨by decide, by decide, by simp [msL, Ins.ok]⟩
theorem run_long : ∀ (n a d : Nat), runS msL n ⟨0, [a, 0, 0, d]⟩ = ⟨n % 2, [a + (n + 1) / 2, 0, 0, d + n / 2]⟩ ∧ runS msL n ⟨1, [a, 0, 0, d]⟩ = ⟨(n + 1) % 2, [a + n / 2, 0, 0, d + (n + 1) / 2]⟩
  | 0, a, d => by simp [runS]
  | n + 1, a, d => by
    have h1 := (run_long n (a + 1) d).2
    have h2 := (run_long n a (d + 1)).1
    constructor
    · rw [run_s (s' := ⟨1, [a + 1, 0, 0, d]⟩) rfl, h1]
      simp only [Stg.mk.injEq, List.cons.injEq, and_true, true_and]
      omega
    · rw [run_s (s' := ⟨0, [a, 0, 0, d + 1]⟩) rfl, h2]
      simp only [Stg.mk.injEq, List.cons.injEq, and_true, true_and]
      omega
def SLong (C : Cs) : Prop := ∀ rest w, TapeOk rest w → ∃ w', C.call 21 [.wref 0] w = .ok (.dat (.bl true)) w' ∧ TapeOk rest w'
theorem r_long {C : Cs} (hp : SPick C) (hd : SDone C) (hs : SSame C) {rest w : World} (h : TapeOk rest w) : ∃ w', runB ⟨1, 5, b__law_long⟩ C [.wref 0] w = .ok (.dat (.bl true)) w' ∧ TapeOk rest w' := by
  obtain ⟨a, w1, e1, t1, l1⟩ := hp rest w 1000 h (by decide) (by decide)
  obtain ⟨b, w2, e2, t2, l2⟩ := hp rest w1 2 t1 (by decide) (by decide)
  obtain ⟨n, hn⟩ : ∃ n : Nat, (100000 : Int) - b = n := ⟨100000 - b, by omega⟩
  have e3 := hd msL ⟨0, [a, 0, 0, 0]⟩ n w2 msL_ok ⟨by simp [msL], rfl⟩ (by omega)
  have e4 := hs (runS msL n ⟨0, [a, 0, 0, 0]⟩) w2 (by rw [(run_long n a 0).1]; rfl)
  rw [(run_long n a 0).1] at e3 e4
  have f1 : (n : Int) % 2 = ((n % 2 : Nat) : Int) := by omega
  have f2 : (a : Int) + n - (n : Int) / 2 = ((a + (n + 1) / 2 : Nat) : Int) := by omega
  have f3 : (n : Int) / 2 = ((0 + n / 2 : Nat) : Int) := by omega
  simp only [mD, Stg.d, msL, Ins.d, List.map_cons, List.map_nil, Int.cast_ofNat_Int] at e3 e4
  rw [← f1, ← f2, ← f3] at e3 e4
  refine ⟨w2, ?_, t2⟩
  simp [runB, initE, toSl, b__law_long, e1, e2, hn, e3, e4]
/-! brought -/
def msB (lo hi : Nat) : List Ins := [.down lo 1 2, .up hi 0, .halt]
theorem msB_ok {lo hi : Nat} (h1 : lo < 4) (h2 : hi < 4) : MOk (msB lo hi) := ⟨by simp [msB], by simp [msB], by simp [msB, Ins.ok, h1, h2]⟩
def lB (l : List Nat) (lo hi a b : Nat) : List Nat := (l.set lo a).set hi b
theorem run_brought {l : List Nat} {lo hi : Nat} (hl : l.length = 4) (h1 : lo < 4) (h2 : hi < 4) (hn : lo ≠ hi) : ∀ (j k b : Nat), runS (msB lo hi) (2 * j) ⟨0, lB l lo hi (j + k) b⟩ = ⟨0, lB l lo hi k (b + j)⟩
  | 0, k, b => by simp [runS]
  | j + 1, k, b => by
    have ih := run_brought hl h1 h2 hn j k (b + 1)
    have g1 : ∀ a b : Nat, (lB l lo hi a b)[lo]? = some a := fun a b => by
      unfold lB
      rw [List.getElem?_set_ne (by omega), List.getElem?_set_self (by omega)]
    have g2 : ∀ a b : Nat, (lB l lo hi a b)[hi]? = some b := fun a b => by
      unfold lB
      rw [List.getElem?_set_self (by simp; omega)]
    have s1 : ∀ a b c : Nat, (lB l lo hi a b).set lo c = lB l lo hi c b := fun a b c => by
      unfold lB
      rw [List.set_comm _ _ (by omega), List.set_set]
    have s2 : ∀ a b c : Nat, (lB l lo hi a b).set hi c = lB l lo hi a c := fun a b c => by
      unfold lB
      rw [List.set_set]
    rw [show 2 * (j + 1) = 2 * j + 1 + 1 by omega]
    have q1 : stepS (msB lo hi) ⟨0, lB l lo hi (j + 1 + k) b⟩ = some ⟨1, lB l lo hi (j + k) b⟩ := by
      have z : j + 1 + k ≠ 0 := by omega
      simp [stepS, msB, g1, s1, z]
    have q2 : stepS (msB lo hi) ⟨1, lB l lo hi (j + k) b⟩ = some ⟨0, lB l lo hi (j + k) (b + 1)⟩ := by
      simp [stepS, msB, g2, s2]
    rw [run_s q1, run_s q2, ih, show b + 1 + j = b + (j + 1) by omega]
theorem end_brought {l : List Nat} {lo hi : Nat} (hl : l.length = 4) (h1 : lo < 4) (h2 : hi < 4) (hn : lo ≠ hi) (b n : Nat) : runS (msB lo hi) (1 + n) ⟨0, lB l lo hi 0 b⟩ = ⟨2, lB l lo hi 0 b⟩ := by
  have g1 : ∀ a b : Nat, (lB l lo hi a b)[lo]? = some a := fun a b => by
    unfold lB
    rw [List.getElem?_set_ne (by omega), List.getElem?_set_self (by omega)]
  rw [run_add]
  have q1 : stepS (msB lo hi) ⟨0, lB l lo hi 0 b⟩ = some ⟨2, lB l lo hi 0 b⟩ := by
    simp [stepS, msB, g1]
  have q2 : stepS (msB lo hi) ⟨2, lB l lo hi 0 b⟩ = none := by
    simp [stepS, msB]
  rw [show runS (msB lo hi) 1 ⟨0, lB l lo hi 0 b⟩ = ⟨2, lB l lo hi 0 b⟩ by rw [run_s q1]; rfl, run_halt q2]
theorem mapSet {l : List Nat} {i a : Nat} : (l.map fun (n : Nat) => D.int (n : Int)).set i (.int (a : Int)) = (l.set i a).map fun (n : Nat) => D.int (n : Int) := by
  rw [List.map_set]
def SBro (C : Cs) : Prop := ∀ rest w, TapeOk rest w → ∃ w', C.call 18 [.wref 0] w = .ok (.dat (.bl true)) w' ∧ TapeOk rest w'
theorem r_bro {C : Cs} (hp : SPick C) (hd : SDone C) (hs : SSame C) {rest w : World} (h : TapeOk rest w) : ∃ w', runB ⟨1, 9, b__law_brought⟩ C [.wref 0] w = .ok (.dat (.bl true)) w' ∧ TapeOk rest w' := by
  obtain ⟨lo, w1, e1, t1, l1⟩ := hp rest w 4 h (by decide) (by decide)
  obtain ⟨q, w2, e2, t2, l2⟩ := hp rest w1 3 t1 (by decide) (by decide)
  obtain ⟨m, w3, e3, t3, l3⟩ := hp rest w2 700 t2 (by decide) (by decide)
  obtain ⟨hi, hh⟩ : ∃ hi : Nat, ((lo : Int) + 1 + q) % 4 = hi := ⟨(lo + 1 + q) % 4, by omega⟩
  have hhi : hi < 4 := by omega
  have hlo : lo < 4 := by omega
  have hne : lo ≠ hi := by omega
  obtain ⟨ns, w4, e4, t4, l4⟩ := four (C := C) (e := dCall C 11 (aCons (dName 0) (aCons (dC (.int 5)) aNil))) (i := 6)
    (env := [.wref 0, .dat (.int lo), .dat (.int hi), .dat (.int m), .dat (.tup [.tup [.str "down", .int lo, .int 1, .int 2], .tup [.str "up", .int hi, .int 0], .tup [.str "halt"]]), .un, .un, .un, .un]) t3 (fun d w t => by
    obtain ⟨r, w1, e1, t1, _⟩ := hp rest w 5 t (by decide) (by decide)
    exact ⟨r, w1, by simp [e1], t1⟩)
  obtain ⟨x, w5, e5, t5, l5⟩ := hp rest w4 90000 t4 (by decide) (by decide)
  obtain ⟨b, hb⟩ : ∃ b, ns[hi]? = some b := ⟨ns[hi], by simp⟩
  have i1 : ixN 4 (lo : Int) = some lo := ixN_get hlo
  have i2 : ixN 4 (hi : Int) = some hi := ixN_get hhi
  have hM := msB_ok hlo hhi
  have base : ns.set lo m = lB ns lo hi m b := by
    unfold lB
    apply List.ext_getElem?
    intro k
    by_cases hk : k = hi
    · subst hk
      rw [List.getElem?_set_ne (by omega), hb, List.getElem?_set_self (by simp; omega)]
    · rw [List.getElem?_set_ne (a := b) (by omega)]
  have hlen : ∀ a c, (lB ns lo hi a c).length = 4 := fun a c => by simp [lB, l4]
  have r1 := run_brought l4 hlo hhi hne m 0 b
  simp only [Nat.add_zero] at r1
  have so : SOk (msB lo hi) ⟨0, lB ns lo hi m b⟩ := ⟨by simp [msB], hlen _ _⟩
  have d1 := hd _ _ (2 * m + 1) w4 hM so (by omega)
  have d2 := hd _ _ (2 * m + 1 + x) w5 hM so (by omega)
  have d3 := hd _ _ (2 * m) w5 hM so (by omega)
  rw [run_add, r1, end_brought (n := 0) l4 hlo hhi hne] at d1
  rw [show 2 * m + 1 + x = 2 * m + (1 + x) by omega, run_add, r1, end_brought l4 hlo hhi hne] at d2
  rw [r1] at d3
  have s1 := hs ⟨2, lB ns lo hi 0 (b + m)⟩ w4 (hlen _ _)
  have s2 := hs ⟨2, lB ns lo hi 0 (b + m)⟩ w5 (hlen _ _)
  have s3 := hs ⟨0, lB ns lo hi 0 (b + m)⟩ w5 (hlen _ _)
  have ends : ((ns.set lo m).set lo 0).set hi (b + m) = lB ns lo hi 0 (b + m) := by
    unfold lB
    rw [List.set_set]
  have hx : atI ((ns.map fun (n : Nat) => D.int (n : Int)).set lo (.int (m : Int))) (hi : Int) = some (.int (b : Int)) := by
    rw [mapSet, base, nsD (by rw [hlen]; omega)]
    unfold lB
    rw [List.getElem?_set_self (by simp; omega)]
    rfl
  simp only [mD, Stg.d, msB, Ins.d, List.map_cons, List.map_nil, ← base, ← ends, ← mapSet, Int.natCast_add, Int.natCast_mul, Int.cast_ofNat_Int] at d1 d2 d3 s1 s2 s3
  rw [← Int.add_assoc] at d2
  simp only [List.set_set] at d1 d2 d3 s1 s2 s3
  refine ⟨w5, ?_, t5⟩
  simp [runB, initE, toSl, b__law_brought, e1, e2, e3, hh, e4, e5, i1, i2, l4, hx, mulOk, d1, d2, d3, s1, s2, s3]
end K83
end Dl
namespace Dl
namespace K83
open PySem PySem.Spec PyProof.Rows L2 NdefX
def tailA (C : Cs) : Sd := (sSeq (sSet 4 (dCall C 11 (aCons (dName 0) (aCons (dC (.int 40)) aNil))))
  (sSeq (sSet 5 (dCall C 11 (aCons (dName 0) (aCons (dC (.int 40)) aNil))))
  (sSeq (sSet 6 (dCall C 15 (aCons (dName 1) (aCons (dName 2) (aCons (dName 4) aNil)))))
  (sSeq (sSet 7 (dCall C 14 (aCons (dName 1) (aCons (dName 2) (aCons (dName 4) aNil)))))
  (sSeq (sIf (tNot' (dTru (dCall C 12 (aCons (dName 7) (aCons (dName 6) aNil))))) (sRet (dC (.bl false))) sNil)
  (sSeq (sIf (tNot' (dTru (dCall C 12 (aCons (dCall C 14 (aCons (dName 1) (aCons (dName 7) (aCons (dName 5) aNil)))) (aCons (dCall C 15 (aCons (dName 1) (aCons (dName 6) (aCons (dName 5) aNil)))) aNil))))) (sRet (dC (.bl false))) sNil)
  (sSeq (sIf (tNot' (dTru (dCall C 12 (aCons (dCall C 14 (aCons (dName 1) (aCons (dName 2) (aCons (dBin gAdd (dName 4) (dName 5)) aNil)))) (aCons (dCall C 15 (aCons (dName 1) (aCons (dName 6) (aCons (dName 5) aNil)))) aNil))))) (sRet (dC (.bl false))) sNil)
  (sSeq (sIf (dTst (dBin (gEq C.room) (dBin gIx (dBin gIx (dName 1) (dBin gIx (dName 7) (dC (.int 0)))) (dC (.int 0))) (dC (.str "halt")))) (sRet (dCall C 12 (aCons (dCall C 14 (aCons (dName 1) (aCons (dName 2) (aCons (dBin gPow (dC (.int 10)) (dC (.int 5))) aNil)))) (aCons (dName 6) aNil)))) sNil)
  (sRet (dCall C 12 (aCons (dCall C 14 (aCons (dName 1) (aCons (dName 2) (aCons (dC (.int 0)) aNil)))) (aCons (dName 2) aNil))))))))))))
theorem r_tail {C : Cs} (hp : SPick C) (hd : SDone C) (hb : SBeh C) (hs : SSame C) {rest w : World} {ms : List Ins} {s : Stg} {x : Sl} (hm : MOk ms) (so : SOk ms s) (h : TapeOk rest w) :
    ∃ w', endR (tailA C [.wref 0, .dat (mD ms), .dat s.d, x, .un, .un, .un, .un] w) = .ok (.dat (.bl true)) w' ∧ TapeOk rest w' := by
  obtain ⟨a, w1, e1, t1, l1⟩ := hp rest w 40 h (by decide) (by decide)
  obtain ⟨b, w2, e2, t2, l2⟩ := hp rest w1 40 t1 (by decide) (by decide)
  have sa := run_ok hm a so
  have sb := run_ok hm b sa
  have c1 := hb ms s a w2 hm so (by omega)
  have c2 := hd ms s a w2 hm so (by omega)
  have c3 := hd ms _ b w2 hm sa (by omega)
  have c4 := hb ms _ b w2 hm sa (by omega)
  have c5 := hd ms s (a + b) w2 hm so (by omega)
  rw [run_add] at c5
  have c6 := hd ms s 0 w2 hm so (by omega)
  have s1 := hs _ w2 sa.ns
  have s2 := hs _ w2 sb.ns
  have s0 := hs _ w2 so.ns
  have hpc := sa.pc
  have g := getI hpc
  obtain ⟨xs, z, q1, q2⟩ := head_d (ms[(runS ms a s).pc]'hpc)
  rw [q1] at g
  have gm : gIx (mD ms) (.int ((runS ms a s).pc : Int)) = some (.dat (.tup (.str z :: xs))) := by simp [mD, g]
  refine ⟨w2, ?_, t2⟩
  have i0 : ∀ s : Stg, gIx s.d (.int 0) = some (.dat (.int s.pc)) := fun s => by simp [Stg.d, at_0]
  simp only [Int.natCast_add, Int.cast_ofNat_Int, runS] at c5 c6
  by_cases hh : ms[(runS ms a s).pc]'hpc = .halt
  · have st : stepS ms (runS ms a s) = none := (halt_of sa).mpr hh
    have c7 := hd ms s 100000 w2 hm so (by omega)
    rw [show (100000 : Nat) = a + (100000 - a) by omega, run_add, run_n st] at c7
    rw [show a + (100000 - a) = 100000 by omega] at c7
    have e3 : z = Str.ofString "halt" := by simpa [hh] using q2
    subst e3
    simp only [Int.cast_ofNat_Int] at c7
    simp [tailA, e1, e2, c1, c2, c3, c4, c5, c6, c7, s0, s1, s2, i0, gm, at_0]
  · have e3 : z ≠ Str.ofString "halt" := by simpa [hh] using q2
    simp [tailA, e1, e2, c1, c2, c3, c4, c5, c6, s0, s1, s2, i0, gm, at_0, e3]
theorem asked_eq (C : Cs) : b__law_asked C = sSeq (sSet 2 (dCall C 17 (aCons (dName 0) (aCons (dName 1) (aCons (dC (.int 4)) aNil)))))
  (sSeq (sIf (dTst (dBin (gEq C.room) (dCall C 11 (aCons (dName 0) (aCons (dC (.int 4)) aNil))) (dC (.int 0)))) (sSet 2 (dTup (aCons (dBin gIx (dName 2) (dC (.int 0))) (aCons (dBlt cTuple (rCons (dComp (iRange rg1 (rCons (dC (.int 4)) rNil)) [3] (gN 3) tYes' (dCall C 16 (aCons (dName 0) aNil))) rNil)) aNil)))) sNil) (tailA C)) := rfl
def SAsk (C : Cs) : Prop := ∀ rest w ms, MOk ms → TapeOk rest w → ∃ w', C.call 19 [.wref 0, .dat (mD ms)] w = .ok (.dat (.bl true)) w' ∧ TapeOk rest w'
theorem r_ask {C : Cs} (hp : SPick C) (hg : SGreat C) (ht : SStand C) (hd : SDone C) (hb : SBeh C) (hs : SSame C) {rest w : World} {ms : List Ins} (hm : MOk ms) (h : TapeOk rest w) :
    ∃ w', runB ⟨2, 8, b__law_asked⟩ C [.wref 0, .dat (mD ms)] w = .ok (.dat (.bl true)) w' ∧ TapeOk rest w' := by
  obtain ⟨s, w1, e1, so, t1⟩ := ht rest w ms hm h
  obtain ⟨k, w2, e2, t2, l2⟩ := hp rest w1 4 t1 (by decide) (by decide)
  by_cases hk : k = 0
  · subst hk
    obtain ⟨ns, w3, e3, t3, l3⟩ := four (C := C) (e := dCall C 16 (aCons (dName 0) aNil)) (i := 3) (env := [.wref 0, .dat (mD ms), .dat s.d, .un, .un, .un, .un, .un]) t2 (fun d w t => by
      obtain ⟨r, w1, e1, t1⟩ := hg rest w t
      exact ⟨r, w1, by simp [e1], t1⟩)
    obtain ⟨w', e4, t4⟩ := r_tail hp hd hb hs (x := .un) hm (s := ⟨s.pc, ns⟩) ⟨so.pc, l3⟩ t3
    refine ⟨w', ?_, t4⟩
    have i0 : gIx s.d (.int 0) = some (.dat (.int s.pc)) := by simp [Stg.d, at_0]
    rw [← e4]
    simp only [Stg.d] at e1 e3 i0
    simp [runB, initE, toSl, asked_eq, e1, e2, e3, i0, Stg.d, at_0, -gIx_t]
  · obtain ⟨w', e4, t4⟩ := r_tail hp hd hb hs (x := .un) hm so t2
    refine ⟨w', ?_, t4⟩
    rw [← e4]
    simp [runB, initE, toSl, asked_eq, e1, e2, hk]
end K83
end Dl
namespace Dl
namespace K83
open PySem PySem.Spec PyProof.Rows L2 NdefX
def STape (C : Cs) : Prop := ∀ (l : List Int) w, C.call 22 [.dat (.lst (l.map .int))] w = .ok (.fresh [.lst (l.map .int), .int 0, .int 0, .int 1, .int 0]) w
theorem r_law {C : Cs} (hT : STape C) (hp : SPick C) (hL : SLong C) (hK : SMake C) (hM : SMach C) (hA : SAsk C) (hB : SBro C) (ns : List Int) :
    ∃ w', runB ⟨1, 5, b_law⟩ C [.dat (.lst (ns.map .int))] [] = .ok (.dat (.bl true)) w' := by
  have t0 : TapeOk [] [tapeD ns 0 0 1 0] := ⟨ns, 0, 0, 1, 0, rfl, by decide⟩
  obtain ⟨k, w1, e1, t1, l1⟩ := hp [] _ 40 t0 (by decide) (by decide)
  have part : ∃ w2, TapeOk [] w2 ∧ (tAnd' (dTst (dBin (gEq C.room) (dCall C 11 (aCons (dName 1) (aCons (dC (.int 40)) aNil))) (dC (.int 0)))) (tNot' (dTru (dCall C 21 (aCons (dName 1) aNil)))))
      [.dat (.lst (ns.map .int)), .wref 0, .un, .un, .un] [tapeD ns 0 0 1 0] = .ok false w2 := by
    by_cases hk : k = 0
    · subst hk
      obtain ⟨w2, e2, t2⟩ := hL [] w1 t1
      exact ⟨w2, t2, by simp [e1, e2]⟩
    · exact ⟨w1, t1, by simp [e1, hk]⟩
  obtain ⟨w2, t2, e2⟩ := part
  obtain ⟨q, w3, e3, t3, l3⟩ := hp [] w2 4 t2 (by decide) (by decide)
  have part2 : ∃ most : Int, (most = 12 ∨ most = 5) ∧ dIf (dTst (dBin (gEq C.room) (dCall C 11 (aCons (dName 1) (aCons (dC (.int 4)) aNil))) (dC (.int 0)))) (dC (.int 12)) (dC (.int 5))
      [.dat (.lst (ns.map .int)), .wref 0, .un, .un, .un] w2 = .ok (.dat (.int most)) w3 := by
    by_cases hq : q = 0
    · subst hq
      exact ⟨12, .inl rfl, by simp [e3]⟩
    · exact ⟨5, .inr rfl, by simp [e3, hq]⟩
  obtain ⟨most, hm, e4⟩ := part2
  obtain ⟨ms, w4, e5, mo, t4⟩ := hK [] w3 most hm t3
  have e6 := hM ms w4 mo
  obtain ⟨K, hK1, hK2⟩ : ∃ K : Nat, (if (if (ns.length : Int) < 6 then (ns.length : Int) else 6) > 2 then (if (ns.length : Int) < 6 then (ns.length : Int) else 6) else 2) = (K : Int) ∧ K ≤ 6 := by
    by_cases h6 : (ns.length : Int) < 6
    · by_cases h2 : (ns.length : Int) > 2
      · exact ⟨ns.length, by rw [if_pos h6, if_pos h2], by omega⟩
      · exact ⟨2, by rw [if_pos h6, if_neg h2]; rfl, by omega⟩
    · exact ⟨6, by rw [if_neg h6]; rfl, by omega⟩
  obtain ⟨env', w5, e7, x, ee, t5⟩ := for_inv (i := 4) (s := (sIf (tNot' (dTru (dCall C 19 (aCons (dName 1) (aCons (dName 3) aNil))))) (sRet (dC (.bl false))) sNil))
    (P := fun _ env w => ∃ (x : Sl), env = [.dat (.lst (ns.map .int)), .wref 0, .dat (.int most), .dat (mD ms), x] ∧ TapeOk [] w) (l := rngD 0 K) (k := 0) (env := [.dat (.lst (ns.map .int)), .wref 0, .dat (.int most), .dat (mD ms), .un]) (w := w4) ⟨.un, rfl, t4⟩ (by
      rintro j d env w ⟨x, rfl, t⟩ _
      obtain ⟨w1, e1, t1⟩ := hA [] w ms mo t
      exact ⟨_, w1, by simp [e1]; rfl, _, rfl, t1⟩)
  subst ee
  obtain ⟨w6, e8, t6⟩ := hB [] w5 t5
  refine ⟨w6, ?_⟩
  have ze : runB ⟨1, 5, b_law⟩ C [.dat (.lst (ns.map .int))] [] = endR ((sSeq (sIf (tAnd' (dTst (dBin (gEq C.room) (dCall C 11 (aCons (dName 1) (aCons (dC (.int 40)) aNil))) (dC (.int 0)))) (tNot' (dTru (dCall C 21 (aCons (dName 1) aNil))))) (sRet (dC (.bl false))) sNil)
  (sSeq (sSet 2 (dIf (dTst (dBin (gEq C.room) (dCall C 11 (aCons (dName 1) (aCons (dC (.int 4)) aNil))) (dC (.int 0)))) (dC (.int 12)) (dC (.int 5))))
  (sSeq (sSet 3 (dCall C 20 (aCons (dName 1) (aCons (dName 2) aNil))))
  (sSeq (sIf (dTst (dBin gIsNot (dCall C 5 (aCons (dName 3) aNil)) (dC (.bl true)))) (sRet (dC (.bl false))) sNil)
  (sSeq (sFor (iRange rg1 (rCons (dBlt cMax2 (rCons (dC (.int 2)) (rCons (dBlt cMin2 (rCons (dC (.int 6)) (rCons (dBlt cLen (rCons (dName 0) rNil)) rNil))) rNil))) rNil)) (gN 4) (sIf (tNot' (dTru (dCall C 19 (aCons (dName 1) (aCons (dName 3) aNil))))) (sRet (dC (.bl false))) sNil))
  (sRet (dCall C 18 (aCons (dName 1) aNil)))))))) [.dat (.lst (ns.map .int)), .wref 0, .un, .un, .un] [tapeD ns 0 0 1 0]) := by
    have := hT ns []
    simp [runB, initE, toSl, b_law, this, -sSeq_ap, -tAnd_ap, -sIf_ap]
    rw [sSeq_ap]
    simp [this, -sSeq_ap, -tAnd_ap, -sIf_ap]
    rfl
  rw [ze]
  have z : (K : Int) ≤ 16777216 ∧ (K : Int) < 4611686018427387904 := by omega
  simp only [sSeq_ap, sIf_ap, e2, bind_ok, Bool.false_eq_true, if_false, sNil_ap, seqK_nx, sSet_ap, e4, setK_dat]
  simp only [gt_iff_lt] at hK1
  simp [e5, e6, hK1, z, e7, e8]
end K83
end Dl
namespace Dl
open PySem PySem.Spec PyProof.Rows L2 NdefX
namespace K83
def top (i : Nat) : Stmt := PySem.Challenge.pw_sealedplans_k83_whole_steps_done_by_own.main.body.getD i (.Pass ⟨0, 0, 0, 0⟩)
abbrev FnP (K : PySem.W.Frag) (x : Str) (st : Stmt) (f : Addr) (fd : FuncData) : Prop := FunD K x x (defArgs st) (defBody st) (defScope st) [] [] f fd
def rowsD : List (Nat × DefB) := [(1, ⟨1, 1, b_is_integer⟩), (2, ⟨3, 3, b_is_within⟩), (4, ⟨1, 1, b_is_pair⟩), (9, ⟨3, 3, b_check_count⟩), (3, ⟨2, 3, b_is_instruction⟩), (5, ⟨1, 2, b_is_machine⟩), (6, ⟨2, 3, b_is_standing⟩), (7, ⟨1, 1, b_check_machine⟩), (10, ⟨2, 2, b_check_both⟩), (8, ⟨2, 8, b_behind_step⟩), (14, ⟨3, 4, b_done⟩), (22, ⟨1, 1, b__law_tape⟩), (11, ⟨2, 5, b__law_pick⟩), (20, ⟨2, 7, b__law_machine⟩), (17, ⟨3, 4, b__law_standing⟩), (13, ⟨2, 6, b__law_next⟩), (12, ⟨2, 3, b__law_same⟩), (15, ⟨3, 5, b__law_behind⟩), (16, ⟨1, 3, b__law_great⟩), (19, ⟨2, 8, b__law_asked⟩), (18, ⟨1, 9, b__law_brought⟩), (21, ⟨1, 5, b__law_long⟩), (23, ⟨1, 5, b_law⟩)]
def tbl (i : Nat) : Option DefB := rowsD.lookup i
structure Facts (K : PySem.W.Frag) (w : PySem.World) (mg : Str → Option Value) : Prop where
  f_is_integer : ∃ a fd, mg "is_integer" = some (.ref a) ∧ FnP K "is_integer" (top 6) a fd
  f_is_within : ∃ a fd, mg "is_within" = some (.ref a) ∧ FnP K "is_within" (top 7) a fd
  f_is_pair : ∃ a fd, mg "is_pair" = some (.ref a) ∧ FnP K "is_pair" (top 8) a fd
  f_check_count : ∃ a fd, mg "check_count" = some (.ref a) ∧ FnP K "check_count" (top 9) a fd
  f_is_instruction : ∃ a fd, mg "is_instruction" = some (.ref a) ∧ FnP K "is_instruction" (top 15) a fd
  f_is_machine : ∃ a fd, mg "is_machine" = some (.ref a) ∧ FnP K "is_machine" (top 16) a fd
  f_is_standing : ∃ a fd, mg "is_standing" = some (.ref a) ∧ FnP K "is_standing" (top 17) a fd
  f_check_machine : ∃ a fd, mg "check_machine" = some (.ref a) ∧ FnP K "check_machine" (top 18) a fd
  f_check_both : ∃ a fd, mg "check_both" = some (.ref a) ∧ FnP K "check_both" (top 19) a fd
  f_behind_step : ∃ a fd, mg "behind_step" = some (.ref a) ∧ FnP K "behind_step" (top 20) a fd
  f_done : ∃ a fd, mg "done" = some (.ref a) ∧ FnP K "done" (top 21) a fd
  f__law_tape : ∃ a fd, mg "_law_tape" = some (.ref a) ∧ FnP K "_law_tape" (top 23) a fd
  f__law_pick : ∃ a fd, mg "_law_pick" = some (.ref a) ∧ FnP K "_law_pick" (top 24) a fd
  f__law_machine : ∃ a fd, mg "_law_machine" = some (.ref a) ∧ FnP K "_law_machine" (top 25) a fd
  f__law_standing : ∃ a fd, mg "_law_standing" = some (.ref a) ∧ FnP K "_law_standing" (top 26) a fd
  f__law_next : ∃ a fd, mg "_law_next" = some (.ref a) ∧ FnP K "_law_next" (top 27) a fd
  f__law_same : ∃ a fd, mg "_law_same" = some (.ref a) ∧ FnP K "_law_same" (top 28) a fd
  f__law_behind : ∃ a fd, mg "_law_behind" = some (.ref a) ∧ FnP K "_law_behind" (top 29) a fd
  f__law_great : ∃ a fd, mg "_law_great" = some (.ref a) ∧ FnP K "_law_great" (top 30) a fd
  f__law_asked : ∃ a fd, mg "_law_asked" = some (.ref a) ∧ FnP K "_law_asked" (top 31) a fd
  f__law_brought : ∃ a fd, mg "_law_brought" = some (.ref a) ∧ FnP K "_law_brought" (top 32) a fd
  f__law_long : ∃ a fd, mg "_law_long" = some (.ref a) ∧ FnP K "_law_long" (top 33) a fd
  f_law : ∃ a fd, mg "law" = some (.ref a) ∧ FnP K "law" (top 34) a fd
  h_all : mg "all" = none
  h_bool : mg "bool" = none
  h_int : mg "int" = none
  h_isinstance : mg "isinstance" = none
  h_len : mg "len" = none
  h_list : mg "list" = none
  h_max : mg "max" = none
  h_min : mg "min" = none
  h_range : mg "range" = none
  h_str : mg "str" = none
  h_tuple : mg "tuple" = none
  k_REGISTERS : ∃ t, mg "REGISTERS" = some (.str "mnop" t)
  k_MOST_INSTRUCTIONS : ∃ t, mg "MOST_INSTRUCTIONS" = some (.int 12 t)
  k_MOST_STEPS : ∃ t, mg "MOST_STEPS" = some (.int 100000 t)
  d_LENGTHS : TabAt K w mg "LENGTHS" t_LENGTHS
structure Defs (P : Program) (w : PySem.World) (K : PySem.W.Frag) (mg : Str → Option Value) (base : Heap) (n : Nat) : Prop where
  c_is_integer : Dfn P w K mg base [] (Den tbl n) n "is_integer" 1
  c_is_within : Dfn P w K mg base [] (Den tbl n) n "is_within" 2
  c_is_pair : Dfn P w K mg base [] (Den tbl n) n "is_pair" 4
  c_check_count : Dfn P w K mg base [] (Den tbl n) n "check_count" 9
  c_is_instruction : Dfn P w K mg base [] (Den tbl n) n "is_instruction" 3
  c_is_machine : Dfn P w K mg base [] (Den tbl n) n "is_machine" 5
  c_is_standing : Dfn P w K mg base [] (Den tbl n) n "is_standing" 6
  c_check_machine : Dfn P w K mg base [] (Den tbl n) n "check_machine" 7
  c_check_both : Dfn P w K mg base [] (Den tbl n) n "check_both" 10
  c_behind_step : Dfn P w K mg base [] (Den tbl n) n "behind_step" 8
  c_done : Dfn P w K mg base [] (Den tbl n) n "done" 14
  c__law_tape : Dfn P w K mg base [] (Den tbl n) n "_law_tape" 22
  c__law_pick : Dfn P w K mg base [] (Den tbl n) n "_law_pick" 11
  c__law_machine : Dfn P w K mg base [] (Den tbl n) n "_law_machine" 20
  c__law_standing : Dfn P w K mg base [] (Den tbl n) n "_law_standing" 17
  c__law_next : Dfn P w K mg base [] (Den tbl n) n "_law_next" 13
  c__law_same : Dfn P w K mg base [] (Den tbl n) n "_law_same" 12
  c__law_behind : Dfn P w K mg base [] (Den tbl n) n "_law_behind" 15
  c__law_great : Dfn P w K mg base [] (Den tbl n) n "_law_great" 16
  c__law_asked : Dfn P w K mg base [] (Den tbl n) n "_law_asked" 19
  c__law_brought : Dfn P w K mg base [] (Den tbl n) n "_law_brought" 18
  c__law_long : Dfn P w K mg base [] (Den tbl n) n "_law_long" 21
  c_law : Dfn P w K mg base [] (Den tbl n) n "law" 23
section
variable {P : Program} {w : PySem.World} {K : PySem.W.Frag} {mg : Str → Option Value} {base : Heap} {n : Nat}
theorem sc_is_integer : FnScope ["thing"] ["thing"] (defScope (top 6)) := ⟨rfl, rfl, rfl, by decide +kernel, rfl, by decide +kernel, by decide +kernel⟩
theorem fo_is_integer (E : Facts K w mg) (D : Defs P w K mg base n) {f : Addr} {fd : FuncData} (F : FnP K "is_integer" (top 6) f fd) : FnOk P w K mg base (L2.CX P w) (n + 1) f fd ["thing"] (spD ⟨K, mg, []⟩ ((Den tbl (n + 1)).call 1)) := by
  refine def_ok F sc_is_integer (bd := b_is_integer) rfl fun cdv A outer s H E0 hr => ?_
  have nd := (sc_is_integer).nd
  have hu : (A.deeper (envOfC "is_integer" (defScope (top 6)) s.heap.objs.size f cdv)).units + (Den tbl n).room < cLine := by rw [den_room]; have := hr.un; omega
  have tk : Takes (cxOf (L2.CX P w) P w K mg base ["thing"] "is_integer" (defScope (top 6)) f cdv A outer s H E0) (fun cls d _ H => E0 cls d H) := takes_of rfl rfl rfl rfl
  unfold b_is_integer
  refine jss_one ?_
  exact (js_ret (je_and (je_isi rfl E.h_isinstance rfl E.h_int (by decide +kernel) (je_name (pv 0))) (je_one (je_not (je_isi rfl E.h_isinstance rfl E.h_bool (by decide +kernel) (je_name (pv 0)))))))
theorem ok_is_integer (E : Facts K w mg) (D : Defs P w K mg base n) : Dfn P w K mg base [] (Den tbl (n + 1)) (n + 1) "is_integer" 1 := by
  obtain ⟨f, fd, hf, F⟩ := E.f_is_integer
  exact ⟨f, fd, ["thing"], hf, F.kp, F.bindsN fun _ _ _ _ _ _ us hl => (match us, hl with | [_], _ => rfl), fo_is_integer E D F⟩
theorem sc_is_within : FnScope ["thing", "least", "most"] ["thing", "least", "most"] (defScope (top 7)) := ⟨rfl, rfl, rfl, by decide +kernel, rfl, by decide +kernel, by decide +kernel⟩
theorem fo_is_within (E : Facts K w mg) (D : Defs P w K mg base n) {f : Addr} {fd : FuncData} (F : FnP K "is_within" (top 7) f fd) : FnOk P w K mg base (L2.CX P w) (n + 1) f fd ["thing", "least", "most"] (spD ⟨K, mg, []⟩ ((Den tbl (n + 1)).call 2)) := by
  refine def_ok F sc_is_within (bd := b_is_within) rfl fun cdv A outer s H E0 hr => ?_
  have nd := (sc_is_within).nd
  have hu : (A.deeper (envOfC "is_within" (defScope (top 7)) s.heap.objs.size f cdv)).units + (Den tbl n).room < cLine := by rw [den_room]; have := hr.un; omega
  have tk : Takes (cxOf (L2.CX P w) P w K mg base ["thing", "least", "most"] "is_within" (defScope (top 7)) f cdv A outer s H E0) (fun cls d _ H => E0 cls d H) := takes_of rfl rfl rfl rfl
  unfold b_is_within
  refine jss_one ?_
  exact (js_ret (je_and (je_call D.c_is_integer.cal hr tk rfl (ja_cons (je_name (pv 0)) ja_nil)) (je_one (je_chain (os_le hu) (os_le hu) (je_name (pv 1)) (je_name (pv 0)) (je_name (pv 2))))))
theorem ok_is_within (E : Facts K w mg) (D : Defs P w K mg base n) : Dfn P w K mg base [] (Den tbl (n + 1)) (n + 1) "is_within" 2 := by
  obtain ⟨f, fd, hf, F⟩ := E.f_is_within
  exact ⟨f, fd, ["thing", "least", "most"], hf, F.kp, F.bindsN fun _ _ _ _ _ _ us hl => (match us, hl with | [_, _, _], _ => rfl), fo_is_within E D F⟩
theorem sc_is_pair : FnScope ["thing"] ["thing"] (defScope (top 8)) := ⟨rfl, rfl, rfl, by decide +kernel, rfl, by decide +kernel, by decide +kernel⟩
theorem fo_is_pair (E : Facts K w mg) (D : Defs P w K mg base n) {f : Addr} {fd : FuncData} (F : FnP K "is_pair" (top 8) f fd) : FnOk P w K mg base (L2.CX P w) (n + 1) f fd ["thing"] (spD ⟨K, mg, []⟩ ((Den tbl (n + 1)).call 4)) := by
  refine def_ok F sc_is_pair (bd := b_is_pair) rfl fun cdv A outer s H E0 hr => ?_
  have nd := (sc_is_pair).nd
  have hu : (A.deeper (envOfC "is_pair" (defScope (top 8)) s.heap.objs.size f cdv)).units + (Den tbl n).room < cLine := by rw [den_room]; have := hr.un; omega
  have tk : Takes (cxOf (L2.CX P w) P w K mg base ["thing"] "is_pair" (defScope (top 8)) f cdv A outer s H E0) (fun cls d _ H => E0 cls d H) := takes_of rfl rfl rfl rfl
  unfold b_is_pair
  refine jss_one ?_
  exact (js_ret (je_and (je_isi rfl E.h_isinstance rfl E.h_tuple (by decide +kernel) (je_name (pv 0))) (je_one (je_cmp (os_eq hu) (je_blt cs_len rfl E.h_len boot_len (jr_cons (je_name (pv 0)) jr_nil)) je_int))))
theorem ok_is_pair (E : Facts K w mg) (D : Defs P w K mg base n) : Dfn P w K mg base [] (Den tbl (n + 1)) (n + 1) "is_pair" 4 := by
  obtain ⟨f, fd, hf, F⟩ := E.f_is_pair
  exact ⟨f, fd, ["thing"], hf, F.kp, F.bindsN fun _ _ _ _ _ _ us hl => (match us, hl with | [_], _ => rfl), fo_is_pair E D F⟩
theorem sc_check_count : FnScope ["thing", "least", "most"] ["thing", "least", "most"] (defScope (top 9)) := ⟨rfl, rfl, rfl, by decide +kernel, rfl, by decide +kernel, by decide +kernel⟩
theorem fo_check_count (E : Facts K w mg) (D : Defs P w K mg base n) {f : Addr} {fd : FuncData} (F : FnP K "check_count" (top 9) f fd) : FnOk P w K mg base (L2.CX P w) (n + 1) f fd ["thing", "least", "most"] (spD ⟨K, mg, []⟩ ((Den tbl (n + 1)).call 9)) := by
  refine def_ok F sc_check_count (bd := b_check_count) rfl fun cdv A outer s H E0 hr => ?_
  have nd := (sc_check_count).nd
  have hu : (A.deeper (envOfC "check_count" (defScope (top 9)) s.heap.objs.size f cdv)).units + (Den tbl n).room < cLine := by rw [den_room]; have := hr.un; omega
  have tk : Takes (cxOf (L2.CX P w) P w K mg base ["thing", "least", "most"] "check_count" (defScope (top 9)) f cdv A outer s H E0) (fun cls d _ H => E0 cls d H) := takes_of rfl rfl rfl rfl
  unfold b_check_count
  refine jss_one ?_
  refine js_if (jt_not (jt_truth (je_call D.c_is_within.cal hr tk rfl (ja_cons (je_name (pv 0)) (ja_cons (je_name (pv 1)) (ja_cons (je_name (pv 2)) ja_nil)))))) ?_ ?_
  · refine jss_one ?_
    exact js_never
  exact jss_nil
theorem ok_check_count (E : Facts K w mg) (D : Defs P w K mg base n) : Dfn P w K mg base [] (Den tbl (n + 1)) (n + 1) "check_count" 9 := by
  obtain ⟨f, fd, hf, F⟩ := E.f_check_count
  exact ⟨f, fd, ["thing", "least", "most"], hf, F.kp, F.bindsN fun _ _ _ _ _ _ us hl => (match us, hl with | [_, _, _], _ => rfl), fo_check_count E D F⟩
theorem sc_is_instruction : FnScope ["thing", "many", "number"] ["thing", "many"] (defScope (top 15)) := ⟨rfl, rfl, rfl, by decide +kernel, rfl, by decide +kernel, by decide +kernel⟩
theorem fo_is_instruction (E : Facts K w mg) (D : Defs P w K mg base n) {f : Addr} {fd : FuncData} (F : FnP K "is_instruction" (top 15) f fd) : FnOk P w K mg base (L2.CX P w) (n + 1) f fd ["thing", "many"] (spD ⟨K, mg, []⟩ ((Den tbl (n + 1)).call 3)) := by
  refine def_ok F sc_is_instruction (bd := b_is_instruction) rfl fun cdv A outer s H E0 hr => ?_
  have nd := (sc_is_instruction).nd
  have hu : (A.deeper (envOfC "is_instruction" (defScope (top 15)) s.heap.objs.size f cdv)).units + (Den tbl n).room < cLine := by rw [den_room]; have := hr.un; omega
  have tk : Takes (cxOf (L2.CX P w) P w K mg base ["thing", "many", "number"] "is_instruction" (defScope (top 15)) f cdv A outer s H E0) (fun cls d _ H => E0 cls d H) := takes_of rfl rfl rfl rfl
  unfold b_is_instruction
  refine jss_cons ?_ ?_
  · refine js_if (jt_bool (jw_or (jt_not (jt_truth (je_isi rfl E.h_isinstance rfl E.h_tuple (by decide +kernel) (je_name (pv 0))))) (jw_or (jt_cmp (os_eq hu) (je_blt cs_len rfl E.h_len boot_len (jr_cons (je_name (pv 0)) jr_nil)) je_int) (jw_or1 (jt_not (jt_truth (je_isi rfl E.h_isinstance rfl E.h_str (by decide +kernel) (je_ix (je_name (pv 0)) je_int)))))))) ?_ ?_
    · refine jss_one ?_
      exact (js_ret je_bl)
    exact jss_nil
  refine jss_cons ?_ ?_
  · refine js_if (jt_cmp (os_ne hu) (je_getK E.d_LENGTHS rfl (je_ix (je_name (pv 0)) je_int)) (je_blt cs_len rfl E.h_len boot_len (jr_cons (je_name (pv 0)) jr_nil))) ?_ ?_
    · refine jss_one ?_
      exact (js_ret je_bl)
    exact jss_nil
  refine jss_cons ?_ ?_
  · refine js_if (jt_bool (jw_and (jt_cmp (os_gt hu) (je_blt cs_len rfl E.h_len boot_len (jr_cons (je_name (pv 0)) jr_nil)) je_int) (jw_and1 (jt_not (jt_truth (je_call D.c_is_within.cal hr tk rfl (ja_cons (je_ix (je_name (pv 0)) je_int) (ja_cons je_int (ja_cons (je_bin os_sub (je_blt cs_len rfl E.h_len boot_len (jr_cons (je_const (pe_globS rfl E.k_REGISTERS) (fun _ => .str _ ⟨by decide +kernel, by decide +kernel⟩)) jr_nil)) je_int) ja_nil))))))))) ?_ ?_
    · refine jss_one ?_
      exact (js_ret je_bl)
    exact jss_nil
  refine jss_one ?_
  exact (js_ret (je_blt (cs_all rfl) rfl E.h_all (by decide +kernel) (jr_cons (je_comp rfl nd (ji_seq (je_slice (je_name (pv 0)) (jo_some je_int) jo_none)) (blkOk_by (N := ["thing", "many", "number"]) (sc := defScope (top 15)) (own := [("number", 2)]) (by decide +kernel)) (us := [2]) rfl (by decide) (fun _ _ _ _ _ => (jg_name (pg_name (i := 2) nd rfl (by first | exact .inl rfl | exact .inr rfl)))) (fun _ _ _ _ _ => jts_nil) (fun _ _ _ _ _ => (je_call D.c_is_within.cal hr takes0 rfl (ja_cons (je_name (pv 2)) (ja_cons je_int (ja_cons (je_bin os_sub (je_name (pv 1)) je_int) ja_nil)))))) jr_nil)))
theorem ok_is_instruction (E : Facts K w mg) (D : Defs P w K mg base n) : Dfn P w K mg base [] (Den tbl (n + 1)) (n + 1) "is_instruction" 3 := by
  obtain ⟨f, fd, hf, F⟩ := E.f_is_instruction
  exact ⟨f, fd, ["thing", "many"], hf, F.kp, F.bindsN fun _ _ _ _ _ _ us hl => (match us, hl with | [_, _], _ => rfl), fo_is_instruction E D F⟩
theorem sc_is_machine : FnScope ["thing", "instruction"] ["thing"] (defScope (top 16)) := ⟨rfl, rfl, rfl, by decide +kernel, rfl, by decide +kernel, by decide +kernel⟩
theorem fo_is_machine (E : Facts K w mg) (D : Defs P w K mg base n) {f : Addr} {fd : FuncData} (F : FnP K "is_machine" (top 16) f fd) : FnOk P w K mg base (L2.CX P w) (n + 1) f fd ["thing"] (spD ⟨K, mg, []⟩ ((Den tbl (n + 1)).call 5)) := by
  refine def_ok F sc_is_machine (bd := b_is_machine) rfl fun cdv A outer s H E0 hr => ?_
  have nd := (sc_is_machine).nd
  have hu : (A.deeper (envOfC "is_machine" (defScope (top 16)) s.heap.objs.size f cdv)).units + (Den tbl n).room < cLine := by rw [den_room]; have := hr.un; omega
  have tk : Takes (cxOf (L2.CX P w) P w K mg base ["thing", "instruction"] "is_machine" (defScope (top 16)) f cdv A outer s H E0) (fun cls d _ H => E0 cls d H) := takes_of rfl rfl rfl rfl
  unfold b_is_machine
  refine jss_cons ?_ ?_
  · refine js_if (jt_bool (jw_or (jt_not (jt_truth (je_isi rfl E.h_isinstance rfl E.h_tuple (by decide +kernel) (je_name (pv 0))))) (jw_or1 (jt_not (jt_chain (os_le hu) (os_le hu) je_int (je_blt cs_len rfl E.h_len boot_len (jr_cons (je_name (pv 0)) jr_nil)) (je_const (pe_globI rfl E.k_MOST_INSTRUCTIONS) (fun _ => .int _))))))) ?_ ?_
    · refine jss_one ?_
      exact (js_ret je_bl)
    exact jss_nil
  refine jss_one ?_
  exact (js_ret (je_blt (cs_all rfl) rfl E.h_all (by decide +kernel) (jr_cons (je_comp rfl nd (ji_seq (je_name (pv 0))) (blkOk_by (N := ["thing", "instruction"]) (sc := defScope (top 16)) (own := [("instruction", 1)]) (by decide +kernel)) (us := [1]) rfl (by decide) (fun _ _ _ _ _ => (jg_name (pg_name (i := 1) nd rfl (by first | exact .inl rfl | exact .inr rfl)))) (fun _ _ _ _ _ => jts_nil) (fun _ _ _ _ _ => (je_call D.c_is_instruction.cal hr takes0 rfl (ja_cons (je_name (pv 1)) (ja_cons (je_blt cs_len rfl E.h_len boot_len (jr_cons (je_name (pv 0)) jr_nil)) ja_nil))))) jr_nil)))
theorem ok_is_machine (E : Facts K w mg) (D : Defs P w K mg base n) : Dfn P w K mg base [] (Den tbl (n + 1)) (n + 1) "is_machine" 5 := by
  obtain ⟨f, fd, hf, F⟩ := E.f_is_machine
  exact ⟨f, fd, ["thing"], hf, F.kp, F.bindsN fun _ _ _ _ _ _ us hl => (match us, hl with | [_], _ => rfl), fo_is_machine E D F⟩
theorem sc_is_standing : FnScope ["machine", "thing", "number"] ["machine", "thing"] (defScope (top 17)) := ⟨rfl, rfl, rfl, by decide +kernel, rfl, by decide +kernel, by decide +kernel⟩
theorem fo_is_standing (E : Facts K w mg) (D : Defs P w K mg base n) {f : Addr} {fd : FuncData} (F : FnP K "is_standing" (top 17) f fd) : FnOk P w K mg base (L2.CX P w) (n + 1) f fd ["machine", "thing"] (spD ⟨K, mg, []⟩ ((Den tbl (n + 1)).call 6)) := by
  refine def_ok F sc_is_standing (bd := b_is_standing) rfl fun cdv A outer s H E0 hr => ?_
  have nd := (sc_is_standing).nd
  have hu : (A.deeper (envOfC "is_standing" (defScope (top 17)) s.heap.objs.size f cdv)).units + (Den tbl n).room < cLine := by rw [den_room]; have := hr.un; omega
  have tk : Takes (cxOf (L2.CX P w) P w K mg base ["machine", "thing", "number"] "is_standing" (defScope (top 17)) f cdv A outer s H E0) (fun cls d _ H => E0 cls d H) := takes_of rfl rfl rfl rfl
  unfold b_is_standing
  refine jss_cons ?_ ?_
  · refine js_if (jt_bool (jw_or (jt_not (jt_truth (je_call D.c_is_pair.cal hr tk rfl (ja_cons (je_name (pv 1)) ja_nil)))) (jw_or1 (jt_not (jt_truth (je_call D.c_is_within.cal hr tk rfl (ja_cons (je_ix (je_name (pv 1)) je_int) (ja_cons je_int (ja_cons (je_bin os_sub (je_blt cs_len rfl E.h_len boot_len (jr_cons (je_name (pv 0)) jr_nil)) je_int) ja_nil))))))))) ?_ ?_
    · refine jss_one ?_
      exact (js_ret je_bl)
    exact jss_nil
  refine jss_cons ?_ ?_
  · refine js_if (jt_bool (jw_or (jt_not (jt_truth (je_isi rfl E.h_isinstance rfl E.h_tuple (by decide +kernel) (je_ix (je_name (pv 1)) je_int)))) (jw_or1 (jt_cmp (os_ne hu) (je_blt cs_len rfl E.h_len boot_len (jr_cons (je_ix (je_name (pv 1)) je_int) jr_nil)) (je_blt cs_len rfl E.h_len boot_len (jr_cons (je_const (pe_globS rfl E.k_REGISTERS) (fun _ => .str _ ⟨by decide +kernel, by decide +kernel⟩)) jr_nil)))))) ?_ ?_
    · refine jss_one ?_
      exact (js_ret je_bl)
    exact jss_nil
  refine jss_one ?_
  exact (js_ret (je_blt (cs_all rfl) rfl E.h_all (by decide +kernel) (jr_cons (je_comp rfl nd (ji_seq (je_ix (je_name (pv 1)) je_int)) (blkOk_by (N := ["machine", "thing", "number"]) (sc := defScope (top 17)) (own := [("number", 2)]) (by decide +kernel)) (us := [2]) rfl (by decide) (fun _ _ _ _ _ => (jg_name (pg_name (i := 2) nd rfl (by first | exact .inl rfl | exact .inr rfl)))) (fun _ _ _ _ _ => jts_nil) (fun _ _ _ _ _ => (je_and (je_call D.c_is_integer.cal hr takes0 rfl (ja_cons (je_name (pv 2)) ja_nil)) (je_one (je_cmp (os_ge hu) (je_name (pv 2)) je_int))))) jr_nil)))
theorem ok_is_standing (E : Facts K w mg) (D : Defs P w K mg base n) : Dfn P w K mg base [] (Den tbl (n + 1)) (n + 1) "is_standing" 6 := by
  obtain ⟨f, fd, hf, F⟩ := E.f_is_standing
  exact ⟨f, fd, ["machine", "thing"], hf, F.kp, F.bindsN fun _ _ _ _ _ _ us hl => (match us, hl with | [_, _], _ => rfl), fo_is_standing E D F⟩
theorem sc_check_machine : FnScope ["thing"] ["thing"] (defScope (top 18)) := ⟨rfl, rfl, rfl, by decide +kernel, rfl, by decide +kernel, by decide +kernel⟩
theorem fo_check_machine (E : Facts K w mg) (D : Defs P w K mg base n) {f : Addr} {fd : FuncData} (F : FnP K "check_machine" (top 18) f fd) : FnOk P w K mg base (L2.CX P w) (n + 1) f fd ["thing"] (spD ⟨K, mg, []⟩ ((Den tbl (n + 1)).call 7)) := by
  refine def_ok F sc_check_machine (bd := b_check_machine) rfl fun cdv A outer s H E0 hr => ?_
  have nd := (sc_check_machine).nd
  have hu : (A.deeper (envOfC "check_machine" (defScope (top 18)) s.heap.objs.size f cdv)).units + (Den tbl n).room < cLine := by rw [den_room]; have := hr.un; omega
  have tk : Takes (cxOf (L2.CX P w) P w K mg base ["thing"] "check_machine" (defScope (top 18)) f cdv A outer s H E0) (fun cls d _ H => E0 cls d H) := takes_of rfl rfl rfl rfl
  unfold b_check_machine
  refine jss_one ?_
  refine js_if (jt_not (jt_truth (je_call D.c_is_machine.cal hr tk rfl (ja_cons (je_name (pv 0)) ja_nil)))) ?_ ?_
  · refine jss_one ?_
    exact js_never
  exact jss_nil
theorem ok_check_machine (E : Facts K w mg) (D : Defs P w K mg base n) : Dfn P w K mg base [] (Den tbl (n + 1)) (n + 1) "check_machine" 7 := by
  obtain ⟨f, fd, hf, F⟩ := E.f_check_machine
  exact ⟨f, fd, ["thing"], hf, F.kp, F.bindsN fun _ _ _ _ _ _ us hl => (match us, hl with | [_], _ => rfl), fo_check_machine E D F⟩
theorem sc_check_both : FnScope ["machine", "standing"] ["machine", "standing"] (defScope (top 19)) := ⟨rfl, rfl, rfl, by decide +kernel, rfl, by decide +kernel, by decide +kernel⟩
theorem fo_check_both (E : Facts K w mg) (D : Defs P w K mg base n) {f : Addr} {fd : FuncData} (F : FnP K "check_both" (top 19) f fd) : FnOk P w K mg base (L2.CX P w) (n + 1) f fd ["machine", "standing"] (spD ⟨K, mg, []⟩ ((Den tbl (n + 1)).call 10)) := by
  refine def_ok F sc_check_both (bd := b_check_both) rfl fun cdv A outer s H E0 hr => ?_
  have nd := (sc_check_both).nd
  have hu : (A.deeper (envOfC "check_both" (defScope (top 19)) s.heap.objs.size f cdv)).units + (Den tbl n).room < cLine := by rw [den_room]; have := hr.un; omega
  have tk : Takes (cxOf (L2.CX P w) P w K mg base ["machine", "standing"] "check_both" (defScope (top 19)) f cdv A outer s H E0) (fun cls d _ H => E0 cls d H) := takes_of rfl rfl rfl rfl
  unfold b_check_both
  refine jss_cons ?_ ?_
  · exact (js_expr (je_call D.c_check_machine.cal hr tk rfl (ja_cons (je_name (pv 0)) ja_nil)))
  refine jss_one ?_
  refine js_if (jt_not (jt_truth (je_call D.c_is_standing.cal hr tk rfl (ja_cons (je_name (pv 0)) (ja_cons (je_name (pv 1)) ja_nil))))) ?_ ?_
  · refine jss_one ?_
    exact js_never
  exact jss_nil
theorem ok_check_both (E : Facts K w mg) (D : Defs P w K mg base n) : Dfn P w K mg base [] (Den tbl (n + 1)) (n + 1) "check_both" 10 := by
  obtain ⟨f, fd, hf, F⟩ := E.f_check_both
  exact ⟨f, fd, ["machine", "standing"], hf, F.kp, F.bindsN fun _ _ _ _ _ _ us hl => (match us, hl with | [_, _], _ => rfl), fo_check_both E D F⟩
theorem sc_behind_step : FnScope ["machine", "standing", "at", "numbers", "instruction", "cell", "change", "changed"] ["machine", "standing"] (defScope (top 20)) := ⟨rfl, rfl, rfl, by decide +kernel, rfl, by decide +kernel, by decide +kernel⟩
theorem fo_behind_step (E : Facts K w mg) (D : Defs P w K mg base n) {f : Addr} {fd : FuncData} (F : FnP K "behind_step" (top 20) f fd) : FnOk P w K mg base (L2.CX P w) (n + 1) f fd ["machine", "standing"] (spD ⟨K, mg, []⟩ ((Den tbl (n + 1)).call 8)) := by
  refine def_ok F sc_behind_step (bd := b_behind_step) rfl fun cdv A outer s H E0 hr => ?_
  have nd := (sc_behind_step).nd
  have hu : (A.deeper (envOfC "behind_step" (defScope (top 20)) s.heap.objs.size f cdv)).units + (Den tbl n).room < cLine := by rw [den_room]; have := hr.un; omega
  have tk : Takes (cxOf (L2.CX P w) P w K mg base ["machine", "standing", "at", "numbers", "instruction", "cell", "change", "changed"] "behind_step" (defScope (top 20)) f cdv A outer s H E0) (fun cls d _ H => E0 cls d H) := takes_of rfl rfl rfl rfl
  unfold b_behind_step
  refine jss_cons ?_ ?_
  · exact (js_asg (jg_tup rfl (jgs_cons (jg_name (pg_name (i := 2) nd rfl (by first | exact .inl rfl | exact .inr rfl))) (jgs_cons (jg_name (pg_name (i := 3) nd rfl (by first | exact .inl rfl | exact .inr rfl))) jgs_nil))) (je_name (pv 1)))
  refine jss_cons ?_ ?_
  · exact (js_set (i := 4) nd rfl (by first | exact .inl rfl | exact .inr rfl) (je_ix (je_name (pv 0)) (je_name (pv 2))))
  refine jss_cons ?_ ?_
  · exact (js_set (i := 5) nd rfl (by first | exact .inl rfl | exact .inr rfl) (je_ix (je_name (pv 4)) je_int))
  refine jss_cons ?_ ?_
  · refine js_if (jt_cmp (os_eq hu) (je_ix (je_name (pv 4)) je_int) je_str) ?_ ?_
    · refine jss_one ?_
      exact (js_set (i := 6) nd rfl (by first | exact .inl rfl | exact .inr rfl) je_int)
    refine jss_one ?_
    refine js_if (jt_cmp (os_eq hu) (je_ix (je_name (pv 3)) (je_name (pv 5))) je_int) ?_ ?_
    · refine jss_one ?_
      exact (js_ret (je_tup (ja_cons (je_ix (je_name (pv 4)) je_int) (ja_cons (je_name (pv 3)) ja_nil))))
    refine jss_one ?_
    exact (js_set (i := 6) nd rfl (by first | exact .inl rfl | exact .inr rfl) (je_neg je_int))
  refine jss_cons ?_ ?_
  · exact (js_set (i := 7) nd rfl (by first | exact .inl rfl | exact .inr rfl) (je_bin os_add (je_bin os_add (je_slice (je_name (pv 3)) jo_none (jo_some (je_name (pv 5)))) (je_tup (ja_cons (je_bin os_add (je_ix (je_name (pv 3)) (je_name (pv 5))) (je_name (pv 6))) ja_nil))) (je_slice (je_name (pv 3)) (jo_some (je_bin os_add (je_name (pv 5)) je_int)) jo_none)))
  refine jss_one ?_
  exact (js_ret (je_tup (ja_cons (je_ix (je_name (pv 4)) je_int) (ja_cons (je_name (pv 7)) ja_nil))))
theorem ok_behind_step (E : Facts K w mg) (D : Defs P w K mg base n) : Dfn P w K mg base [] (Den tbl (n + 1)) (n + 1) "behind_step" 8 := by
  obtain ⟨f, fd, hf, F⟩ := E.f_behind_step
  exact ⟨f, fd, ["machine", "standing"], hf, F.kp, F.bindsN fun _ _ _ _ _ _ us hl => (match us, hl with | [_, _], _ => rfl), fo_behind_step E D F⟩
theorem sc_done : FnScope ["machine", "standing", "steps", "turn"] ["machine", "standing", "steps"] (defScope (top 21)) := ⟨rfl, rfl, rfl, by decide +kernel, rfl, by decide +kernel, by decide +kernel⟩
theorem fo_done (E : Facts K w mg) (D : Defs P w K mg base n) {f : Addr} {fd : FuncData} (F : FnP K "done" (top 21) f fd) : FnOk P w K mg base (L2.CX P w) (n + 1) f fd ["machine", "standing", "steps"] (spD ⟨K, mg, []⟩ ((Den tbl (n + 1)).call 14)) := by
  refine def_ok F sc_done (bd := b_done) rfl fun cdv A outer s H E0 hr => ?_
  have nd := (sc_done).nd
  have hu : (A.deeper (envOfC "done" (defScope (top 21)) s.heap.objs.size f cdv)).units + (Den tbl n).room < cLine := by rw [den_room]; have := hr.un; omega
  have tk : Takes (cxOf (L2.CX P w) P w K mg base ["machine", "standing", "steps", "turn"] "done" (defScope (top 21)) f cdv A outer s H E0) (fun cls d _ H => E0 cls d H) := takes_of rfl rfl rfl rfl
  unfold b_done
  refine jss_cons ?_ ?_
  · exact (js_expr (je_call D.c_check_both.cal hr tk rfl (ja_cons (je_name (pv 0)) (ja_cons (je_name (pv 1)) ja_nil))))
  refine jss_cons ?_ ?_
  · exact (js_expr (je_call D.c_check_count.cal hr tk rfl (ja_cons (je_name (pv 2)) (ja_cons je_int (ja_cons (je_const (pe_globI rfl E.k_MOST_STEPS) (fun _ => .int _)) ja_nil)))))
  refine jss_cons ?_ ?_
  · refine js_for (passes_of rfl) rfl (ji_range1 rfl E.h_range (jr_cons (je_name (pv 2)) jr_nil)) (jg_name (pg_name (i := 3) nd rfl (by first | exact .inl rfl | exact .inr rfl))) ?_
    refine jss_cons ?_ ?_
    · refine js_if (jt_cmp (os_eq hu) (je_ix (je_ix (je_name (pv 0)) (je_ix (je_name (pv 1)) je_int)) je_int) je_str) ?_ ?_
      · refine jss_one ?_
        exact js_break
      exact jss_nil
    refine jss_one ?_
    exact (js_set (i := 1) nd rfl (by first | exact .inl rfl | exact .inr rfl) (je_call D.c_behind_step.cal hr tk rfl (ja_cons (je_name (pv 0)) (ja_cons (je_name (pv 1)) ja_nil))))
  refine jss_one ?_
  exact (js_ret (je_name (pv 1)))
theorem ok_done (E : Facts K w mg) (D : Defs P w K mg base n) : Dfn P w K mg base [] (Den tbl (n + 1)) (n + 1) "done" 14 := by
  obtain ⟨f, fd, hf, F⟩ := E.f_done
  exact ⟨f, fd, ["machine", "standing", "steps"], hf, F.kp, F.bindsN fun _ _ _ _ _ _ us hl => (match us, hl with | [_, _, _], _ => rfl), fo_done E D F⟩
theorem sc__law_tape : FnScope ["_law_script"] ["_law_script"] (defScope (top 23)) := ⟨rfl, rfl, rfl, by decide +kernel, rfl, by decide +kernel, by decide +kernel⟩
theorem fo__law_tape (E : Facts K w mg) (D : Defs P w K mg base n) {f : Addr} {fd : FuncData} (F : FnP K "_law_tape" (top 23) f fd) : FnOk P w K mg base (L2.CX P w) (n + 1) f fd ["_law_script"] (spD ⟨K, mg, []⟩ ((Den tbl (n + 1)).call 22)) := by
  refine def_ok F sc__law_tape (bd := b__law_tape) rfl fun cdv A outer s H E0 hr => ?_
  have nd := (sc__law_tape).nd
  have hu : (A.deeper (envOfC "_law_tape" (defScope (top 23)) s.heap.objs.size f cdv)).units + (Den tbl n).room < cLine := by rw [den_room]; have := hr.un; omega
  have tk : Takes (cxOf (L2.CX P w) P w K mg base ["_law_script"] "_law_tape" (defScope (top 23)) f cdv A outer s H E0) (fun cls d _ H => E0 cls d H) := takes_of rfl rfl rfl rfl
  unfold b__law_tape
  refine jss_one ?_
  exact (js_ret (je_lst (ja_cons (je_bty cs_list rfl E.h_list (by decide +kernel) (jr_cons (je_name (pv 0)) jr_nil)) (ja_cons je_int (ja_cons je_int (ja_cons je_int (ja_cons je_int ja_nil)))))))
theorem ok__law_tape (E : Facts K w mg) (D : Defs P w K mg base n) : Dfn P w K mg base [] (Den tbl (n + 1)) (n + 1) "_law_tape" 22 := by
  obtain ⟨f, fd, hf, F⟩ := E.f__law_tape
  exact ⟨f, fd, ["_law_script"], hf, F.kp, F.bindsN fun _ _ _ _ _ _ us hl => (match us, hl with | [_], _ => rfl), fo__law_tape E D F⟩
theorem sc__law_pick : FnScope ["_law_tape_here", "_law_many", "_law_digit", "_law_cell", "_law_mixed"] ["_law_tape_here", "_law_many"] (defScope (top 24)) := ⟨rfl, rfl, rfl, by decide +kernel, rfl, by decide +kernel, by decide +kernel⟩
theorem fo__law_pick (E : Facts K w mg) (D : Defs P w K mg base n) {f : Addr} {fd : FuncData} (F : FnP K "_law_pick" (top 24) f fd) : FnOk P w K mg base (L2.CX P w) (n + 1) f fd ["_law_tape_here", "_law_many"] (spD ⟨K, mg, []⟩ ((Den tbl (n + 1)).call 11)) := by
  refine def_ok F sc__law_pick (bd := b__law_pick) rfl fun cdv A outer s H E0 hr => ?_
  have nd := (sc__law_pick).nd
  have hu : (A.deeper (envOfC "_law_pick" (defScope (top 24)) s.heap.objs.size f cdv)).units + (Den tbl n).room < cLine := by rw [den_room]; have := hr.un; omega
  have tk : Takes (cxOf (L2.CX P w) P w K mg base ["_law_tape_here", "_law_many", "_law_digit", "_law_cell", "_law_mixed"] "_law_pick" (defScope (top 24)) f cdv A outer s H E0) (fun cls d _ H => E0 cls d H) := takes_of rfl rfl rfl rfl
  unfold b__law_pick
  refine jss_cons ?_ ?_
  · refine js_if (jt_cmp (os_gt hu) (je_ixW (pv 0) je_int) je_int) ?_ ?_
    · refine jss_cons ?_ ?_
      · exact (js_set (i := 2) nd rfl (by first | exact .inl rfl | exact .inr rfl) (je_bin os_mod (je_bty cs_int rfl E.h_int (by decide +kernel) (jr_cons (je_ixW (pv 0) je_int) jr_nil)) (je_name (pv 1))))
      refine jss_cons ?_ ?_
      · exact (js_setIx (pv 0) je_int (je_bin os_fdiv (je_ixW (pv 0) je_int) (je_name (pv 1))))
      refine jss_one ?_
      exact (js_ret (je_name (pv 2)))
    exact jss_nil
  refine jss_cons ?_ ?_
  · exact (js_setIx (pv 0) je_int (je_bin os_add (je_ixW (pv 0) je_int) je_int))
  refine jss_cons ?_ ?_
  · exact (js_set (i := 3) nd rfl (by first | exact .inl rfl | exact .inr rfl) je_int)
  refine jss_cons ?_ ?_
  · refine js_if (jt_cmp (os_lt hu) (je_ixW (pv 0) je_int) (je_blt cs_len rfl E.h_len boot_len (jr_cons (je_ixW (pv 0) je_int) jr_nil))) ?_ ?_
    · refine jss_cons ?_ ?_
      · exact (js_set (i := 3) nd rfl (by first | exact .inl rfl | exact .inr rfl) (je_ix (je_ixW (pv 0) je_int) (je_ixW (pv 0) je_int)))
      refine jss_one ?_
      exact (js_setIx (pv 0) je_int (je_bin os_add (je_ixW (pv 0) je_int) je_int))
    exact jss_nil
  refine jss_cons ?_ ?_
  · refine js_if (jt_cmp (os_ge hu) (je_name (pv 3)) (je_bin os_pow je_int je_int)) ?_ ?_
    · refine jss_cons ?_ ?_
      · exact (js_setIx (pv 0) je_int (je_bin os_fdiv (je_name (pv 3)) (je_name (pv 1))))
      refine jss_one ?_
      exact (js_ret (je_bin os_mod (je_bty cs_int rfl E.h_int (by decide +kernel) (jr_cons (je_name (pv 3)) jr_nil)) (je_name (pv 1))))
    exact jss_nil
  refine jss_cons ?_ ?_
  · exact (js_set (i := 4) nd rfl (by first | exact .inl rfl | exact .inr rfl) (je_bin os_mod (je_bty cs_int rfl E.h_int (by decide +kernel) (jr_cons (je_bin os_add (je_bin os_add (je_bin os_mul (je_ixW (pv 0) je_int) je_int) (je_bin os_mod (je_bty cs_int rfl E.h_int (by decide +kernel) (jr_cons (je_name (pv 3)) jr_nil)) je_int)) (je_bin os_mul (je_ixW (pv 0) je_int) je_int)) jr_nil)) je_int))
  refine jss_cons ?_ ?_
  · exact (js_set (i := 4) nd rfl (by first | exact .inl rfl | exact .inr rfl) (je_bin os_mod (je_bty cs_int rfl E.h_int (by decide +kernel) (jr_cons (je_bin os_mul (je_name (pv 4)) (je_bin os_add (je_bin os_fdiv (je_name (pv 4)) je_int) je_int)) jr_nil)) je_int))
  refine jss_cons ?_ ?_
  · exact (js_setIx (pv 0) je_int (je_name (pv 4)))
  refine jss_one ?_
  exact (js_ret (je_bin os_mod (je_bty cs_int rfl E.h_int (by decide +kernel) (jr_cons (je_bin os_fdiv (je_name (pv 4)) je_int) jr_nil)) (je_name (pv 1))))
theorem ok__law_pick (E : Facts K w mg) (D : Defs P w K mg base n) : Dfn P w K mg base [] (Den tbl (n + 1)) (n + 1) "_law_pick" 11 := by
  obtain ⟨f, fd, hf, F⟩ := E.f__law_pick
  exact ⟨f, fd, ["_law_tape_here", "_law_many"], hf, F.kp, F.bindsN fun _ _ _ _ _ _ us hl => (match us, hl with | [_, _], _ => rfl), fo__law_pick E D F⟩
theorem sc__law_machine : FnScope ["_law_tape_here", "_law_most", "_law_many", "_law_rows", "_law_at", "_law_kind", "_law_register"] ["_law_tape_here", "_law_most"] (defScope (top 25)) := ⟨rfl, rfl, rfl, by decide +kernel, rfl, by decide +kernel, by decide +kernel⟩
theorem fo__law_machine (E : Facts K w mg) (D : Defs P w K mg base n) {f : Addr} {fd : FuncData} (F : FnP K "_law_machine" (top 25) f fd) : FnOk P w K mg base (L2.CX P w) (n + 1) f fd ["_law_tape_here", "_law_most"] (spD ⟨K, mg, []⟩ ((Den tbl (n + 1)).call 20)) := by
  refine def_ok F sc__law_machine (bd := b__law_machine) rfl fun cdv A outer s H E0 hr => ?_
  have nd := (sc__law_machine).nd
  have hu : (A.deeper (envOfC "_law_machine" (defScope (top 25)) s.heap.objs.size f cdv)).units + (Den tbl n).room < cLine := by rw [den_room]; have := hr.un; omega
  have tk : Takes (cxOf (L2.CX P w) P w K mg base ["_law_tape_here", "_law_most", "_law_many", "_law_rows", "_law_at", "_law_kind", "_law_register"] "_law_machine" (defScope (top 25)) f cdv A outer s H E0) (fun cls d _ H => E0 cls d H) := takes_of rfl rfl rfl rfl
  unfold b__law_machine
  refine jss_cons ?_ ?_
  · exact (js_set (i := 2) nd rfl (by first | exact .inl rfl | exact .inr rfl) (je_bin os_add je_int (je_call D.c__law_pick.cal hr tk rfl (ja_cons (je_name (pv 0)) (ja_cons (je_name (pv 1)) ja_nil)))))
  refine jss_cons ?_ ?_
  · exact (js_set (i := 3) nd rfl (by first | exact .inl rfl | exact .inr rfl) (je_lst ja_nil))
  refine jss_cons ?_ ?_
  · refine js_for (passes_of rfl) rfl (ji_range1 rfl E.h_range (jr_cons (je_name (pv 2)) jr_nil)) (jg_name (pg_name (i := 4) nd rfl (by first | exact .inl rfl | exact .inr rfl))) ?_
    refine jss_cons ?_ ?_
    · exact (js_set (i := 5) nd rfl (by first | exact .inl rfl | exact .inr rfl) (je_call D.c__law_pick.cal hr tk rfl (ja_cons (je_name (pv 0)) (ja_cons je_int ja_nil))))
    refine jss_cons ?_ ?_
    · exact (js_set (i := 6) nd rfl (by first | exact .inl rfl | exact .inr rfl) (je_call D.c__law_pick.cal hr tk rfl (ja_cons (je_name (pv 0)) (ja_cons je_int ja_nil))))
    refine jss_one ?_
    refine js_if (jt_cmp (os_eq hu) (je_name (pv 5)) je_int) ?_ ?_
    · refine jss_one ?_
      exact (js_append (pv 3) (je_tup (ja_cons je_str ja_nil)))
    refine jss_one ?_
    refine js_if (jt_cmp (os_lt hu) (je_name (pv 5)) je_int) ?_ ?_
    · refine jss_one ?_
      exact (js_append (pv 3) (je_tup (ja_cons je_str (ja_cons (je_name (pv 6)) (ja_cons (je_call D.c__law_pick.cal hr tk rfl (ja_cons (je_name (pv 0)) (ja_cons (je_name (pv 2)) ja_nil))) ja_nil)))))
    refine jss_one ?_
    exact (js_append (pv 3) (je_tup (ja_cons je_str (ja_cons (je_name (pv 6)) (ja_cons (je_call D.c__law_pick.cal hr tk rfl (ja_cons (je_name (pv 0)) (ja_cons (je_name (pv 2)) ja_nil))) (ja_cons (je_call D.c__law_pick.cal hr tk rfl (ja_cons (je_name (pv 0)) (ja_cons (je_name (pv 2)) ja_nil))) ja_nil))))))
  refine jss_one ?_
  exact (js_ret (je_bty cs_tuple rfl E.h_tuple (by decide +kernel) (jr_cons (je_name (pv 3)) jr_nil)))
theorem ok__law_machine (E : Facts K w mg) (D : Defs P w K mg base n) : Dfn P w K mg base [] (Den tbl (n + 1)) (n + 1) "_law_machine" 20 := by
  obtain ⟨f, fd, hf, F⟩ := E.f__law_machine
  exact ⟨f, fd, ["_law_tape_here", "_law_most"], hf, F.kp, F.bindsN fun _ _ _ _ _ _ us hl => (match us, hl with | [_, _], _ => rfl), fo__law_machine E D F⟩
theorem sc__law_standing : FnScope ["_law_tape_here", "_law_machine_here", "_law_most", "_law_k"] ["_law_tape_here", "_law_machine_here", "_law_most"] (defScope (top 26)) := ⟨rfl, rfl, rfl, by decide +kernel, rfl, by decide +kernel, by decide +kernel⟩
theorem fo__law_standing (E : Facts K w mg) (D : Defs P w K mg base n) {f : Addr} {fd : FuncData} (F : FnP K "_law_standing" (top 26) f fd) : FnOk P w K mg base (L2.CX P w) (n + 1) f fd ["_law_tape_here", "_law_machine_here", "_law_most"] (spD ⟨K, mg, []⟩ ((Den tbl (n + 1)).call 17)) := by
  refine def_ok F sc__law_standing (bd := b__law_standing) rfl fun cdv A outer s H E0 hr => ?_
  have nd := (sc__law_standing).nd
  have hu : (A.deeper (envOfC "_law_standing" (defScope (top 26)) s.heap.objs.size f cdv)).units + (Den tbl n).room < cLine := by rw [den_room]; have := hr.un; omega
  have tk : Takes (cxOf (L2.CX P w) P w K mg base ["_law_tape_here", "_law_machine_here", "_law_most", "_law_k"] "_law_standing" (defScope (top 26)) f cdv A outer s H E0) (fun cls d _ H => E0 cls d H) := takes_of rfl rfl rfl rfl
  unfold b__law_standing
  refine jss_one ?_
  exact (js_ret (je_tup (ja_cons (je_call D.c__law_pick.cal hr tk rfl (ja_cons (je_name (pv 0)) (ja_cons (je_blt cs_len rfl E.h_len boot_len (jr_cons (je_name (pv 1)) jr_nil)) ja_nil))) (ja_cons (je_bty cs_tuple rfl E.h_tuple (by decide +kernel) (jr_cons (je_comp rfl nd (ji_range1 rfl E.h_range (jr_cons je_int jr_nil)) (blkOk_by (N := ["_law_tape_here", "_law_machine_here", "_law_most", "_law_k"]) (sc := defScope (top 26)) (own := [("_law_k", 3)]) (by decide +kernel)) (us := [3]) rfl (by decide) (fun _ _ _ _ _ => (jg_name (pg_name (i := 3) nd rfl (by first | exact .inl rfl | exact .inr rfl)))) (fun _ _ _ _ _ => jts_nil) (fun _ _ _ _ _ => (je_call D.c__law_pick.cal hr takes0 rfl (ja_cons (je_name (pv 0)) (ja_cons (je_name (pv 2)) ja_nil))))) jr_nil)) ja_nil))))
theorem ok__law_standing (E : Facts K w mg) (D : Defs P w K mg base n) : Dfn P w K mg base [] (Den tbl (n + 1)) (n + 1) "_law_standing" 17 := by
  obtain ⟨f, fd, hf, F⟩ := E.f__law_standing
  exact ⟨f, fd, ["_law_tape_here", "_law_machine_here", "_law_most"], hf, F.kp, F.bindsN fun _ _ _ _ _ _ us hl => (match us, hl with | [_, _, _], _ => rfl), fo__law_standing E D F⟩
theorem sc__law_next : FnScope ["_law_machine_here", "_law_standing_here", "_law_at", "_law_numbers", "_law_instruction", "_law_changed"] ["_law_machine_here", "_law_standing_here"] (defScope (top 27)) := ⟨rfl, rfl, rfl, by decide +kernel, rfl, by decide +kernel, by decide +kernel⟩
theorem fo__law_next (E : Facts K w mg) (D : Defs P w K mg base n) {f : Addr} {fd : FuncData} (F : FnP K "_law_next" (top 27) f fd) : FnOk P w K mg base (L2.CX P w) (n + 1) f fd ["_law_machine_here", "_law_standing_here"] (spD ⟨K, mg, []⟩ ((Den tbl (n + 1)).call 13)) := by
  refine def_ok F sc__law_next (bd := b__law_next) rfl fun cdv A outer s H E0 hr => ?_
  have nd := (sc__law_next).nd
  have hu : (A.deeper (envOfC "_law_next" (defScope (top 27)) s.heap.objs.size f cdv)).units + (Den tbl n).room < cLine := by rw [den_room]; have := hr.un; omega
  have tk : Takes (cxOf (L2.CX P w) P w K mg base ["_law_machine_here", "_law_standing_here", "_law_at", "_law_numbers", "_law_instruction", "_law_changed"] "_law_next" (defScope (top 27)) f cdv A outer s H E0) (fun cls d _ H => E0 cls d H) := takes_of rfl rfl rfl rfl
  unfold b__law_next
  refine jss_cons ?_ ?_
  · exact (js_asg (jg_tup rfl (jgs_cons (jg_name (pg_name (i := 2) nd rfl (by first | exact .inl rfl | exact .inr rfl))) (jgs_cons (jg_name (pg_name (i := 3) nd rfl (by first | exact .inl rfl | exact .inr rfl))) jgs_nil))) (je_name (pv 1)))
  refine jss_cons ?_ ?_
  · exact (js_set (i := 4) nd rfl (by first | exact .inl rfl | exact .inr rfl) (je_ix (je_name (pv 0)) (je_name (pv 2))))
  refine jss_cons ?_ ?_
  · refine js_if (jt_cmp (os_eq hu) (je_ix (je_name (pv 4)) je_int) je_str) ?_ ?_
    · refine jss_one ?_
      exact (js_ret je_non)
    exact jss_nil
  refine jss_cons ?_ ?_
  · exact (js_set (i := 5) nd rfl (by first | exact .inl rfl | exact .inr rfl) (je_bty cs_list rfl E.h_list (by decide +kernel) (jr_cons (je_name (pv 3)) jr_nil)))
  refine jss_cons ?_ ?_
  · refine js_if (jt_cmp (os_eq hu) (je_ix (je_name (pv 4)) je_int) je_str) ?_ ?_
    · refine jss_one ?_
      exact (js_setIx (pv 5) (je_ix (je_name (pv 4)) je_int) (je_bin os_add (je_ix (je_name (pv 5)) (je_ix (je_name (pv 4)) je_int)) je_int))
    refine jss_one ?_
    refine js_if (jt_cmp (os_eq hu) (je_ix (je_name (pv 5)) (je_ix (je_name (pv 4)) je_int)) je_int) ?_ ?_
    · refine jss_one ?_
      exact (js_ret (je_tup (ja_cons (je_ix (je_name (pv 4)) je_int) (ja_cons (je_name (pv 3)) ja_nil))))
    refine jss_one ?_
    exact (js_setIx (pv 5) (je_ix (je_name (pv 4)) je_int) (je_bin os_sub (je_ix (je_name (pv 5)) (je_ix (je_name (pv 4)) je_int)) je_int))
  refine jss_one ?_
  exact (js_ret (je_tup (ja_cons (je_ix (je_name (pv 4)) je_int) (ja_cons (je_bty cs_tuple rfl E.h_tuple (by decide +kernel) (jr_cons (je_name (pv 5)) jr_nil)) ja_nil))))
theorem ok__law_next (E : Facts K w mg) (D : Defs P w K mg base n) : Dfn P w K mg base [] (Den tbl (n + 1)) (n + 1) "_law_next" 13 := by
  obtain ⟨f, fd, hf, F⟩ := E.f__law_next
  exact ⟨f, fd, ["_law_machine_here", "_law_standing_here"], hf, F.kp, F.bindsN fun _ _ _ _ _ _ us hl => (match us, hl with | [_, _], _ => rfl), fo__law_next E D F⟩
theorem sc__law_same : FnScope ["_law_told", "_law_due", "_law_k"] ["_law_told", "_law_due"] (defScope (top 28)) := ⟨rfl, rfl, rfl, by decide +kernel, rfl, by decide +kernel, by decide +kernel⟩
theorem fo__law_same (E : Facts K w mg) (D : Defs P w K mg base n) {f : Addr} {fd : FuncData} (F : FnP K "_law_same" (top 28) f fd) : FnOk P w K mg base (L2.CX P w) (n + 1) f fd ["_law_told", "_law_due"] (spD ⟨K, mg, []⟩ ((Den tbl (n + 1)).call 12)) := by
  refine def_ok F sc__law_same (bd := b__law_same) rfl fun cdv A outer s H E0 hr => ?_
  have nd := (sc__law_same).nd
  have hu : (A.deeper (envOfC "_law_same" (defScope (top 28)) s.heap.objs.size f cdv)).units + (Den tbl n).room < cLine := by rw [den_room]; have := hr.un; omega
  have tk : Takes (cxOf (L2.CX P w) P w K mg base ["_law_told", "_law_due", "_law_k"] "_law_same" (defScope (top 28)) f cdv A outer s H E0) (fun cls d _ H => E0 cls d H) := takes_of rfl rfl rfl rfl
  unfold b__law_same
  refine jss_cons ?_ ?_
  · refine js_if (jt_cmp os_is (je_name (pv 1)) je_non) ?_ ?_
    · refine jss_one ?_
      exact (js_ret (je_cmp os_is (je_name (pv 0)) je_non))
    exact jss_nil
  refine jss_cons ?_ ?_
  · refine js_if (jt_bool (jw_or (jt_truth (je_isi rfl E.h_isinstance rfl E.h_bool (by decide +kernel) (je_name (pv 1)))) (jw_or1 (jt_truth (je_isi rfl E.h_isinstance rfl E.h_bool (by decide +kernel) (je_name (pv 0))))))) ?_ ?_
    · refine jss_one ?_
      exact (js_ret (je_and (je_isi rfl E.h_isinstance rfl E.h_bool (by decide +kernel) (je_name (pv 1))) (je_and (je_isi rfl E.h_isinstance rfl E.h_bool (by decide +kernel) (je_name (pv 0))) (je_one (je_cmp (os_eq hu) (je_name (pv 0)) (je_name (pv 1)))))))
    exact jss_nil
  refine jss_cons ?_ ?_
  · refine js_if (jt_bool (jw_or (jt_truth (je_isi rfl E.h_isinstance rfl E.h_str (by decide +kernel) (je_name (pv 1)))) (jw_or1 (jt_truth (je_isi rfl E.h_isinstance rfl E.h_int (by decide +kernel) (je_name (pv 1))))))) ?_ ?_
    · refine jss_one ?_
      exact (js_ret (je_and (je_cmp (os_eq hu) (je_isi rfl E.h_isinstance rfl E.h_str (by decide +kernel) (je_name (pv 0))) (je_isi rfl E.h_isinstance rfl E.h_str (by decide +kernel) (je_name (pv 1)))) (je_and (je_isi2 rfl E.h_isinstance rfl E.h_int (by decide +kernel) rfl E.h_str (by decide +kernel) (je_name (pv 0))) (je_one (je_cmp (os_eq hu) (je_name (pv 0)) (je_name (pv 1)))))))
    exact jss_nil
  refine jss_cons ?_ ?_
  · refine js_if (jt_bool (jw_or (jt_cmp (os_ne hu) (je_isi rfl E.h_isinstance rfl E.h_tuple (by decide +kernel) (je_name (pv 1))) (je_isi rfl E.h_isinstance rfl E.h_tuple (by decide +kernel) (je_name (pv 0)))) (jw_or1 (jt_not (jt_truth (je_isi2 rfl E.h_isinstance rfl E.h_list (by decide +kernel) rfl E.h_tuple (by decide +kernel) (je_name (pv 0)))))))) ?_ ?_
    · refine jss_one ?_
      exact (js_ret je_bl)
    exact jss_nil
  refine jss_one ?_
  exact (js_ret (je_and (je_cmp (os_eq hu) (je_blt cs_len rfl E.h_len boot_len (jr_cons (je_name (pv 0)) jr_nil)) (je_blt cs_len rfl E.h_len boot_len (jr_cons (je_name (pv 1)) jr_nil))) (je_one (je_blt (cs_all rfl) rfl E.h_all (by decide +kernel) (jr_cons (je_comp rfl nd (ji_range1 rfl E.h_range (jr_cons (je_blt cs_len rfl E.h_len boot_len (jr_cons (je_name (pv 1)) jr_nil)) jr_nil)) (blkOk_by (N := ["_law_told", "_law_due", "_law_k"]) (sc := defScope (top 28)) (own := [("_law_k", 2)]) (by decide +kernel)) (us := [2]) rfl (by decide) (fun _ _ _ _ _ => (jg_name (pg_name (i := 2) nd rfl (by first | exact .inl rfl | exact .inr rfl)))) (fun _ _ _ _ _ => jts_nil) (fun _ _ _ _ _ => (je_call D.c__law_same.cal hr takes0 rfl (ja_cons (je_ix (je_name (pv 0)) (je_name (pv 2))) (ja_cons (je_ix (je_name (pv 1)) (je_name (pv 2))) ja_nil))))) jr_nil)))))
theorem ok__law_same (E : Facts K w mg) (D : Defs P w K mg base n) : Dfn P w K mg base [] (Den tbl (n + 1)) (n + 1) "_law_same" 12 := by
  obtain ⟨f, fd, hf, F⟩ := E.f__law_same
  exact ⟨f, fd, ["_law_told", "_law_due"], hf, F.kp, F.bindsN fun _ _ _ _ _ _ us hl => (match us, hl with | [_, _], _ => rfl), fo__law_same E D F⟩
theorem sc__law_behind : FnScope ["_law_machine_here", "_law_standing_here", "_law_steps", "_law_turn", "_law_after"] ["_law_machine_here", "_law_standing_here", "_law_steps"] (defScope (top 29)) := ⟨rfl, rfl, rfl, by decide +kernel, rfl, by decide +kernel, by decide +kernel⟩
theorem fo__law_behind (E : Facts K w mg) (D : Defs P w K mg base n) {f : Addr} {fd : FuncData} (F : FnP K "_law_behind" (top 29) f fd) : FnOk P w K mg base (L2.CX P w) (n + 1) f fd ["_law_machine_here", "_law_standing_here", "_law_steps"] (spD ⟨K, mg, []⟩ ((Den tbl (n + 1)).call 15)) := by
  refine def_ok F sc__law_behind (bd := b__law_behind) rfl fun cdv A outer s H E0 hr => ?_
  have nd := (sc__law_behind).nd
  have hu : (A.deeper (envOfC "_law_behind" (defScope (top 29)) s.heap.objs.size f cdv)).units + (Den tbl n).room < cLine := by rw [den_room]; have := hr.un; omega
  have tk : Takes (cxOf (L2.CX P w) P w K mg base ["_law_machine_here", "_law_standing_here", "_law_steps", "_law_turn", "_law_after"] "_law_behind" (defScope (top 29)) f cdv A outer s H E0) (fun cls d _ H => E0 cls d H) := takes_of rfl rfl rfl rfl
  unfold b__law_behind
  refine jss_cons ?_ ?_
  · refine js_for (passes_of rfl) rfl (ji_range1 rfl E.h_range (jr_cons (je_name (pv 2)) jr_nil)) (jg_name (pg_name (i := 3) nd rfl (by first | exact .inl rfl | exact .inr rfl))) ?_
    refine jss_cons ?_ ?_
    · exact (js_set (i := 4) nd rfl (by first | exact .inl rfl | exact .inr rfl) (je_call D.c__law_next.cal hr tk rfl (ja_cons (je_name (pv 0)) (ja_cons (je_name (pv 1)) ja_nil))))
    refine jss_cons ?_ ?_
    · refine js_if (jt_cmp os_is (je_name (pv 4)) je_non) ?_ ?_
      · refine jss_one ?_
        exact js_break
      exact jss_nil
    refine jss_one ?_
    exact (js_set (i := 1) nd rfl (by first | exact .inl rfl | exact .inr rfl) (je_name (pv 4)))
  refine jss_one ?_
  exact (js_ret (je_name (pv 1)))
theorem ok__law_behind (E : Facts K w mg) (D : Defs P w K mg base n) : Dfn P w K mg base [] (Den tbl (n + 1)) (n + 1) "_law_behind" 15 := by
  obtain ⟨f, fd, hf, F⟩ := E.f__law_behind
  exact ⟨f, fd, ["_law_machine_here", "_law_standing_here", "_law_steps"], hf, F.kp, F.bindsN fun _ _ _ _ _ _ us hl => (match us, hl with | [_, _, _], _ => rfl), fo__law_behind E D F⟩
theorem sc__law_great : FnScope ["_law_tape_here", "_law_number", "_law_k"] ["_law_tape_here"] (defScope (top 30)) := ⟨rfl, rfl, rfl, by decide +kernel, rfl, by decide +kernel, by decide +kernel⟩
theorem fo__law_great (E : Facts K w mg) (D : Defs P w K mg base n) {f : Addr} {fd : FuncData} (F : FnP K "_law_great" (top 30) f fd) : FnOk P w K mg base (L2.CX P w) (n + 1) f fd ["_law_tape_here"] (spD ⟨K, mg, []⟩ ((Den tbl (n + 1)).call 16)) := by
  refine def_ok F sc__law_great (bd := b__law_great) rfl fun cdv A outer s H E0 hr => ?_
  have nd := (sc__law_great).nd
  have hu : (A.deeper (envOfC "_law_great" (defScope (top 30)) s.heap.objs.size f cdv)).units + (Den tbl n).room < cLine := by rw [den_room]; have := hr.un; omega
  have tk : Takes (cxOf (L2.CX P w) P w K mg base ["_law_tape_here", "_law_number", "_law_k"] "_law_great" (defScope (top 30)) f cdv A outer s H E0) (fun cls d _ H => E0 cls d H) := takes_of rfl rfl rfl rfl
  unfold b__law_great
  refine jss_cons ?_ ?_
  · exact (js_set (i := 1) nd rfl (by first | exact .inl rfl | exact .inr rfl) je_int)
  refine jss_cons ?_ ?_
  · refine js_for (passes_of rfl) rfl (ji_range1 rfl E.h_range (jr_cons je_int jr_nil)) (jg_name (pg_name (i := 2) nd rfl (by first | exact .inl rfl | exact .inr rfl))) ?_
    refine jss_one ?_
    exact (js_set (i := 1) nd rfl (by first | exact .inl rfl | exact .inr rfl) (je_bin os_add (je_bin os_mul (je_name (pv 1)) (je_bin os_pow je_int je_int)) (je_call D.c__law_pick.cal hr tk rfl (ja_cons (je_name (pv 0)) (ja_cons (je_bin os_pow je_int je_int) ja_nil)))))
  refine jss_one ?_
  exact (js_ret (je_name (pv 1)))
theorem ok__law_great (E : Facts K w mg) (D : Defs P w K mg base n) : Dfn P w K mg base [] (Den tbl (n + 1)) (n + 1) "_law_great" 16 := by
  obtain ⟨f, fd, hf, F⟩ := E.f__law_great
  exact ⟨f, fd, ["_law_tape_here"], hf, F.kp, F.bindsN fun _ _ _ _ _ _ us hl => (match us, hl with | [_], _ => rfl), fo__law_great E D F⟩
theorem sc__law_asked : FnScope ["_law_tape_here", "_law_machine_here", "_law_standing_here", "_law_k", "_law_first", "_law_second", "_law_due", "_law_told"] ["_law_tape_here", "_law_machine_here"] (defScope (top 31)) := ⟨rfl, rfl, rfl, by decide +kernel, rfl, by decide +kernel, by decide +kernel⟩
theorem fo__law_asked (E : Facts K w mg) (D : Defs P w K mg base n) {f : Addr} {fd : FuncData} (F : FnP K "_law_asked" (top 31) f fd) : FnOk P w K mg base (L2.CX P w) (n + 1) f fd ["_law_tape_here", "_law_machine_here"] (spD ⟨K, mg, []⟩ ((Den tbl (n + 1)).call 19)) := by
  refine def_ok F sc__law_asked (bd := b__law_asked) rfl fun cdv A outer s H E0 hr => ?_
  have nd := (sc__law_asked).nd
  have hu : (A.deeper (envOfC "_law_asked" (defScope (top 31)) s.heap.objs.size f cdv)).units + (Den tbl n).room < cLine := by rw [den_room]; have := hr.un; omega
  have tk : Takes (cxOf (L2.CX P w) P w K mg base ["_law_tape_here", "_law_machine_here", "_law_standing_here", "_law_k", "_law_first", "_law_second", "_law_due", "_law_told"] "_law_asked" (defScope (top 31)) f cdv A outer s H E0) (fun cls d _ H => E0 cls d H) := takes_of rfl rfl rfl rfl
  unfold b__law_asked
  refine jss_cons ?_ ?_
  · exact (js_set (i := 2) nd rfl (by first | exact .inl rfl | exact .inr rfl) (je_call D.c__law_standing.cal hr tk rfl (ja_cons (je_name (pv 0)) (ja_cons (je_name (pv 1)) (ja_cons je_int ja_nil)))))
  refine jss_cons ?_ ?_
  · refine js_if (jt_cmp (os_eq hu) (je_call D.c__law_pick.cal hr tk rfl (ja_cons (je_name (pv 0)) (ja_cons je_int ja_nil))) je_int) ?_ ?_
    · refine jss_one ?_
      exact (js_set (i := 2) nd rfl (by first | exact .inl rfl | exact .inr rfl) (je_tup (ja_cons (je_ix (je_name (pv 2)) je_int) (ja_cons (je_bty cs_tuple rfl E.h_tuple (by decide +kernel) (jr_cons (je_comp rfl nd (ji_range1 rfl E.h_range (jr_cons je_int jr_nil)) (blkOk_by (N := ["_law_tape_here", "_law_machine_here", "_law_standing_here", "_law_k", "_law_first", "_law_second", "_law_due", "_law_told"]) (sc := defScope (top 31)) (own := [("_law_k", 3)]) (by decide +kernel)) (us := [3]) rfl (by decide) (fun _ _ _ _ _ => (jg_name (pg_name (i := 3) nd rfl (by first | exact .inl rfl | exact .inr rfl)))) (fun _ _ _ _ _ => jts_nil) (fun _ _ _ _ _ => (je_call D.c__law_great.cal hr takes0 rfl (ja_cons (je_name (pv 0)) ja_nil)))) jr_nil)) ja_nil))))
    exact jss_nil
  refine jss_cons ?_ ?_
  · exact (js_set (i := 4) nd rfl (by first | exact .inl rfl | exact .inr rfl) (je_call D.c__law_pick.cal hr tk rfl (ja_cons (je_name (pv 0)) (ja_cons je_int ja_nil))))
  refine jss_cons ?_ ?_
  · exact (js_set (i := 5) nd rfl (by first | exact .inl rfl | exact .inr rfl) (je_call D.c__law_pick.cal hr tk rfl (ja_cons (je_name (pv 0)) (ja_cons je_int ja_nil))))
  refine jss_cons ?_ ?_
  · exact (js_set (i := 6) nd rfl (by first | exact .inl rfl | exact .inr rfl) (je_call D.c__law_behind.cal hr tk rfl (ja_cons (je_name (pv 1)) (ja_cons (je_name (pv 2)) (ja_cons (je_name (pv 4)) ja_nil)))))
  refine jss_cons ?_ ?_
  · exact (js_set (i := 7) nd rfl (by first | exact .inl rfl | exact .inr rfl) (je_call D.c_done.cal hr tk rfl (ja_cons (je_name (pv 1)) (ja_cons (je_name (pv 2)) (ja_cons (je_name (pv 4)) ja_nil)))))
  refine jss_cons ?_ ?_
  · refine js_if (jt_not (jt_truth (je_call D.c__law_same.cal hr tk rfl (ja_cons (je_name (pv 7)) (ja_cons (je_name (pv 6)) ja_nil))))) ?_ ?_
    · refine jss_one ?_
      exact (js_ret je_bl)
    exact jss_nil
  refine jss_cons ?_ ?_
  · refine js_if (jt_not (jt_truth (je_call D.c__law_same.cal hr tk rfl (ja_cons (je_call D.c_done.cal hr tk rfl (ja_cons (je_name (pv 1)) (ja_cons (je_name (pv 7)) (ja_cons (je_name (pv 5)) ja_nil)))) (ja_cons (je_call D.c__law_behind.cal hr tk rfl (ja_cons (je_name (pv 1)) (ja_cons (je_name (pv 6)) (ja_cons (je_name (pv 5)) ja_nil)))) ja_nil))))) ?_ ?_
    · refine jss_one ?_
      exact (js_ret je_bl)
    exact jss_nil
  refine jss_cons ?_ ?_
  · refine js_if (jt_not (jt_truth (je_call D.c__law_same.cal hr tk rfl (ja_cons (je_call D.c_done.cal hr tk rfl (ja_cons (je_name (pv 1)) (ja_cons (je_name (pv 2)) (ja_cons (je_bin os_add (je_name (pv 4)) (je_name (pv 5))) ja_nil)))) (ja_cons (je_call D.c__law_behind.cal hr tk rfl (ja_cons (je_name (pv 1)) (ja_cons (je_name (pv 6)) (ja_cons (je_name (pv 5)) ja_nil)))) ja_nil))))) ?_ ?_
    · refine jss_one ?_
      exact (js_ret je_bl)
    exact jss_nil
  refine jss_cons ?_ ?_
  · refine js_if (jt_cmp (os_eq hu) (je_ix (je_ix (je_name (pv 1)) (je_ix (je_name (pv 7)) je_int)) je_int) je_str) ?_ ?_
    · refine jss_one ?_
      exact (js_ret (je_call D.c__law_same.cal hr tk rfl (ja_cons (je_call D.c_done.cal hr tk rfl (ja_cons (je_name (pv 1)) (ja_cons (je_name (pv 2)) (ja_cons (je_bin os_pow je_int je_int) ja_nil)))) (ja_cons (je_name (pv 6)) ja_nil))))
    exact jss_nil
  refine jss_one ?_
  exact (js_ret (je_call D.c__law_same.cal hr tk rfl (ja_cons (je_call D.c_done.cal hr tk rfl (ja_cons (je_name (pv 1)) (ja_cons (je_name (pv 2)) (ja_cons je_int ja_nil)))) (ja_cons (je_name (pv 2)) ja_nil))))
theorem ok__law_asked (E : Facts K w mg) (D : Defs P w K mg base n) : Dfn P w K mg base [] (Den tbl (n + 1)) (n + 1) "_law_asked" 19 := by
  obtain ⟨f, fd, hf, F⟩ := E.f__law_asked
  exact ⟨f, fd, ["_law_tape_here", "_law_machine_here"], hf, F.kp, F.bindsN fun _ _ _ _ _ _ us hl => (match us, hl with | [_, _], _ => rfl), fo__law_asked E D F⟩
theorem sc__law_brought : FnScope ["_law_tape_here", "_law_low", "_law_high", "_law_many", "_law_machine_here", "_law_numbers", "_law_k", "_law_ends", "_law_standing_here"] ["_law_tape_here"] (defScope (top 32)) := ⟨rfl, rfl, rfl, by decide +kernel, rfl, by decide +kernel, by decide +kernel⟩
theorem fo__law_brought (E : Facts K w mg) (D : Defs P w K mg base n) {f : Addr} {fd : FuncData} (F : FnP K "_law_brought" (top 32) f fd) : FnOk P w K mg base (L2.CX P w) (n + 1) f fd ["_law_tape_here"] (spD ⟨K, mg, []⟩ ((Den tbl (n + 1)).call 18)) := by
  refine def_ok F sc__law_brought (bd := b__law_brought) rfl fun cdv A outer s H E0 hr => ?_
  have nd := (sc__law_brought).nd
  have hu : (A.deeper (envOfC "_law_brought" (defScope (top 32)) s.heap.objs.size f cdv)).units + (Den tbl n).room < cLine := by rw [den_room]; have := hr.un; omega
  have tk : Takes (cxOf (L2.CX P w) P w K mg base ["_law_tape_here", "_law_low", "_law_high", "_law_many", "_law_machine_here", "_law_numbers", "_law_k", "_law_ends", "_law_standing_here"] "_law_brought" (defScope (top 32)) f cdv A outer s H E0) (fun cls d _ H => E0 cls d H) := takes_of rfl rfl rfl rfl
  unfold b__law_brought
  refine jss_cons ?_ ?_
  · exact (js_set (i := 1) nd rfl (by first | exact .inl rfl | exact .inr rfl) (je_call D.c__law_pick.cal hr tk rfl (ja_cons (je_name (pv 0)) (ja_cons je_int ja_nil))))
  refine jss_cons ?_ ?_
  · exact (js_set (i := 2) nd rfl (by first | exact .inl rfl | exact .inr rfl) (je_bin os_mod (je_bty cs_int rfl E.h_int (by decide +kernel) (jr_cons (je_bin os_add (je_bin os_add (je_name (pv 1)) je_int) (je_call D.c__law_pick.cal hr tk rfl (ja_cons (je_name (pv 0)) (ja_cons je_int ja_nil)))) jr_nil)) je_int))
  refine jss_cons ?_ ?_
  · exact (js_set (i := 3) nd rfl (by first | exact .inl rfl | exact .inr rfl) (je_call D.c__law_pick.cal hr tk rfl (ja_cons (je_name (pv 0)) (ja_cons je_int ja_nil))))
  refine jss_cons ?_ ?_
  · exact (js_set (i := 4) nd rfl (by first | exact .inl rfl | exact .inr rfl) (je_tup (ja_cons (je_tup (ja_cons je_str (ja_cons (je_name (pv 1)) (ja_cons je_int (ja_cons je_int ja_nil))))) (ja_cons (je_tup (ja_cons je_str (ja_cons (je_name (pv 2)) (ja_cons je_int ja_nil)))) (ja_cons (je_tup (ja_cons je_str ja_nil)) ja_nil)))))
  refine jss_cons ?_ ?_
  · exact (js_setC (i := 5) rfl nd rfl rfl (sw_true rfl rfl rfl rfl) (ji_range1 rfl E.h_range (jr_cons je_int jr_nil)) (blkOk_by (N := ["_law_tape_here", "_law_low", "_law_high", "_law_many", "_law_machine_here", "_law_numbers", "_law_k", "_law_ends", "_law_standing_here"]) (sc := defScope (top 32)) (own := [("_law_k", 6)]) (by decide +kernel)) (us := [6]) rfl (by decide) (fun _ _ _ _ _ => (jg_name (pg_name (i := 6) nd rfl (by first | exact .inl rfl | exact .inr rfl)))) (fun _ _ _ _ _ => jts_nil) (fun _ _ _ _ _ => (je_call D.c__law_pick.cal hr takes0 rfl (ja_cons (je_name (pv 0)) (ja_cons je_int ja_nil)))))
  refine jss_cons ?_ ?_
  · exact (js_setIx (pv 5) (je_name (pv 1)) (je_name (pv 3)))
  refine jss_cons ?_ ?_
  · exact (js_set (i := 7) nd rfl (by first | exact .inl rfl | exact .inr rfl) (je_bty cs_list rfl E.h_list (by decide +kernel) (jr_cons (je_name (pv 5)) jr_nil)))
  refine jss_cons ?_ ?_
  · exact (js_setIx (pv 7) (je_name (pv 1)) je_int)
  refine jss_cons ?_ ?_
  · exact (js_setIx (pv 7) (je_name (pv 2)) (je_bin os_add (je_ix (je_name (pv 5)) (je_name (pv 2))) (je_name (pv 3))))
  refine jss_cons ?_ ?_
  · exact (js_set (i := 8) nd rfl (by first | exact .inl rfl | exact .inr rfl) (je_tup (ja_cons je_int (ja_cons (je_bty cs_tuple rfl E.h_tuple (by decide +kernel) (jr_cons (je_name (pv 5)) jr_nil)) ja_nil))))
  refine jss_cons ?_ ?_
  · refine js_if (jt_not (jt_truth (je_call D.c__law_same.cal hr tk rfl (ja_cons (je_call D.c_done.cal hr tk rfl (ja_cons (je_name (pv 4)) (ja_cons (je_name (pv 8)) (ja_cons (je_bin os_add (je_bin os_mul je_int (je_name (pv 3))) je_int) ja_nil)))) (ja_cons (je_tup (ja_cons je_int (ja_cons (je_bty cs_tuple rfl E.h_tuple (by decide +kernel) (jr_cons (je_name (pv 7)) jr_nil)) ja_nil))) ja_nil))))) ?_ ?_
    · refine jss_one ?_
      exact (js_ret je_bl)
    exact jss_nil
  refine jss_cons ?_ ?_
  · refine js_if (jt_not (jt_truth (je_call D.c__law_same.cal hr tk rfl (ja_cons (je_call D.c_done.cal hr tk rfl (ja_cons (je_name (pv 4)) (ja_cons (je_name (pv 8)) (ja_cons (je_bin os_add (je_bin os_add (je_bin os_mul je_int (je_name (pv 3))) je_int) (je_call D.c__law_pick.cal hr tk rfl (ja_cons (je_name (pv 0)) (ja_cons je_int ja_nil)))) ja_nil)))) (ja_cons (je_tup (ja_cons je_int (ja_cons (je_bty cs_tuple rfl E.h_tuple (by decide +kernel) (jr_cons (je_name (pv 7)) jr_nil)) ja_nil))) ja_nil))))) ?_ ?_
    · refine jss_one ?_
      exact (js_ret je_bl)
    exact jss_nil
  refine jss_one ?_
  exact (js_ret (je_call D.c__law_same.cal hr tk rfl (ja_cons (je_call D.c_done.cal hr tk rfl (ja_cons (je_name (pv 4)) (ja_cons (je_name (pv 8)) (ja_cons (je_bin os_mul je_int (je_name (pv 3))) ja_nil)))) (ja_cons (je_tup (ja_cons je_int (ja_cons (je_bty cs_tuple rfl E.h_tuple (by decide +kernel) (jr_cons (je_name (pv 7)) jr_nil)) ja_nil))) ja_nil))))
theorem ok__law_brought (E : Facts K w mg) (D : Defs P w K mg base n) : Dfn P w K mg base [] (Den tbl (n + 1)) (n + 1) "_law_brought" 18 := by
  obtain ⟨f, fd, hf, F⟩ := E.f__law_brought
  exact ⟨f, fd, ["_law_tape_here"], hf, F.kp, F.bindsN fun _ _ _ _ _ _ us hl => (match us, hl with | [_], _ => rfl), fo__law_brought E D F⟩
theorem sc__law_long : FnScope ["_law_tape_here", "_law_start", "_law_machine_here", "_law_steps", "_law_due"] ["_law_tape_here"] (defScope (top 33)) := ⟨rfl, rfl, rfl, by decide +kernel, rfl, by decide +kernel, by decide +kernel⟩
theorem fo__law_long (E : Facts K w mg) (D : Defs P w K mg base n) {f : Addr} {fd : FuncData} (F : FnP K "_law_long" (top 33) f fd) : FnOk P w K mg base (L2.CX P w) (n + 1) f fd ["_law_tape_here"] (spD ⟨K, mg, []⟩ ((Den tbl (n + 1)).call 21)) := by
  refine def_ok F sc__law_long (bd := b__law_long) rfl fun cdv A outer s H E0 hr => ?_
  have nd := (sc__law_long).nd
  have hu : (A.deeper (envOfC "_law_long" (defScope (top 33)) s.heap.objs.size f cdv)).units + (Den tbl n).room < cLine := by rw [den_room]; have := hr.un; omega
  have tk : Takes (cxOf (L2.CX P w) P w K mg base ["_law_tape_here", "_law_start", "_law_machine_here", "_law_steps", "_law_due"] "_law_long" (defScope (top 33)) f cdv A outer s H E0) (fun cls d _ H => E0 cls d H) := takes_of rfl rfl rfl rfl
  unfold b__law_long
  refine jss_cons ?_ ?_
  · exact (js_set (i := 1) nd rfl (by first | exact .inl rfl | exact .inr rfl) (je_call D.c__law_pick.cal hr tk rfl (ja_cons (je_name (pv 0)) (ja_cons je_int ja_nil))))
  refine jss_cons ?_ ?_
  · exact (js_set (i := 2) nd rfl (by first | exact .inl rfl | exact .inr rfl) (je_tup (ja_cons (je_tup (ja_cons je_str (ja_cons je_int (ja_cons je_int ja_nil)))) (ja_cons (je_tup (ja_cons je_str (ja_cons je_int (ja_cons je_int ja_nil)))) ja_nil))))
  refine jss_cons ?_ ?_
  · exact (js_set (i := 3) nd rfl (by first | exact .inl rfl | exact .inr rfl) (je_bin os_sub (je_bin os_pow je_int je_int) (je_call D.c__law_pick.cal hr tk rfl (ja_cons (je_name (pv 0)) (ja_cons je_int ja_nil)))))
  refine jss_cons ?_ ?_
  · exact (js_set (i := 4) nd rfl (by first | exact .inl rfl | exact .inr rfl) (je_tup (ja_cons (je_bin os_mod (je_bty cs_int rfl E.h_int (by decide +kernel) (jr_cons (je_name (pv 3)) jr_nil)) je_int) (ja_cons (je_tup (ja_cons (je_bin os_sub (je_bin os_add (je_name (pv 1)) (je_name (pv 3))) (je_bin os_fdiv (je_name (pv 3)) je_int)) (ja_cons je_int (ja_cons je_int (ja_cons (je_bin os_fdiv (je_name (pv 3)) je_int) ja_nil))))) ja_nil))))
  refine jss_one ?_
  exact (js_ret (je_call D.c__law_same.cal hr tk rfl (ja_cons (je_call D.c_done.cal hr tk rfl (ja_cons (je_name (pv 2)) (ja_cons (je_tup (ja_cons je_int (ja_cons (je_tup (ja_cons (je_name (pv 1)) (ja_cons je_int (ja_cons je_int (ja_cons je_int ja_nil))))) ja_nil))) (ja_cons (je_name (pv 3)) ja_nil)))) (ja_cons (je_name (pv 4)) ja_nil))))
theorem ok__law_long (E : Facts K w mg) (D : Defs P w K mg base n) : Dfn P w K mg base [] (Den tbl (n + 1)) (n + 1) "_law_long" 21 := by
  obtain ⟨f, fd, hf, F⟩ := E.f__law_long
  exact ⟨f, fd, ["_law_tape_here"], hf, F.kp, F.bindsN fun _ _ _ _ _ _ us hl => (match us, hl with | [_], _ => rfl), fo__law_long E D F⟩
theorem sc_law : FnScope ["_law_script", "_law_tape_here", "_law_most", "_law_machine_here", "_law_turn"] ["_law_script"] (defScope (top 34)) := ⟨rfl, rfl, rfl, by decide +kernel, rfl, by decide +kernel, by decide +kernel⟩
theorem fo_law (E : Facts K w mg) (D : Defs P w K mg base n) {f : Addr} {fd : FuncData} (F : FnP K "law" (top 34) f fd) : FnOk P w K mg base (L2.CX P w) (n + 1) f fd ["_law_script"] (spD ⟨K, mg, []⟩ ((Den tbl (n + 1)).call 23)) := by
  refine def_ok F sc_law (bd := b_law) rfl fun cdv A outer s H E0 hr => ?_
  have nd := (sc_law).nd
  have hu : (A.deeper (envOfC "law" (defScope (top 34)) s.heap.objs.size f cdv)).units + (Den tbl n).room < cLine := by rw [den_room]; have := hr.un; omega
  have tk : Takes (cxOf (L2.CX P w) P w K mg base ["_law_script", "_law_tape_here", "_law_most", "_law_machine_here", "_law_turn"] "law" (defScope (top 34)) f cdv A outer s H E0) (fun cls d _ H => E0 cls d H) := takes_of rfl rfl rfl rfl
  unfold b_law
  refine jss_cons ?_ ?_
  · exact (js_setW (i := 1) nd rfl (by first | exact .inl rfl | exact .inr rfl) (je_call D.c__law_tape.cal hr tk rfl (ja_cons (je_name (pv 0)) ja_nil)))
  refine jss_cons ?_ ?_
  · refine js_if (jt_bool (jw_and (jt_cmp (os_eq hu) (je_call D.c__law_pick.cal hr tk rfl (ja_cons (je_name (pv 1)) (ja_cons je_int ja_nil))) je_int) (jw_and1 (jt_not (jt_truth (je_call D.c__law_long.cal hr tk rfl (ja_cons (je_name (pv 1)) ja_nil))))))) ?_ ?_
    · refine jss_one ?_
      exact (js_ret je_bl)
    exact jss_nil
  refine jss_cons ?_ ?_
  · exact (js_set (i := 2) nd rfl (by first | exact .inl rfl | exact .inr rfl) (je_if (jt_cmp (os_eq hu) (je_call D.c__law_pick.cal hr tk rfl (ja_cons (je_name (pv 1)) (ja_cons je_int ja_nil))) je_int) je_int je_int))
  refine jss_cons ?_ ?_
  · exact (js_set (i := 3) nd rfl (by first | exact .inl rfl | exact .inr rfl) (je_call D.c__law_machine.cal hr tk rfl (ja_cons (je_name (pv 1)) (ja_cons (je_name (pv 2)) ja_nil))))
  refine jss_cons ?_ ?_
  · refine js_if (jt_cmp os_isnot (je_call D.c_is_machine.cal hr tk rfl (ja_cons (je_name (pv 3)) ja_nil)) je_bl) ?_ ?_
    · refine jss_one ?_
      exact (js_ret je_bl)
    exact jss_nil
  refine jss_cons ?_ ?_
  · refine js_for (passes_of rfl) rfl (ji_range1 rfl E.h_range (jr_cons (je_blt (cs_max2 rfl) rfl E.h_max (by decide +kernel) (jr_cons je_int (jr_cons (je_blt (cs_min2 rfl) rfl E.h_min (by decide +kernel) (jr_cons je_int (jr_cons (je_blt cs_len rfl E.h_len boot_len (jr_cons (je_name (pv 0)) jr_nil)) jr_nil))) jr_nil))) jr_nil)) (jg_name (pg_name (i := 4) nd rfl (by first | exact .inl rfl | exact .inr rfl))) ?_
    refine jss_one ?_
    refine js_if (jt_not (jt_truth (je_call D.c__law_asked.cal hr tk rfl (ja_cons (je_name (pv 1)) (ja_cons (je_name (pv 3)) ja_nil))))) ?_ ?_
    · refine jss_one ?_
      exact (js_ret je_bl)
    exact jss_nil
  refine jss_one ?_
  exact (js_ret (je_call D.c__law_brought.cal hr tk rfl (ja_cons (je_name (pv 1)) ja_nil)))
theorem ok_law (E : Facts K w mg) (D : Defs P w K mg base n) : Dfn P w K mg base [] (Den tbl (n + 1)) (n + 1) "law" 23 := by
  obtain ⟨f, fd, hf, F⟩ := E.f_law
  exact ⟨f, fd, ["_law_script"], hf, F.kp, F.bindsN fun _ _ _ _ _ _ us hl => (match us, hl with | [_], _ => rfl), fo_law E D F⟩
theorem lvl (E : Facts K w mg) : ∀ n, Defs P w K mg base n
  | 0 => ⟨(by obtain ⟨f, fd, hf, F⟩ := E.f_is_integer; exact ⟨f, fd, ["thing"], hf, F.kp, F.bindsN fun _ _ _ _ _ _ us hl => (match us, hl with | [_], _ => rfl), def_zero⟩),
    (by obtain ⟨f, fd, hf, F⟩ := E.f_is_within; exact ⟨f, fd, ["thing", "least", "most"], hf, F.kp, F.bindsN fun _ _ _ _ _ _ us hl => (match us, hl with | [_, _, _], _ => rfl), def_zero⟩),
    (by obtain ⟨f, fd, hf, F⟩ := E.f_is_pair; exact ⟨f, fd, ["thing"], hf, F.kp, F.bindsN fun _ _ _ _ _ _ us hl => (match us, hl with | [_], _ => rfl), def_zero⟩),
    (by obtain ⟨f, fd, hf, F⟩ := E.f_check_count; exact ⟨f, fd, ["thing", "least", "most"], hf, F.kp, F.bindsN fun _ _ _ _ _ _ us hl => (match us, hl with | [_, _, _], _ => rfl), def_zero⟩),
    (by obtain ⟨f, fd, hf, F⟩ := E.f_is_instruction; exact ⟨f, fd, ["thing", "many"], hf, F.kp, F.bindsN fun _ _ _ _ _ _ us hl => (match us, hl with | [_, _], _ => rfl), def_zero⟩),
    (by obtain ⟨f, fd, hf, F⟩ := E.f_is_machine; exact ⟨f, fd, ["thing"], hf, F.kp, F.bindsN fun _ _ _ _ _ _ us hl => (match us, hl with | [_], _ => rfl), def_zero⟩),
    (by obtain ⟨f, fd, hf, F⟩ := E.f_is_standing; exact ⟨f, fd, ["machine", "thing"], hf, F.kp, F.bindsN fun _ _ _ _ _ _ us hl => (match us, hl with | [_, _], _ => rfl), def_zero⟩),
    (by obtain ⟨f, fd, hf, F⟩ := E.f_check_machine; exact ⟨f, fd, ["thing"], hf, F.kp, F.bindsN fun _ _ _ _ _ _ us hl => (match us, hl with | [_], _ => rfl), def_zero⟩),
    (by obtain ⟨f, fd, hf, F⟩ := E.f_check_both; exact ⟨f, fd, ["machine", "standing"], hf, F.kp, F.bindsN fun _ _ _ _ _ _ us hl => (match us, hl with | [_, _], _ => rfl), def_zero⟩),
    (by obtain ⟨f, fd, hf, F⟩ := E.f_behind_step; exact ⟨f, fd, ["machine", "standing"], hf, F.kp, F.bindsN fun _ _ _ _ _ _ us hl => (match us, hl with | [_, _], _ => rfl), def_zero⟩),
    (by obtain ⟨f, fd, hf, F⟩ := E.f_done; exact ⟨f, fd, ["machine", "standing", "steps"], hf, F.kp, F.bindsN fun _ _ _ _ _ _ us hl => (match us, hl with | [_, _, _], _ => rfl), def_zero⟩),
    (by obtain ⟨f, fd, hf, F⟩ := E.f__law_tape; exact ⟨f, fd, ["_law_script"], hf, F.kp, F.bindsN fun _ _ _ _ _ _ us hl => (match us, hl with | [_], _ => rfl), def_zero⟩),
    (by obtain ⟨f, fd, hf, F⟩ := E.f__law_pick; exact ⟨f, fd, ["_law_tape_here", "_law_many"], hf, F.kp, F.bindsN fun _ _ _ _ _ _ us hl => (match us, hl with | [_, _], _ => rfl), def_zero⟩),
    (by obtain ⟨f, fd, hf, F⟩ := E.f__law_machine; exact ⟨f, fd, ["_law_tape_here", "_law_most"], hf, F.kp, F.bindsN fun _ _ _ _ _ _ us hl => (match us, hl with | [_, _], _ => rfl), def_zero⟩),
    (by obtain ⟨f, fd, hf, F⟩ := E.f__law_standing; exact ⟨f, fd, ["_law_tape_here", "_law_machine_here", "_law_most"], hf, F.kp, F.bindsN fun _ _ _ _ _ _ us hl => (match us, hl with | [_, _, _], _ => rfl), def_zero⟩),
    (by obtain ⟨f, fd, hf, F⟩ := E.f__law_next; exact ⟨f, fd, ["_law_machine_here", "_law_standing_here"], hf, F.kp, F.bindsN fun _ _ _ _ _ _ us hl => (match us, hl with | [_, _], _ => rfl), def_zero⟩),
    (by obtain ⟨f, fd, hf, F⟩ := E.f__law_same; exact ⟨f, fd, ["_law_told", "_law_due"], hf, F.kp, F.bindsN fun _ _ _ _ _ _ us hl => (match us, hl with | [_, _], _ => rfl), def_zero⟩),
    (by obtain ⟨f, fd, hf, F⟩ := E.f__law_behind; exact ⟨f, fd, ["_law_machine_here", "_law_standing_here", "_law_steps"], hf, F.kp, F.bindsN fun _ _ _ _ _ _ us hl => (match us, hl with | [_, _, _], _ => rfl), def_zero⟩),
    (by obtain ⟨f, fd, hf, F⟩ := E.f__law_great; exact ⟨f, fd, ["_law_tape_here"], hf, F.kp, F.bindsN fun _ _ _ _ _ _ us hl => (match us, hl with | [_], _ => rfl), def_zero⟩),
    (by obtain ⟨f, fd, hf, F⟩ := E.f__law_asked; exact ⟨f, fd, ["_law_tape_here", "_law_machine_here"], hf, F.kp, F.bindsN fun _ _ _ _ _ _ us hl => (match us, hl with | [_, _], _ => rfl), def_zero⟩),
    (by obtain ⟨f, fd, hf, F⟩ := E.f__law_brought; exact ⟨f, fd, ["_law_tape_here"], hf, F.kp, F.bindsN fun _ _ _ _ _ _ us hl => (match us, hl with | [_], _ => rfl), def_zero⟩),
    (by obtain ⟨f, fd, hf, F⟩ := E.f__law_long; exact ⟨f, fd, ["_law_tape_here"], hf, F.kp, F.bindsN fun _ _ _ _ _ _ us hl => (match us, hl with | [_], _ => rfl), def_zero⟩),
    (by obtain ⟨f, fd, hf, F⟩ := E.f_law; exact ⟨f, fd, ["_law_script"], hf, F.kp, F.bindsN fun _ _ _ _ _ _ us hl => (match us, hl with | [_], _ => rfl), def_zero⟩)⟩
  | n + 1 => ⟨ok_is_integer E (lvl E n), ok_is_within E (lvl E n), ok_is_pair E (lvl E n), ok_check_count E (lvl E n), ok_is_instruction E (lvl E n), ok_is_machine E (lvl E n), ok_is_standing E (lvl E n), ok_check_machine E (lvl E n), ok_check_both E (lvl E n), ok_behind_step E (lvl E n), ok_done E (lvl E n), ok__law_tape E (lvl E n), ok__law_pick E (lvl E n), ok__law_machine E (lvl E n), ok__law_standing E (lvl E n), ok__law_next E (lvl E n), ok__law_same E (lvl E n), ok__law_behind E (lvl E n), ok__law_great E (lvl E n), ok__law_asked E (lvl E n), ok__law_brought E (lvl E n), ok__law_long E (lvl E n), ok_law E (lvl E n)⟩
end
end K83
end Dl
namespace Dl
namespace K83
open PySem PySem.Spec PyProof.Rows L2 NdefX
def Lv (k : Nat) (S : Cs → Prop) : Prop := ∀ n, k ≤ n → S (Den tbl n)
theorem Lv.mk {k : Nat} {S : Cs → Prop} (h : ∀ n, k ≤ n → S (Den tbl (n + 1))) : Lv (k + 1) S := fun n hn => by
  obtain ⟨m, rfl⟩ : ∃ m, n = m + 1 := ⟨n - 1, by omega⟩
  exact h m (by omega)
theorem cl {n i : Nat} {b : DefB} {args : List RV} {w : World} (h : tbl i = some b) : (Den tbl (n + 1)).call i args w = runB b (Den tbl n) args w := den_succ h
theorem v_int : Lv 1 SInt := Lv.mk (k := 0) fun n _ d w => (cl rfl).trans r_integer
theorem v_wit : Lv 2 SWit := Lv.mk fun n hn i l m w => (cl rfl).trans (r_within (v_int n hn))
theorem v_pair : Lv 1 SPair := Lv.mk (k := 0) fun n _ a b w => (cl rfl).trans r_pair
theorem v_count : Lv 3 SCount := Lv.mk fun n hn i l m w h1 h2 => (cl rfl).trans (r_count (v_wit n hn) h1 h2)
theorem v_ins : Lv 3 SIns := Lv.mk fun n hn x m w h => (cl rfl).trans (r_instruction (v_wit n hn) h)
theorem v_mach : Lv 4 SMach := Lv.mk fun n hn ms w h => (cl rfl).trans (r_machine (v_ins n hn) h)
theorem v_std : Lv 3 SStd := Lv.mk fun n hn ms s w h => (cl rfl).trans (r_standing (v_pair n (by omega)) (v_wit n hn) (v_int n (by omega)) h)
theorem v_chm : Lv 5 SChM := Lv.mk fun n hn ms w h => (cl rfl).trans (r_chm (v_mach n hn) h)
theorem v_chb : Lv 6 SChB := Lv.mk fun n hn ms s w h1 h2 => (cl rfl).trans (r_chb (v_chm n hn) (v_std n (by omega)) h1 h2)
theorem v_bst : Lv 1 SBst := Lv.mk (k := 0) fun n _ ms s s' w h1 h2 h3 => (cl rfl).trans (r_bstep h1 h2 h3)
theorem v_done : Lv 7 SDone := Lv.mk fun n hn ms s m w h1 h2 h3 => (cl rfl).trans (r_done (v_chb n hn) (v_count n (by omega)) (v_bst n (by omega)) h1 h2 h3)
theorem v_next : Lv 1 SNext := Lv.mk (k := 0) fun n _ ms s w h1 h2 => (cl rfl).trans (r_next h1 h2)
theorem v_beh : Lv 2 SBeh := Lv.mk fun n hn ms s m w h1 h2 h3 => (cl rfl).trans (r_beh (v_next n hn) h1 h2 h3)
theorem v_same : Lv 3 SSame := fun n hn s w h => by
  obtain ⟨m, rfl⟩ : ∃ m, n = m + 1 + 1 + 1 := ⟨n - 3, by omega⟩
  refine (cl rfl).trans (r_sameL (fun d hd w => ?_) (by simp))
  have si : ∀ (k : Nat) (i : Int) w, (Den tbl (k + 1)).call 12 [.dat (.int i), .dat (.int i)] w = .ok (.dat (.bl true)) w := fun k i w => (cl rfl).trans r_sameI
  rcases List.mem_cons.mp hd with z | z
  · subst z; exact si _ _ _
  · rw [List.mem_singleton.mp z]
    refine (cl rfl).trans (r_sameL (fun d hd w => ?_) (by simp [h]))
    obtain ⟨x, _, rfl⟩ := List.mem_map.mp hd
    exact si _ _ _
theorem v_tape : Lv 1 STape := Lv.mk (k := 0) fun n _ l w => (cl rfl).trans tape_run
theorem v_pick : Lv 1 SPick := Lv.mk (k := 0) fun n _ rest w m h1 h2 h3 => by
  obtain ⟨r, w', e, q⟩ := r_pick (C := Den tbl n) h1 h2 h3
  exact ⟨r, w', (cl rfl).trans e, q⟩
theorem v_great : Lv 2 SGreat := Lv.mk fun n hn rest w h => by
  obtain ⟨r, w', e, q⟩ := r_great (v_pick n hn) h
  exact ⟨r, w', (cl rfl).trans e, q⟩
theorem v_stand : Lv 2 SStand := Lv.mk fun n hn rest w ms h1 h2 => by
  obtain ⟨r, w', e, q⟩ := r_stand (v_pick n hn) h1 h2
  exact ⟨r, w', (cl rfl).trans e, q⟩
theorem v_make : Lv 2 SMake := Lv.mk fun n hn rest w ms h1 h2 => by
  obtain ⟨r, w', e, q⟩ := r_make (v_pick n hn) h1 h2
  exact ⟨r, w', (cl rfl).trans e, q⟩
theorem v_long : Lv 8 SLong := Lv.mk fun n hn rest w h => by
  obtain ⟨w', e, q⟩ := r_long (v_pick n (by omega)) (v_done n hn) (v_same n (by omega)) h
  exact ⟨w', (cl rfl).trans e, q⟩
theorem v_bro : Lv 8 SBro := Lv.mk fun n hn rest w h => by
  obtain ⟨w', e, q⟩ := r_bro (v_pick n (by omega)) (v_done n hn) (v_same n (by omega)) h
  exact ⟨w', (cl rfl).trans e, q⟩
theorem v_ask : Lv 8 SAsk := Lv.mk fun n hn rest w ms h1 h2 => by
  obtain ⟨w', e, q⟩ := r_ask (v_pick n (by omega)) (v_great n (by omega)) (v_stand n (by omega)) (v_done n hn) (v_beh n (by omega)) (v_same n (by omega)) h1 h2
  exact ⟨w', (cl rfl).trans e, q⟩
theorem law_true (ns : List Int) : ∃ w', (Den tbl 9).call 23 [.dat (.lst (ns.map .int))] [] = .ok (.dat (.bl true)) w' := by
  obtain ⟨w', e⟩ := r_law (v_tape 8 (by omega)) (v_pick 8 (by omega)) (v_long 8 (by omega)) (v_make 8 (by omega)) (v_mach 8 (by omega)) (v_ask 8 (by omega)) (v_bro 8 (by omega)) ns
  exact ⟨w', (cl rfl).trans e⟩
end K83
end Dl
namespace Dl
open PySem PySem.Spec PyProof.Rows L2 NdefX
namespace K83
def fnH : List He.DefD := [⟨("is_integer", none), "is_integer", "is_integer", defArgs (top 6), defBody (top 6), defScope (top 6), [], []⟩, ⟨("is_within", none), "is_within", "is_within", defArgs (top 7), defBody (top 7), defScope (top 7), [], []⟩, ⟨("is_pair", none), "is_pair", "is_pair", defArgs (top 8), defBody (top 8), defScope (top 8), [], []⟩, ⟨("check_count", none), "check_count", "check_count", defArgs (top 9), defBody (top 9), defScope (top 9), [], []⟩, ⟨("is_instruction", none), "is_instruction", "is_instruction", defArgs (top 15), defBody (top 15), defScope (top 15), [], []⟩, ⟨("is_machine", none), "is_machine", "is_machine", defArgs (top 16), defBody (top 16), defScope (top 16), [], []⟩, ⟨("is_standing", none), "is_standing", "is_standing", defArgs (top 17), defBody (top 17), defScope (top 17), [], []⟩, ⟨("check_machine", none), "check_machine", "check_machine", defArgs (top 18), defBody (top 18), defScope (top 18), [], []⟩, ⟨("check_both", none), "check_both", "check_both", defArgs (top 19), defBody (top 19), defScope (top 19), [], []⟩, ⟨("behind_step", none), "behind_step", "behind_step", defArgs (top 20), defBody (top 20), defScope (top 20), [], []⟩, ⟨("done", none), "done", "done", defArgs (top 21), defBody (top 21), defScope (top 21), [], []⟩, ⟨("_law_tape", none), "_law_tape", "_law_tape", defArgs (top 23), defBody (top 23), defScope (top 23), [], []⟩, ⟨("_law_pick", none), "_law_pick", "_law_pick", defArgs (top 24), defBody (top 24), defScope (top 24), [], []⟩, ⟨("_law_machine", none), "_law_machine", "_law_machine", defArgs (top 25), defBody (top 25), defScope (top 25), [], []⟩, ⟨("_law_standing", none), "_law_standing", "_law_standing", defArgs (top 26), defBody (top 26), defScope (top 26), [], []⟩, ⟨("_law_next", none), "_law_next", "_law_next", defArgs (top 27), defBody (top 27), defScope (top 27), [], []⟩, ⟨("_law_same", none), "_law_same", "_law_same", defArgs (top 28), defBody (top 28), defScope (top 28), [], []⟩, ⟨("_law_behind", none), "_law_behind", "_law_behind", defArgs (top 29), defBody (top 29), defScope (top 29), [], []⟩, ⟨("_law_great", none), "_law_great", "_law_great", defArgs (top 30), defBody (top 30), defScope (top 30), [], []⟩, ⟨("_law_asked", none), "_law_asked", "_law_asked", defArgs (top 31), defBody (top 31), defScope (top 31), [], []⟩, ⟨("_law_brought", none), "_law_brought", "_law_brought", defArgs (top 32), defBody (top 32), defScope (top 32), [], []⟩, ⟨("_law_long", none), "_law_long", "_law_long", defArgs (top 33), defBody (top 33), defScope (top 33), [], []⟩, ⟨("law", none), "law", "law", defArgs (top 34), defBody (top 34), defScope (top 34), [], []⟩]
def faH : List He.Fa := [.glo "is_integer", .glo "is_within", .glo "is_pair", .glo "check_count", .glo "is_instruction", .glo "is_machine", .glo "is_standing", .glo "check_machine", .glo "check_both", .glo "behind_step", .glo "done", .glo "_law_tape", .glo "_law_pick", .glo "_law_machine", .glo "_law_standing", .glo "_law_next", .glo "_law_same", .glo "_law_behind", .glo "_law_great", .glo "_law_asked", .glo "_law_brought", .glo "_law_long", .glo "law", .free "all", .free "bool", .free "int", .free "isinstance", .free "len", .free "list", .free "max", .free "min", .free "range", .free "str", .free "tuple", .str "REGISTERS" "mnop", .int "MOST_INSTRUCTIONS" 12, .int "MOST_STEPS" 100000, .glo "LENGTHS"]
def tsH : List He.Tab := [(fun K => He.ga K "LENGTHS", ["halt", "up", "down"])]
def kv_LENGTHS : List (Str × He.Dv) := [("halt", .int 1), ("up", .int 3), ("down", .int 4)]
def exH (K : PySem.W.Frag) : Bool := He.valsB K (He.ga K "LENGTHS") kv_LENGTHS
abbrev R : PySem.W.OpenRow := PySem.W.OpenLaw.row PySem.Challenge.rw_sealedplans_k83_whole_steps_done_by_own
abbrev hkH : PySem.W.Hook := hookX 4 faH fnH tsH exH
def obH (s : PySem.W.SharedT) : AlX := obsXG 4 faH fnH tsH exH (HandSHeadRun.getT s)
theorem obH_eq (s : PySem.W.SharedT) : obH s = hkH.obs s.abs := obsXG_eq (HandSHeadRun.getT_eq s)
def loose0 : List Str := ["PlanError", "NoCount", "NoMachine", "NoStanding", "is_integer", "is_within", "is_pair", "check_count", "REGISTERS", "MOST_INSTRUCTIONS", "MOST_STEPS", "LENGTHS", "is_instruction", "is_machine", "is_standing", "check_machine", "check_both", "behind_step", "done", "_law_tape", "_law_pick", "_law_machine", "_law_standing", "_law_next", "_law_same", "_law_behind", "_law_great", "_law_asked", "_law_brought", "_law_long"]
abbrev looseH : List Str := loose0
theorem runH (w : PySem.World) : HandSHeadRun.RunEq R (PySem.W.view R.prog [34]) hkH obH 6000 looseH w := by
  refine PySem.W.byRow2 "special-get-raises" (P := fun w => HandSHeadRun.RunEq R (PySem.W.view R.prog [34]) hkH obH 6000 looseH w) (fun w => ?_) (fun w => ?_) w
  · intro os
    kernel_rfl
  · intro os
    kernel_rfl
theorem factsH {w : PySem.World} {K : PySem.W.Frag} {h : Heap} {mg : Str → Option Value} (X : K.In h) (G : h.Ns mainGlobals mg) (c : SaysX faH fnH tsH exH w K) : Facts K w mg where
  f_is_integer := by obtain ⟨fd, F⟩ := c.t.d.def_ 0 (d := ⟨("is_integer", none), "is_integer", "is_integer", defArgs (top 6), defBody (top 6), defScope (top 6), [], []⟩) rfl; exact ⟨_, fd, He.glo_ok X G (c.t.d.fact 0 (f := .glo "is_integer") rfl), F⟩
  f_is_within := by obtain ⟨fd, F⟩ := c.t.d.def_ 1 (d := ⟨("is_within", none), "is_within", "is_within", defArgs (top 7), defBody (top 7), defScope (top 7), [], []⟩) rfl; exact ⟨_, fd, He.glo_ok X G (c.t.d.fact 1 (f := .glo "is_within") rfl), F⟩
  f_is_pair := by obtain ⟨fd, F⟩ := c.t.d.def_ 2 (d := ⟨("is_pair", none), "is_pair", "is_pair", defArgs (top 8), defBody (top 8), defScope (top 8), [], []⟩) rfl; exact ⟨_, fd, He.glo_ok X G (c.t.d.fact 2 (f := .glo "is_pair") rfl), F⟩
  f_check_count := by obtain ⟨fd, F⟩ := c.t.d.def_ 3 (d := ⟨("check_count", none), "check_count", "check_count", defArgs (top 9), defBody (top 9), defScope (top 9), [], []⟩) rfl; exact ⟨_, fd, He.glo_ok X G (c.t.d.fact 3 (f := .glo "check_count") rfl), F⟩
  f_is_instruction := by obtain ⟨fd, F⟩ := c.t.d.def_ 4 (d := ⟨("is_instruction", none), "is_instruction", "is_instruction", defArgs (top 15), defBody (top 15), defScope (top 15), [], []⟩) rfl; exact ⟨_, fd, He.glo_ok X G (c.t.d.fact 4 (f := .glo "is_instruction") rfl), F⟩
  f_is_machine := by obtain ⟨fd, F⟩ := c.t.d.def_ 5 (d := ⟨("is_machine", none), "is_machine", "is_machine", defArgs (top 16), defBody (top 16), defScope (top 16), [], []⟩) rfl; exact ⟨_, fd, He.glo_ok X G (c.t.d.fact 5 (f := .glo "is_machine") rfl), F⟩
  f_is_standing := by obtain ⟨fd, F⟩ := c.t.d.def_ 6 (d := ⟨("is_standing", none), "is_standing", "is_standing", defArgs (top 17), defBody (top 17), defScope (top 17), [], []⟩) rfl; exact ⟨_, fd, He.glo_ok X G (c.t.d.fact 6 (f := .glo "is_standing") rfl), F⟩
  f_check_machine := by obtain ⟨fd, F⟩ := c.t.d.def_ 7 (d := ⟨("check_machine", none), "check_machine", "check_machine", defArgs (top 18), defBody (top 18), defScope (top 18), [], []⟩) rfl; exact ⟨_, fd, He.glo_ok X G (c.t.d.fact 7 (f := .glo "check_machine") rfl), F⟩
  f_check_both := by obtain ⟨fd, F⟩ := c.t.d.def_ 8 (d := ⟨("check_both", none), "check_both", "check_both", defArgs (top 19), defBody (top 19), defScope (top 19), [], []⟩) rfl; exact ⟨_, fd, He.glo_ok X G (c.t.d.fact 8 (f := .glo "check_both") rfl), F⟩
  f_behind_step := by obtain ⟨fd, F⟩ := c.t.d.def_ 9 (d := ⟨("behind_step", none), "behind_step", "behind_step", defArgs (top 20), defBody (top 20), defScope (top 20), [], []⟩) rfl; exact ⟨_, fd, He.glo_ok X G (c.t.d.fact 9 (f := .glo "behind_step") rfl), F⟩
  f_done := by obtain ⟨fd, F⟩ := c.t.d.def_ 10 (d := ⟨("done", none), "done", "done", defArgs (top 21), defBody (top 21), defScope (top 21), [], []⟩) rfl; exact ⟨_, fd, He.glo_ok X G (c.t.d.fact 10 (f := .glo "done") rfl), F⟩
  f__law_tape := by obtain ⟨fd, F⟩ := c.t.d.def_ 11 (d := ⟨("_law_tape", none), "_law_tape", "_law_tape", defArgs (top 23), defBody (top 23), defScope (top 23), [], []⟩) rfl; exact ⟨_, fd, He.glo_ok X G (c.t.d.fact 11 (f := .glo "_law_tape") rfl), F⟩
  f__law_pick := by obtain ⟨fd, F⟩ := c.t.d.def_ 12 (d := ⟨("_law_pick", none), "_law_pick", "_law_pick", defArgs (top 24), defBody (top 24), defScope (top 24), [], []⟩) rfl; exact ⟨_, fd, He.glo_ok X G (c.t.d.fact 12 (f := .glo "_law_pick") rfl), F⟩
  f__law_machine := by obtain ⟨fd, F⟩ := c.t.d.def_ 13 (d := ⟨("_law_machine", none), "_law_machine", "_law_machine", defArgs (top 25), defBody (top 25), defScope (top 25), [], []⟩) rfl; exact ⟨_, fd, He.glo_ok X G (c.t.d.fact 13 (f := .glo "_law_machine") rfl), F⟩
  f__law_standing := by obtain ⟨fd, F⟩ := c.t.d.def_ 14 (d := ⟨("_law_standing", none), "_law_standing", "_law_standing", defArgs (top 26), defBody (top 26), defScope (top 26), [], []⟩) rfl; exact ⟨_, fd, He.glo_ok X G (c.t.d.fact 14 (f := .glo "_law_standing") rfl), F⟩
  f__law_next := by obtain ⟨fd, F⟩ := c.t.d.def_ 15 (d := ⟨("_law_next", none), "_law_next", "_law_next", defArgs (top 27), defBody (top 27), defScope (top 27), [], []⟩) rfl; exact ⟨_, fd, He.glo_ok X G (c.t.d.fact 15 (f := .glo "_law_next") rfl), F⟩
  f__law_same := by obtain ⟨fd, F⟩ := c.t.d.def_ 16 (d := ⟨("_law_same", none), "_law_same", "_law_same", defArgs (top 28), defBody (top 28), defScope (top 28), [], []⟩) rfl; exact ⟨_, fd, He.glo_ok X G (c.t.d.fact 16 (f := .glo "_law_same") rfl), F⟩
  f__law_behind := by obtain ⟨fd, F⟩ := c.t.d.def_ 17 (d := ⟨("_law_behind", none), "_law_behind", "_law_behind", defArgs (top 29), defBody (top 29), defScope (top 29), [], []⟩) rfl; exact ⟨_, fd, He.glo_ok X G (c.t.d.fact 17 (f := .glo "_law_behind") rfl), F⟩
  f__law_great := by obtain ⟨fd, F⟩ := c.t.d.def_ 18 (d := ⟨("_law_great", none), "_law_great", "_law_great", defArgs (top 30), defBody (top 30), defScope (top 30), [], []⟩) rfl; exact ⟨_, fd, He.glo_ok X G (c.t.d.fact 18 (f := .glo "_law_great") rfl), F⟩
  f__law_asked := by obtain ⟨fd, F⟩ := c.t.d.def_ 19 (d := ⟨("_law_asked", none), "_law_asked", "_law_asked", defArgs (top 31), defBody (top 31), defScope (top 31), [], []⟩) rfl; exact ⟨_, fd, He.glo_ok X G (c.t.d.fact 19 (f := .glo "_law_asked") rfl), F⟩
  f__law_brought := by obtain ⟨fd, F⟩ := c.t.d.def_ 20 (d := ⟨("_law_brought", none), "_law_brought", "_law_brought", defArgs (top 32), defBody (top 32), defScope (top 32), [], []⟩) rfl; exact ⟨_, fd, He.glo_ok X G (c.t.d.fact 20 (f := .glo "_law_brought") rfl), F⟩
  f__law_long := by obtain ⟨fd, F⟩ := c.t.d.def_ 21 (d := ⟨("_law_long", none), "_law_long", "_law_long", defArgs (top 33), defBody (top 33), defScope (top 33), [], []⟩) rfl; exact ⟨_, fd, He.glo_ok X G (c.t.d.fact 21 (f := .glo "_law_long") rfl), F⟩
  f_law := by obtain ⟨fd, F⟩ := c.t.d.def_ 22 (d := ⟨("law", none), "law", "law", defArgs (top 34), defBody (top 34), defScope (top 34), [], []⟩) rfl; exact ⟨_, fd, He.glo_ok X G (c.t.d.fact 22 (f := .glo "law") rfl), F⟩
  h_all := He.free_ok X G (c.t.d.fact 23 (f := .free "all") rfl)
  h_bool := He.free_ok X G (c.t.d.fact 24 (f := .free "bool") rfl)
  h_int := He.free_ok X G (c.t.d.fact 25 (f := .free "int") rfl)
  h_isinstance := He.free_ok X G (c.t.d.fact 26 (f := .free "isinstance") rfl)
  h_len := He.free_ok X G (c.t.d.fact 27 (f := .free "len") rfl)
  h_list := He.free_ok X G (c.t.d.fact 28 (f := .free "list") rfl)
  h_max := He.free_ok X G (c.t.d.fact 29 (f := .free "max") rfl)
  h_min := He.free_ok X G (c.t.d.fact 30 (f := .free "min") rfl)
  h_range := He.free_ok X G (c.t.d.fact 31 (f := .free "range") rfl)
  h_str := He.free_ok X G (c.t.d.fact 32 (f := .free "str") rfl)
  h_tuple := He.free_ok X G (c.t.d.fact 33 (f := .free "tuple") rfl)
  k_REGISTERS := He.str_ok X G (c.t.d.fact 34 (f := .str "REGISTERS" "mnop") rfl)
  k_MOST_INSTRUCTIONS := He.int_ok X G (c.t.d.fact 35 (f := .int "MOST_INSTRUCTIONS" 12) rfl)
  k_MOST_STEPS := He.int_ok X G (c.t.d.fact 36 (f := .int "MOST_STEPS" 100000) rfl)
  d_LENGTHS := by obtain ⟨es, n, kd⟩ := c.t.tab 0 (t := (fun K => He.ga K "LENGTHS", ["halt", "up", "down"])) rfl; exact tabAt_of X G (c.t.d.fact 37 (f := .glo "LENGTHS") rfl) kd (kvs := kv_LENGTHS) (by have e := c.x; simp only [exH, Bool.and_eq_true] at e; first | exact e | (repeat (first | exact e.2 | exact e.1 | (replace e := e.1)))) rfl
end K83
end Dl
open PySem PySem.W PySem.Calls PyProof.Rows
theorem PySem.Challenge.cw_sealedplans_k83_whole_steps_done_by_own_holds : PySem.Challenge.rw_sealedplans_k83_whole_steps_done_by_own.Holds := by
  w_on; o_law
  refine HandSHeadRun.head_any (r := OpenLaw.row PySem.Challenge.rw_sealedplans_k83_whole_steps_done_by_own) (q := view (OpenLaw.row PySem.Challenge.rw_sealedplans_k83_whole_steps_done_by_own).prog [34]) (H := Dl.K83.hkH) (ob := Dl.K83.obH) (M := 6000) (loose := Dl.K83.looseH) (d := HandSHeadRun.topDef (OpenLaw.row PySem.Challenge.rw_sealedplans_k83_whole_steps_done_by_own).prog 34) (kwd := []) Dl.K83.obH_eq
    (by kernel_rfl) (fun s => by kernel_rfl) Dl.K83.runH (by kernel_rfl) (by kernel_rfl) (by kernel_rfl) (by rfl) (by first | assumption | decide +kernel) (by decide +kernel) ⟨rfl, rfl, rfl, rfl, rfl, by decide +kernel⟩ ?hw ?hc
  case hw => w_witness2
  case hc =>
    refine Dl.walk_ofW (l := PySem.Challenge.rw_sealedplans_k83_whole_steps_done_by_own) (n := 63) (k := 9) (x := "_law_script") rfl (by decide) (by kernel_rfl) ⟨rfl, by decide, by decide⟩ ?F
    intro w mg fa h Y G hmg0
    obtain ⟨K, KX, c⟩ := Y
    have hmg : mg ("law" : PySem.Str) = some (.ref fa) := by
      have e : (HandSHeadRun.topDef (OpenLaw.row PySem.Challenge.rw_sealedplans_k83_whole_steps_done_by_own).prog 34).name = ("law" : PySem.Str) := by kernel_rfl
      rw [← e]
      exact hmg0
    have E := Dl.K83.factsH KX G c
    obtain ⟨f, fd, hf, F⟩ := E.f_law
    have ef : f = fa := by
      have z := hf.symm.trans hmg
      injection z with z
      injection z with z
    subst ef
    have b := L2.FunD.bindsA (ps := ["_law_script"]) F fun _ _ _ _ _ _ us hl => match us, hl with | [_], _ => rfl
    refine ⟨K, fd, Dl.spD ⟨K, mg, []⟩ ((Dl.Den Dl.K83.tbl 9).call 23), KX, fun s v => b s [v] rfl, fun H a ns hl hO hS => ?_, fun base _ _ => ?_⟩
    · obtain ⟨w', e⟩ := Dl.K83.law_true ns
      exact Dl.law_sp hO hS (Nat.le_trans hl (by decide)) e
    · exact Dl.K83.fo_law (P := (PySem.Challenge.rw_sealedplans_k83_whole_steps_done_by_own).prog) (base := base) E (Dl.K83.lvl E 8) F
