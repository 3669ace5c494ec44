import PyProof.Rows.All
import Wide.All
import OpenK.AllK
import Wide.FinOn
import HandS.ForMost
import HandS.ForExc
import HandS.Nested
import HandS.IsInst
import HandS.Flow
import HandS.Style
import HandS.TupAny
import HandS.Wide
import HandS.Defaults
import KE.DataCmp
import HandS.HeadEnd
import HandS.HeadHook3
import HandS.Comp
import HandS.Iter
import HandS.List
import HandS.DictComp
import HandS.Conv
import HandS.HeadHook4
import HandS.HeadWalk
import HandS.Head0
import HandS.Head1
import HandS.Head2
import HandS.HeadHook1
import HandS.HeadHook2
import PySem.Challenge.RW_sealedplans_k27_whole_steps_by_own_rules
set_option Elab.async false
set_option linter.all false
set_option maxRecDepth 100000
set_option maxHeartbeats 4000000
/-! DlA: plain data, worlds, the relations between the abstract state and the hand layer's heap. -/
namespace Dl
abbrev St := L2.St
open PySem PySem.Spec PyProof.Rows L2 NdefX
/-! ### data -/
inductive D where
  | non | bl (b : Bool) | int (i : Int) | str (s : Str) | lst (l : List D) | tup (l : List D)
mutual
def D.py : D → PyData
  | .non => .none
  | .bl b => .bool b
  | .int i => .int i
  | .str s => .str s
  | .lst l => .list (D.pyAll l)
  | .tup l => .tuple (D.pyAll l)
def D.pyAll : List D → List PyData
  | [] => []
  | d :: l => d.py :: D.pyAll l
end
/-- what stands in a slot, what an expression gives -/
inductive RV where
  | dat (d : D) | fresh (l : List D) | bor (i : Nat) (l : List D) | wref (k : Nat)
inductive Sl where
  | un | dat (d : D) | own (l : List D) | wref (k : Nat)
/-- the objects that are changed through references -/
inductive WO where
  | lst (l : List D) | clo (i : Nat) (caps : List D)
abbrev World := List WO
abbrev Ev := List Sl
structure Exn where
  cls : Str
  fld : Option (Str × D)
inductive Out (α : Type) where
  | ok (a : α) (w : World) | exc (x : Exn) (env : Ev) (w : World) | stuck
def Out.bind {α β : Type} (o : Out α) (f : α → World → Out β) : Out β := match o with
  | .ok a w => f a w
  | .exc x e w => .exc x e w
  | .stuck => .stuck
@[simp] theorem bind_ok {α β : Type} (a : α) (w : World) (f : α → World → Out β) : (Out.ok a w).bind f = f a w := rfl
@[simp] theorem bind_exc {α β : Type} (x : Exn) (e : Ev) (w : World) (f : α → World → Out β) : (Out.exc x e w : Out α).bind f = .exc x e w := rfl
@[simp] theorem bind_stuck {α β : Type} (f : α → World → Out β) : (Out.stuck : Out α).bind f = .stuck := rfl
theorem bind_assoc {α β γ : Type} (o : Out α) (f : α → World → Out β) (g : β → World → Out γ) : (o.bind f).bind g = o.bind fun a w => (f a w).bind g := by cases o <;> rfl
abbrev Ex := Ev → World → Out RV
/-! ### how data lie in the heap -/
def SOk (s : Str) : Prop := PyData.strOk s = true ∧ s.length ≤ sizeLine
inductive Rp (K : PySem.W.Frag) (F : Hp) : V → D → Prop
  | non : Rp K F .non .non
  | bl (b : Bool) : Rp K F (.bl b) (.bl b)
  | int (i : Int) : Rp K F (.int i) (.int i)
  | str (s : Str) (h : SOk s) : Rp K F (.str s) (.str s)
  | lst {a : Addr} {vs : List V} {l : List D} (hz : l.length ≤ sizeLine) : SqL K F a vs → Paired (Rp K F) vs l → Rp K F (.ref a) (.lst l)
  | tup {a : Addr} {vs : List V} {l : List D} (hz : l.length ≤ sizeLine) : SqT K F a vs → Paired (Rp K F) vs l → Rp K F (.ref a) (.tup l)
theorem rd_mono {H H' : Hp} {a : Addr} {u : HO} (e : Same H H') (h : Rd H a u) : Rd H' a u := by
  rcases h with h | ⟨o, h⟩
  · exact .inl (e _ _ h)
  · exact .inr ⟨o, e _ _ h⟩
theorem sqT_mono {K : PySem.W.Frag} {H H' : Hp} {a : Addr} {xs : List V} (e : Same H H') (h : SqT K H a xs) : SqT K H' a xs := by
  rcases h with (h | ⟨o, h⟩) | h
  · exact .inl (.inl (e _ _ h))
  · exact .inl (.inr ⟨o, e _ _ h⟩)
  · exact .inr h
mutual
theorem Rp.mono {K : PySem.W.Frag} {F F' : Hp} (e : Same F F') : ∀ (d : D) (v : V), Rp K F v d → Rp K F' v d
  | .non, _, h => by cases h; exact .non
  | .bl b, _, h => by cases h; exact .bl b
  | .int i, _, h => by cases h; exact .int i
  | .str s, _, h => by cases h with | str _ q => exact .str s q
  | .lst l, _, h => by
    cases h with
    | lst hz hs hp => exact .lst hz (e.seq hs) (Rp.monoAll e l _ hp)
  | .tup l, _, h => by
    cases h with
    | tup hz hs hp => exact .tup hz (sqT_mono e hs) (Rp.monoAll e l _ hp)
theorem Rp.monoAll {K : PySem.W.Frag} {F F' : Hp} (e : Same F F') : ∀ (l : List D) (vs : List V), Paired (Rp K F) vs l → Paired (Rp K F') vs l
  | [], _, h => by cases h; exact .nil
  | d :: l, _, h => by
    cases h with
    | cons h1 h2 => exact .cons (Rp.mono e d _ h1) (Rp.monoAll e l _ h2)
end
mutual
theorem Rp.dp {K : PySem.W.Frag} {F : Hp} : ∀ (d : D) (v : V), Rp K F v d → Dp K F v d.py
  | .non, _, h => by cases h; exact .non
  | .bl b, _, h => by cases h; exact .bl b
  | .int i, _, h => by cases h; exact .int i
  | .str s, _, h => by cases h; exact .str s
  | .lst l, _, h => by
    cases h with
    | lst hz hs hp => exact .lst hs (Rp.dpAll l _ hp)
  | .tup l, _, h => by
    cases h with
    | tup hz hs hp => exact .tup hs (Rp.dpAll l _ hp)
theorem Rp.dpAll {K : PySem.W.Frag} {F : Hp} : ∀ (l : List D) (vs : List V), Paired (Rp K F) vs l → DpAll K F vs (D.pyAll l)
  | [], _, h => by cases h; exact .nil
  | d :: l, _, h => by
    cases h with
    | cons h1 h2 => exact .cons (Rp.dp d _ h1) (Rp.dpAll l _ h2)
end
mutual
theorem Rp.lay {K : PySem.W.Frag} {F : Hp} : ∀ (d : D) (v : V), Rp K F v d → PyData.canLay0 d.py = true
  | .non, _, _ => rfl
  | .bl _, _, _ => rfl
  | .int _, _, _ => rfl
  | .str _, _, h => by cases h with | str _ q => exact q.1
  | .lst l, _, h => by
    cases h with
    | lst hz hs hp => exact Rp.layAll l _ hp
  | .tup l, _, h => by
    cases h with
    | tup hz hs hp => exact Rp.layAll l _ hp
theorem Rp.layAll {K : PySem.W.Frag} {F : Hp} : ∀ (l : List D) (vs : List V), Paired (Rp K F) vs l → PyData.canLayAll0 (D.pyAll l) = true
  | [], _, _ => rfl
  | d :: l, _, h => by
    cases h with
    | cons h1 h2 =>
      show (PyData.canLay0 d.py && PyData.canLayAll0 (D.pyAll l)) = true
      rw [Rp.lay d _ h1, Rp.layAll l _ h2]
      rfl
end
namespace Pr
variable {α β : Type} {F : α → β → Prop}
theorem get : ∀ {l₁ : List α} {l₂ : List β} {i : Nat} {b : β}, Paired F l₁ l₂ → l₂[i]? = some b → ∃ a, l₁[i]? = some a ∧ F a b
  | _, _, _, _, .nil, e => by simp at e
  | _, _, 0, _, .cons r _, e => by simp at e; subst e; exact ⟨_, rfl, r⟩
  | _, _, i + 1, b, .cons _ t, e => by
    obtain ⟨u, h1, h2⟩ := get (i := i) (b := b) t (by simpa using e)
    exact ⟨u, by simpa using h1, h2⟩
theorem getL : ∀ {l₁ : List α} {l₂ : List β} {i : Nat} {a : α}, Paired F l₁ l₂ → l₁[i]? = some a → ∃ b, l₂[i]? = some b ∧ F a b
  | _, _, _, _, .nil, e => by simp at e
  | _, _, 0, _, .cons r _, e => by simp at e; subst e; exact ⟨_, rfl, r⟩
  | _, _, i + 1, b, .cons _ t, e => by
    obtain ⟨u, h1, h2⟩ := getL (i := i) (a := b) t (by simpa using e)
    exact ⟨u, by simpa using h1, h2⟩
theorem append : ∀ {xs ys : List α} {us ws : List β}, Paired F xs us → Paired F ys ws → Paired F (xs ++ ys) (us ++ ws)
  | _, _, _, _, .nil, s => s
  | _, _, _, _, .cons r t, s => .cons r (append t s)
theorem take : ∀ {xs : List α} {us : List β} (n : Nat), Paired F xs us → Paired F (xs.take n) (us.take n)
  | _, _, 0, _ => .nil
  | _, _, _ + 1, .nil => .nil
  | _, _, n + 1, .cons r t => .cons r (take n t)
theorem drop : ∀ {xs : List α} {us : List β} (n : Nat), Paired F xs us → Paired F (xs.drop n) (us.drop n)
  | _, _, 0, r => r
  | _, _, _ + 1, .nil => .nil
  | _, _, n + 1, .cons _ t => drop n t
theorem set {x : α} {u : β} (r : F x u) : ∀ {xs : List α} {us : List β} (i : Nat), Paired F xs us → Paired F (xs.set i x) (us.set i u)
  | _, _, _, .nil => .nil
  | _, _, 0, .cons _ t => .cons r t
  | _, _, i + 1, .cons q t => .cons q (set r i t)
end Pr
/-- a def or a lambda within a def: ps its parameters, fr what it captures -/
structure ND where
  name : Str
  qual : Str
  params : Arguments
  body : List Stmt ⊕ Expr
  scope : Scope
  ps : List Str
  fr : List Str
/-- the tables of code objects, the defs within defs -/
structure Tbs where
  tabs : List NTab
  nd : Nat → Option ND
/-- the text: what the top has written, tables -/
structure Tx where
  K : PySem.W.Frag
  mg : Str → Option Value
  T : Tbs
/-- a cell's object, as it is -/
def CellO (c : Addr) (o : Obj) : HO := .ext fun h => h.get? c = some o
/-- a lambda's object -/
def LamO (f : Addr) (nd : ND) (e : Expr) (cl : List (Str × Addr)) (c' : Addr) : HO := .ext fun h => ∃ pm ctv : Value, h.get? f = some (PySem.W.kla_obj nd.name nd.qual nd.params e nd.scope cl pm c' ctv)
def ND.nf (nd : ND) (b : List Stmt) (cl : List (Str × Addr)) (c' : Addr) : NF := ⟨nd.name, nd.qual, nd.params, b, nd.scope, cl, c'⟩
def CloO (f : Addr) (nd : ND) (cl : List (Str × Addr)) (c' : Addr) : HO := match nd.body with
  | .inl b => FnO f (nd.nf b cl c')
  | .inr e => LamO f nd e cl c'
theorem cloO_ext (f : Addr) (nd : ND) (cl : List (Str × Addr)) (c' : Addr) : ∃ φ, CloO f nd cl c' = .ext φ := by
  unfold CloO
  split
  · exact ⟨_, rfl⟩
  · exact ⟨_, rfl⟩
/-- a closure's cells and what stands in them -/
structure CapA (K : PySem.W.Frag) (F H : Hp) (cl : List (Str × Addr)) (fr : List Str) (caps : List D) : Prop where
  len : caps.length = fr.length
  keys : ∀ y c, cl.lookup y = some c → y ∈ fr
  inj : ∀ x y c, cl.lookup x = some c → cl.lookup y = some c → x = y
  at_ : ∀ (j : Nat) (y : Str) (d : D), fr[j]? = some y → caps[j]? = some d → ∃ c o u v, cl.lookup y = some c ∧ F c = none ∧ H c = some (CellO c o) ∧ o.data = .cell (some u) ∧ RelV v u ∧ Rp K F v d
structure CloAt (X : Tx) (F H : Hp) (m : Addr) (i : Nat) (caps : List D) : Prop where
  ex : ∃ (nd : ND) (cl : List (Str × Addr)) (c' : Addr), X.T.nd i = some nd ∧ H m = some (CloO m nd cl c') ∧ H c' = some (LamX.CodeO c' nd.qual) ∧ CapA X.K F H cl nd.fr caps
/-- what is known of one object alone stays -/
def KeepE (H H' : Hp) : Prop := ∀ a φ, H a = some (.ext φ) → H' a = some (.ext φ)
theorem KeepE.of (h : Same H H') : KeepE H H' := fun a φ e => h a _ e
theorem keepE_upd {H : Hp} {p : Addr} {vs ws : List V} (e : H p = some (.lst vs)) : KeepE H (upd H p (.lst ws)) := fun a φ q => by
  rw [upd_ne (fun z => by rw [z, e] at q; cases q)]
  exact q
theorem CloAt.keep {X : Tx} {F F' H H' : Hp} {m : Addr} {i : Nat} {caps : List D} (h : CloAt X F H m i caps) (k : KeepE H H') (f : Same F F') (nf : ∀ a, H a ≠ none → F a = none → F' a = none) : CloAt X F' H' m i caps := by
  obtain ⟨nd, cl, c', e1, e2, e3, cp⟩ := h.ex
  obtain ⟨φ, eφ⟩ := cloO_ext m nd cl c'
  refine ⟨nd, cl, c', e1, by rw [eφ]; exact k _ _ (by rw [← eφ]; exact e2), k _ _ e3, cp.len, cp.keys, cp.inj, fun j y d h1 h2 => ?_⟩
  obtain ⟨c, o, u, v, q1, q0, q2, q3, q4, q5⟩ := cp.at_ j y d h1 h2
  exact ⟨c, o, u, v, q1, nf c (by rw [q2]; simp) q0, k _ _ q2, q3, q4, q5.mono f⟩
theorem CloAt.keep' {X : Tx} {F F' H : Hp} {m : Addr} {i : Nat} {caps : List D} (h : CloAt X F H m i caps) (f : Same F F') (nf : ∀ c o, H c = some (CellO c o) → F' c = F c) : CloAt X F' H m i caps := by
  obtain ⟨nd, cl, c', e1, e2, e3, cp⟩ := h.ex
  refine ⟨nd, cl, c', e1, e2, e3, cp.len, cp.keys, cp.inj, fun j y d h1 h2 => ?_⟩
  obtain ⟨c, o, u, v, q1, q0, q2, q3, q4, q5⟩ := cp.at_ j y d h1 h2
  exact ⟨c, o, u, v, q1, by rw [nf c o q2]; exact q0, q2, q3, q4, q5.mono f⟩
theorem CloAt.there {X : Tx} {F H : Hp} {m : Addr} {i : Nat} {caps : List D} (h : CloAt X F H m i caps) : H m ≠ none := by
  obtain ⟨nd, cl, c', e1, e2, e3, cp⟩ := h.ex
  rw [e2]
  simp
def WO.isAt (X : Tx) (F H : Hp) (m : Addr) : WO → Prop
  | .lst l => l.length ≤ sizeLine ∧ ∃ vs, H m = some (.lst vs) ∧ Paired (Rp X.K F) vs l
  | .clo i caps => CloAt X F H m i caps
structure WRel (X : Tx) (F H : Hp) (M : List Addr) (w : World) : Prop where
  nd : M.Nodup
  at_ : Paired (fun m o => F m = none ∧ WO.isAt X F H m o) M w
def IsE (o : HO) : Prop := ∃ φ, o = .ext φ
def NoTbl (F : Hp) : Prop := ∀ a ps, F a ≠ some (.tbl ps)
/-- what happens between two moments: frozen things stay, all stays but the world's objects and the code tables; frozen new things were not there; the world grows by new objects -/
structure Stp (H F : Hp) (M : List Addr) (H' F' : Hp) (M' : List Addr) : Prop where
  fg : Same F F'
  fr : ∀ a o, (a ∈ M → IsE o) → (∀ ps, o ≠ .tbl ps) → H a = some o → H' a = some o
  th : ∀ a, H a ≠ none → H' a ≠ none
  nf : ∀ a, H a ≠ none → F a = none → F' a = none
  mw : ∃ nw, M' = M ++ nw ∧ ∀ m ∈ nw, H m = none
theorem Stp.refl {H F : Hp} {M : List Addr} : Stp H F M H F M := ⟨Same.refl _, fun _ _ _ _ h => h, fun _ h => h, fun _ _ h => h, [], by simp, by simp⟩
theorem Stp.trans {H F H1 F1 H2 F2 : Hp} {M M1 M2 : List Addr} (a : Stp H F M H1 F1 M1) (b : Stp H1 F1 M1 H2 F2 M2) : Stp H F M H2 F2 M2 where
  fg := a.fg.trans b.fg
  fr := fun c o hM ht h => by
    obtain ⟨nw, e, hn⟩ := a.mw
    refine b.fr c o ?_ ht (a.fr c o hM ht h)
    intro z
    rw [e, List.mem_append] at z
    rcases z with z | z
    · exact hM z
    · rw [hn c z] at h; cases h
  th := fun c h => b.th c (a.th c h)
  nf := fun c h hF => b.nf c (a.th c h) (a.nf c h hF)
  mw := by
    obtain ⟨n1, e1, h1⟩ := a.mw
    obtain ⟨n2, e2, h2⟩ := b.mw
    refine ⟨n1 ++ n2, by rw [e2, e1, List.append_assoc], fun m hm => ?_⟩
    rcases List.mem_append.mp hm with z | z
    · exact h1 m z
    · cases q : H m with
      | none => rfl
      | some o => exact absurd (h2 m z) (a.th m (by rw [q]; simp))
/-- the moment at a def's entry -/
structure Base where
  H : Hp
  F : Hp
  M : List Addr
def Sl.isAt (X : Tx) (B : Base) (H F : Hp) (M : List Addr) (O : Nat → Addr) (i : Nat) (x : Option (Option V)) : Sl → Prop
  | .un => True
  | .dat d => ∃ v, x = some (some v) ∧ Rp X.K F v d
  | .own l => x = some (some (.ref (O i))) ∧ B.H (O i) = none ∧ F (O i) = none ∧ O i ∉ M ∧ l.length ≤ sizeLine ∧ ∃ vs, H (O i) = some (.lst vs) ∧ Paired (Rp X.K F) vs l
  | .wref k => ∃ m, M[k]? = some m ∧ x = some (some (.ref m))
/-- the state -/
structure SR (X : Tx) (B : Base) (env : Ev) (w : World) (σ : St) (H F : Hp) (O : Nat → Addr) (M : List Addr) : Prop where
  len : σ.length = env.length
  fh : Same F H
  nt : NoTbl F
  st : Stp B.H B.F B.M H F M
  wr : WRel X F H M w
  tb : TabsN X.T.tabs H
  sl : ∀ (i : Nat) (s : Sl), env[i]? = some s → s.isAt X B H F M O i σ[i]?
  inj : ∀ (i j : Nat) (li lj : List D), env[i]? = some (.own li) → env[j]? = some (.own lj) → O i = O j → i = j
/-- the value of an expression: Hs, the heap ahead of it -/
def RV.isAt (X : Tx) (Hs : Hp) (env : Ev) (O : Nat → Addr) (H F : Hp) (M : List Addr) (v : V) : RV → Prop
  | .dat d => Rp X.K F v d
  | .fresh l => l.length ≤ sizeLine ∧ ∃ p vs, v = .ref p ∧ Hs p = none ∧ F p = none ∧ p ∉ M ∧ H p = some (.lst vs) ∧ Paired (Rp X.K F) vs l
  | .bor i l => env[i]? = some (.own l) ∧ v = .ref (O i)
  | .wref k => ∃ m, M[k]? = some m ∧ v = .ref m
theorem mem_of_pfx {M M' nw : List Addr} {k : Nat} {m : Addr} (e : M' = M ++ nw) (h : M[k]? = some m) : M'[k]? = some m := by
  rw [e, List.getElem?_append_left]
  · exact h
  · exact (List.getElem?_eq_some_iff.mp h).1
section
variable {X : Tx} {B : Base} {env : Ev} {w w' : World} {σ : St} {H F H' F' Hs : Hp} {O : Nat → Addr} {M M' : List Addr} {v : V} {r : RV}
theorem notM' (st : Stp H F M H' F' M') {p : Addr} (hM : p ∉ M) (hH : H p ≠ none) : p ∉ M' := by
  obtain ⟨nw, e, hn⟩ := st.mw
  rw [e, List.mem_append]
  rintro (z | z)
  · exact hM z
  · exact hH (hn p z)
/-- the state, behind a step that leaves the slots -/
theorem SR.step (s : SR X B env w σ H F O M) (st : Stp H F M H' F' M') (sm : Same F' H') (nt : NoTbl F') (wr : WRel X F' H' M' w') (tb : TabsN X.T.tabs H') : SR X B env w' σ H' F' O M' := by
  refine ⟨s.len, sm, nt, s.st.trans st, wr, tb, fun i sl e => ?_, s.inj⟩
  have h := s.sl i sl e
  obtain ⟨nw, em, _⟩ := id st.mw
  cases sl with
  | un => trivial
  | dat d => obtain ⟨v, e1, e2⟩ := h; exact ⟨v, e1, e2.mono st.fg⟩
  | own l =>
    obtain ⟨e1, e2, e3, e4, ez, vs, e5, e6⟩ := h
    have hn : H (O i) ≠ none := by rw [e5]; simp
    exact ⟨e1, e2, st.nf _ hn e3, notM' st e4 hn, ez, vs, st.fr _ _ (fun z => absurd z e4) (fun _ z => by cases z) e5, Rp.monoAll st.fg _ _ e6⟩
  | wref k => obtain ⟨m, e1, e2⟩ := h; exact ⟨m, mem_of_pfx em e1, e2⟩
theorem RV.step (h : r.isAt X Hs env O H F M v) (st : Stp H F M H' F' M') : r.isAt X Hs env O H' F' M' v := by
  obtain ⟨nw, em, _⟩ := id st.mw
  cases r with
  | dat d => exact Rp.mono st.fg _ _ h
  | fresh l =>
    obtain ⟨ez, p, vs, e1, e2, e3, e4, e5, e6⟩ := h
    have hn : H p ≠ none := by rw [e5]; simp
    exact ⟨ez, p, vs, e1, e2, st.nf _ hn e3, notM' st e4 hn, st.fr _ _ (fun z => absurd z e4) (fun _ z => by cases z) e5, Rp.monoAll st.fg _ _ e6⟩
  | bor i l => exact h
  | wref k => obtain ⟨m, e1, e2⟩ := h; exact ⟨m, mem_of_pfx em e1, e2⟩
/-- from a later start to an earlier one -/
theorem RV.since {H0 : Hp} (h : r.isAt X Hs env O H F M v) (e : ∀ a, H0 a ≠ none → Hs a ≠ none) : r.isAt X H0 env O H F M v := by
  cases r with
  | fresh l =>
    obtain ⟨ez, p, vs, e1, e2, e3⟩ := h
    refine ⟨ez, p, vs, e1, ?_, e3⟩
    cases q : H0 p with
    | none => rfl
    | some o => exact absurd e2 (e p (by rw [q]; simp))
  | dat d => exact h
  | bor i l => exact h
  | wref k => exact h
end
/-! ### pure extensions: what an operation does that makes new things alone -/
structure Xt (H F H' F' : Hp) : Prop where
  hh : Same H H'
  ff : Same F F'
  fh : Same F' H'
  nf : ∀ a, H a ≠ none → F a = none → F' a = none
  nt : NoTbl F'
section
variable {X : Tx} {H F H' F' : Hp} {M : List Addr} {w : World} {p : Addr}
theorem Xt.refl (h : Same F H) (nt : NoTbl F) : Xt H F H F := ⟨Same.refl _, Same.refl _, h, fun _ _ e => e, nt⟩
theorem Xt.trans {H2 F2 : Hp} (a : Xt H F H' F') (b : Xt H' F' H2 F2) : Xt H F H2 F2 :=
  ⟨a.hh.trans b.hh, a.ff.trans b.ff, b.fh, fun c h e => b.nf c (fun z => h (a.hh.free z)) (a.nf c h e), b.nt⟩
theorem Xt.stp (x : Xt H F H' F') : Stp H F M H' F' M :=
  ⟨x.ff, fun a o _ _ h => x.hh a o h, fun a h z => h (x.hh.free z), x.nf, [], by simp, by simp⟩
theorem same_upd {o : HO} (h : H p = none) : Same H (upd H p o) := fun b u q => by rw [upd_ne (ne_of_none q h)]; exact q
/-- a new list -/
theorem Xt.newL {vs : List V} (h : Same F H) (nt : NoTbl F) (hp : H p = none) : Xt H F (upd H p (.lst vs)) F :=
  ⟨same_upd hp, Same.refl _, h.trans (same_upd hp), fun _ _ e => e, nt⟩
/-- a new frozen thing -/
theorem Xt.newF {o : HO} (h : Same F H) (nt : NoTbl F) (hp : H p = none) (ho : ∀ ps, o ≠ .tbl ps) : Xt H F (upd H p o) (upd F p o) := by
  have hF : F p = none := h.free hp
  refine ⟨same_upd hp, same_upd hF, fun b u q => ?_, fun a hn e => ?_, fun a ps q => ?_⟩
  · by_cases e : b = p
    · subst e; rw [upd_same] at q ⊢; exact q
    · rw [upd_ne e] at q ⊢; exact h _ _ q
  · by_cases z : a = p
    · subst z; exact absurd hp hn
    · rw [upd_ne z]; exact e
  · by_cases z : a = p
    · subst z; rw [upd_same] at q; exact ho ps (Option.some.inj q)
    · rw [upd_ne z] at q; exact nt a ps q
theorem WRel.keep (wr : WRel X F H M w) (x : Xt H F H' F') : WRel X F' H' M w := by
  refine ⟨wr.nd, Paired.mapP wr.at_ fun m o h => ?_⟩
  obtain ⟨h1, h2⟩ := h
  cases o with
  | lst l =>
    obtain ⟨ez, vs, e1, e2⟩ := h2
    exact ⟨x.nf m (by rw [e1]; simp) h1, ez, vs, x.hh _ _ e1, Rp.monoAll x.ff _ _ e2⟩
  | clo i caps => exact ⟨x.nf m (CloAt.there h2) h1, CloAt.keep h2 (KeepE.of x.hh) x.ff x.nf⟩
theorem SR.xt {B : Base} {env : Ev} {σ : St} {O : Nat → Addr} (s : SR X B env w σ H F O M) (x : Xt H F H' F') : SR X B env w σ H' F' O M :=
  s.step x.stp x.fh x.nt (s.wr.keep x) (s.tb.ext x.hh)
/-- a fresh list is frozen -/
theorem SR.freeze {B : Base} {env : Ev} {σ : St} {O : Nat → Addr} {vs : List V} (s : SR X B env w σ H F O M) (hB : B.H p = none) (hM : p ∉ M) (hO : ∀ i l, env[i]? = some (.own l) → O i ≠ p) (hp : H p = some (.lst vs)) (hF : F p = none) : SR X B env w σ H (upd F p (.lst vs)) O M := by
  have fg : Same F (upd F p (.lst vs)) := same_upd hF
  refine ⟨s.len, fun b u q => ?_, fun a ps q => ?_, ⟨s.st.fg.trans fg, s.st.fr, s.st.th, fun a hn e => ?_, s.st.mw⟩, ⟨s.wr.nd, ?_⟩, s.tb, fun i sl e => ?_, s.inj⟩
  · by_cases e : b = p
    · subst e; rw [upd_same] at q; rw [hp]; exact q
    · rw [upd_ne e] at q; exact s.fh _ _ q
  · by_cases z : a = p
    · subst z; rw [upd_same] at q; cases q
    · rw [upd_ne z] at q; exact s.nt a ps q
  · by_cases z : a = p
    · subst z; exact absurd hB hn
    · rw [upd_ne z]; exact s.st.nf a hn e
  · have go : ∀ {M : List Addr} {w : World}, p ∉ M → Paired (fun m o => F m = none ∧ WO.isAt X F H m o) M w → Paired (fun m o => upd F p (.lst vs) m = none ∧ WO.isAt X (upd F p (.lst vs)) H m o) M w := by
      intro M w hM h
      induction h with
      | nil => exact .nil
      | @cons m o _ _ h1 _ ih =>
        refine .cons ⟨?_, ?_⟩ (ih fun z => hM (List.mem_cons_of_mem _ z))
        · rw [upd_ne (fun z => hM (by rw [← z]; exact List.mem_cons_self))]; exact h1.1
        · cases o with
          | lst l => obtain ⟨_, ez, ws, e1, e2⟩ := h1; exact ⟨ez, ws, e1, Rp.monoAll fg _ _ e2⟩
          | clo i caps => exact CloAt.keep' h1.2 fg (fun c o e => by rw [upd_ne (fun z => by rw [z, hp] at e; cases e)])
    exact go hM s.wr.at_
  · have h := s.sl i sl e
    cases sl with
    | un => trivial
    | dat d => obtain ⟨v, e1, e2⟩ := h; exact ⟨v, e1, e2.mono fg⟩
    | own l =>
      obtain ⟨e1, e2, e3, e4, ez, ws, e5, e6⟩ := h
      exact ⟨e1, e2, by rw [upd_ne (hO i l e)]; exact e3, e4, ez, ws, e5, Rp.monoAll fg _ _ e6⟩
    | wref k => exact h
end
end Dl
/-! DlB: the judgement of expressions; names, constants, operators, tests, displays, calls of built-ins. -/
namespace Dl
open PySem PySem.Spec PyProof.Rows L2 NdefX
/-! ### what is wanted behind -/
def Exn.isAt (X : Tx) (F H : Hp) (cls : Value) (d : Option Addr) (x : Exn) : Prop :=
  ∃ C, X.mg x.cls = some (.ref C) ∧ cls = .ref C ∧ match x.fld with
    | none => d = none
    | some (f, dv) => ∃ dx v, d = some dx ∧ H dx = some (.xd [(f, v)]) ∧ Rp X.K F v dv
def Pst {α : Type} (o : Out α) (g : α → World → Prop) (b : Exn → Ev → World → Prop) : Prop := match o with
  | .ok a w => g a w
  | .exc x e w => b x e w
  | .stuck => False
theorem Pst.bind {α β : Type} {o : Out α} {f : α → World → Out β} {g : β → World → Prop} {b : Exn → Ev → World → Prop} (h : Pst (o.bind f) g b) : Pst o (fun a w => Pst (f a w) g b) b := by cases o <;> exact h
theorem Pst.mono {α : Type} {o : Out α} {g g' : α → World → Prop} {b b' : Exn → Ev → World → Prop} (h : Pst o g b) (hg : ∀ a w, g a w → g' a w) (hb : ∀ x e w, b x e w → b' x e w) : Pst o g' b' := by
  cases o with
  | ok a w => exact hg a w h
  | exc x e w => exact hb x e w h
  | stuck => exact h
theorem Pst.imp {α : Type} {o : Out α} {g g' : α → World → Prop} {b : Exn → Ev → World → Prop} (h : Pst o g b) (hg : ∀ a w, g a w → g' a w) : Pst o g' b := h.mono hg fun _ _ _ z => z
def badX (X : Tx) (B : Base) (Wi : WX) : Exn → Ev → World → Prop := fun x env w => ∀ cls d σ H F O M, SR X B env w σ H F O M → x.isAt X F H cls d → Wi cls d σ H
/-- the reading of an expression whose denotation is e -/
def tD (X : Tx) (Wi : WX) (e : Ex) : TE := fun σ H Q => ∃ B env w F O M, SR X B env w σ H F O M ∧
  Pst (e env w) (fun r w' => ∀ v H' F' M', SR X B env w' σ H' F' O M' → Stp H F M H' F' M' → r.isAt X H env O H' F' M' v → Q v H') (badX X B Wi)
/-- of a test -/
def tT (X : Tx) (Wi : WX) (e : Ev → World → Out Bool) : TT := fun σ H Q => ∃ B env w F O M, SR X B env w σ H F O M ∧
  Pst (e env w) (fun b w' => ∀ H' F' M', SR X B env w' σ H' F' O M' → Stp H F M H' F' M' → Q b H') (badX X B Wi)
/-- of arguments, read as they are -/
def tR (X : Tx) (Wi : WX) (e : Ev → World → Out (List RV)) : TA := fun σ H Q => ∃ B env w F O M, SR X B env w σ H F O M ∧
  Pst (e env w) (fun rs w' => ∀ vs H' F' M', SR X B env w' σ H' F' O M' → Stp H F M H' F' M' → Paired (fun v r => RV.isAt X H env O H' F' M' v r) vs rs → Q vs H') (badX X B Wi)
theorem _root_.L2.PE.impD {X : Cx} {e : Expr} {t t' : TE} (h : PE X e t) (k : ∀ σ H Q, t' σ H Q → t σ H Q) : PE X e t' := ⟨fun pins s σ H Q I q => h.run pins s σ H Q I (k σ H Q q)⟩
theorem _root_.L2.PT.impD {X : Cx} {e : Expr} {t t' : TT} (h : PT X e t) (k : ∀ σ H Q, t' σ H Q → t σ H Q) : PT X e t' := ⟨fun pins s σ H Q I q => h.run pins s σ H Q I (k σ H Q q)⟩
theorem _root_.L2.PW.impD {X : Cx} {e : Expr} {t t' : TT} (h : PW X e t) (k : ∀ σ H Q, t' σ H Q → t σ H Q) : PW X e t' := ⟨fun wh pins s σ H Q I q => h.run wh pins s σ H Q I (k σ H Q q)⟩
theorem _root_.L2.PA.impD {X : Cx} {e : List Expr} {t t' : TA} (h : PA X e t) (k : ∀ σ H Q, t' σ H Q → t σ H Q) : PA X e t' := ⟨fun pos pins s σ H Q I q => h.run pos pins s σ H Q I (k σ H Q q)⟩
theorem _root_.L2.PS.impD {X : Cx} {e : Stmt} {t t' : TS} (h : PS X e t) (k : ∀ D σ H, t' D σ H → t D σ H) : PS X e t' := ⟨fun pins s σ H D I q => h.run pins s σ H D I (k D σ H q)⟩
theorem _root_.L2.PSs.impD {X : Cx} {e : List Stmt} {t t' : TS} (h : PSs X e t) (k : ∀ D σ H, t' D σ H → t D σ H) : PSs X e t' := ⟨fun pins s σ H D I q => h.run pins s σ H D I (k D σ H q)⟩
abbrev Cx.tx (X : Cx) (T : Tbs) : Tx := ⟨X.K, X.mg, T⟩
/-- e denotes d -/
abbrev JE (X : Cx) (T : Tbs) (Wi : WX) (e : Expr) (d : Ex) : Prop := PE X e (tD (Cx.tx X T) Wi d)
abbrev JT (X : Cx) (T : Tbs) (Wi : WX) (e : Expr) (d : Ev → World → Out Bool) : Prop := PT X e (tT (Cx.tx X T) Wi d)
abbrev JW (X : Cx) (T : Tbs) (Wi : WX) (e : Expr) (d : Ev → World → Out Bool) : Prop := PW X e (tT (Cx.tx X T) Wi d)
abbrev JR (X : Cx) (T : Tbs) (Wi : WX) (es : List Expr) (d : Ev → World → Out (List RV)) : Prop := PA X es (tR (Cx.tx X T) Wi d)
/-- values read as they lie now -/
def RV.val : RV → Option D
  | .dat d => some d
  | .fresh l => some (.lst l)
  | .bor _ l => some (.lst l)
  | .wref _ => none
def Rv (K : PySem.W.Frag) (F H : Hp) (v : V) : D → Prop
  | .lst l => l.length ≤ sizeLine ∧ ∃ p vs, v = .ref p ∧ SqL K H p vs ∧ Paired (Rp K F) vs l
  | d => Rp K F v d
section
variable {X : Tx} {B : Base} {env : Ev} {w w' : World} {σ : St} {H F H' F' Hs : Hp} {O : Nat → Addr} {M M' : List Addr} {v : V} {r : RV} {K : PySem.W.Frag} {d : D}
theorem Rp.rv (h : Rp K F v d) (fh : Same F H) : Rv K F H v d := by
  cases d with
  | lst l => cases h with | lst hz hs hp => exact ⟨hz, _, _, rfl, fh.seq hs, hp⟩
  | _ => exact h
theorem Rv.rp (h : Rv K F H v d) (fh : Same F H) : Rp K H v d := by
  cases d with
  | lst l => obtain ⟨hz, p, vs, rfl, hs, hp⟩ := h; exact .lst hz hs (Rp.monoAll fh _ _ hp)
  | _ => exact Rp.mono fh _ _ h
theorem RV.rv (s : SR X B env w σ H F O M) (h : r.isAt X Hs env O H F M v) (e : r.val = some d) : Rv X.K F H v d := by
  cases r with
  | dat d' => cases e; exact Rp.rv h s.fh
  | fresh l => cases e; obtain ⟨ez, p, vs, e1, _, _, _, e5, e6⟩ := h; exact ⟨ez, p, vs, e1, SqL.of e5, e6⟩
  | bor i l =>
    cases e
    obtain ⟨e1, e2⟩ := h
    obtain ⟨_, _, _, _, ez, vs, e5, e6⟩ := s.sl i _ e1
    exact ⟨ez, _, vs, e2, SqL.of e5, e6⟩
  | wref k => cases e
theorem WRel.there (wr : WRel X F H M w) {m : Addr} (hm : m ∈ M) : H m ≠ none := by
  have go : ∀ {M : List Addr} {w : World}, Paired (fun m o => F m = none ∧ WO.isAt X F H m o) M w → m ∈ M → H m ≠ none := by
    intro M w h hm
    induction h with
    | nil => cases hm
    | @cons a o _ _ h1 _ ih =>
      rcases List.mem_cons.mp hm with rfl | hm
      · cases o with
        | lst l => obtain ⟨_, _, vs, e1, _⟩ := h1; rw [e1]; simp
        | clo i caps => exact CloAt.there h1.2
      · exact ih hm
  exact go wr.at_ hm
/-- a result that an operation has made -/
def RV.newAt (K : PySem.W.Frag) (H H' F' : Hp) (v : V) : RV → Prop
  | .dat d => Rp K F' v d
  | .fresh l => l.length ≤ sizeLine ∧ ∃ p vs, v = .ref p ∧ H p = none ∧ F' p = none ∧ H' p = some (.lst vs) ∧ Paired (Rp K F') vs l
  | _ => False
theorem RV.of_new (h : r.newAt X.K H H' F' v) (s : SR X B env w σ H F O M) (e0 : ∀ a, Hs a ≠ none → H a ≠ none) : r.isAt X Hs env O H' F' M v := by
  cases r with
  | dat d => exact h
  | fresh l =>
    obtain ⟨ez, p, vs, e1, e2, e3, e4, e5⟩ := h
    refine ⟨ez, p, vs, e1, ?_, e3, fun hm => s.wr.there hm e2, e4, e5⟩
    cases q : Hs p with
    | none => rfl
    | some o => exact absurd e2 (e0 p (by rw [q]; simp))
  | bor i l => exact h.elim
  | wref k => exact h.elim
end
def lift (o : Option RV) (w : World) : Out RV := match o with
  | some r => .ok r w
  | none => .stuck
@[simp] theorem lift_some (r : RV) (w : World) : lift (some r) w = .ok r w := rfl
theorem Pst.lift {o : Option RV} {w : World} {g : RV → World → Prop} {b : Exn → Ev → World → Prop} (h : Pst (Dl.lift o w) g b) : ∃ r, o = some r ∧ g r w := by
  cases o with
  | none => exact h.elim
  | some r => exact ⟨r, rfl, h⟩
/-! ### names and constants -/
def dName (i : Nat) : Ex := fun env w => match env[i]? with
  | some (.dat d) => .ok (.dat d) w
  | some (.own l) => .ok (.bor i l) w
  | some (.wref k) => .ok (.wref k) w
  | _ => .stuck
def dC (d : D) : Ex := fun _ w => .ok (.dat d) w
section
variable {X : Cx} {T : Tbs} {Wi : WX} {pos : Pos}
theorem je_name {i : Nat} {x : Str} (h : PE X (.Name x pos) (tVar i)) : JE X T Wi (.Name x pos) (dName i) := by
  refine h.impD fun σ H Q q => ?_
  obtain ⟨B, env, w, F, O, M, s, q⟩ := q
  unfold dName at q
  cases e : env[i]? with
  | none => rw [e] at q; exact q.elim
  | some sl =>
    rw [e] at q
    have a := s.sl i sl e
    cases sl with
    | un => exact q.elim
    | dat d => obtain ⟨v, e1, e2⟩ := a; exact ⟨v, e1, q v H F M s .refl e2⟩
    | own l => obtain ⟨e1, e2⟩ := a; exact ⟨_, e1, q _ H F M s .refl ⟨e, rfl⟩⟩
    | wref k => obtain ⟨m, e1, e2⟩ := a; exact ⟨_, e2, q _ H F M s .refl ⟨m, e1, rfl⟩⟩
theorem je_const {e : Expr} {v : V} {d : D} (h : PE X e (tC v)) (r : ∀ F, Rp X.K F v d) : JE X T Wi e (dC d) := by
  refine h.impD fun σ H Q q => ?_
  obtain ⟨B, env, w, F, O, M, s, q⟩ := q
  exact q v H F M s .refl (r F)
theorem je_int {i j} : JE X T Wi (.Constant (.int i) j pos) (dC (.int i)) := je_const pe_int fun _ => .int i
theorem je_bl {b j} : JE X T Wi (.Constant (.bool b) j pos) (dC (.bl b)) := je_const pe_bl fun _ => .bl b
theorem je_non {j} : JE X T Wi (.Constant .none j pos) (dC .non) := je_const pe_non fun _ => .non
theorem je_str {x j} (h : SOk x := by exact ⟨by decide +kernel, by decide +kernel⟩) : JE X T Wi (.Constant (.str x) j pos) (dC (.str x)) := je_const pe_str fun _ => .str x h
end
/-! ### operations on two values -/
def OpS (X : Cx) (f : Value → Value → Sem Value) (g : D → D → Option RV) : Prop :=
  ∃ r : R2, OpR X f r ∧ ∀ x y d e rv H F, Same F H → NoTbl F → Rv X.K F H x d → Rv X.K F H y e → g d e = some rv → ∀ Q : VK, (∀ v H' F', Xt H F H' F' → rv.newAt X.K H H' F' v → Q v H') → r x y H Q
def vals2 (g : D → D → Option RV) (a b : RV) : Option RV := match a.val, b.val with
  | some x, some y => g x y
  | _, _ => none
def dBin (g : D → D → Option RV) (a b : Ex) : Ex := fun env w => (a env w).bind fun ra w1 => (b env w1).bind fun rb w2 => lift (vals2 g ra rb) w2
theorem vals2_some {g : D → D → Option RV} {a b : RV} {r : RV} (h : vals2 g a b = some r) : ∃ x y, a.val = some x ∧ b.val = some y ∧ g x y = some r := by
  unfold vals2 at h
  cases ea : a.val with
  | none => rw [ea] at h; cases h
  | some x =>
    cases eb : b.val with
    | none => rw [ea, eb] at h; cases h
    | some y => rw [ea, eb] at h; exact ⟨x, y, rfl, rfl, h⟩
section
variable {X : Cx} {T : Tbs} {Wi : WX} {pos : Pos} {a b : Expr} {da db : Ex}
theorem op_read {f : Value → Value → Sem Value} {g : D → D → Option RV} {r : R2} (hr : ∀ x y d e rv H F, Same F H → NoTbl F → Rv X.K F H x d → Rv X.K F H y e → g d e = some rv → ∀ Q : VK, (∀ v H' F', Xt H F H' F' → rv.newAt X.K H H' F' v → Q v H') → r x y H Q)
    {σ : St} {H : Hp} {Q : VK} (q : tD (Cx.tx X T) Wi (dBin g da db) σ H Q) : tOp r (tD (Cx.tx X T) Wi da) (tD (Cx.tx X T) Wi db) σ H Q := by
  obtain ⟨B, env, w, F, O, M, s, q⟩ := q
  refine ⟨B, env, w, F, O, M, s, q.bind.imp fun ra w1 q1 x H1 F1 M1 s1 st1 r1 => ?_⟩
  refine ⟨B, env, w1, F1, O, M1, s1, q1.bind.imp fun rb w2 q2 y H2 F2 M2 s2 st2 r2 => ?_⟩
  obtain ⟨rv, e, q3⟩ := q2.lift
  obtain ⟨d, e', ea, eb, eg⟩ := vals2_some e
  refine hr x y d e' rv H2 F2 s2.fh s2.nt (RV.rv s2 (RV.step r1 st2) ea) (RV.rv s2 r2 eb) eg Q fun v H' F' xt nw => ?_
  exact q3 v H' F' M2 (s2.xt xt) ((st1.trans st2).trans xt.stp) (RV.of_new nw s2 (st1.trans st2).th)
theorem je_bin {op : Operator} {g : D → D → Option RV} (h : OpS X (binaryOp op) g) (ha : JE X T Wi a da) (hb : JE X T Wi b db) : JE X T Wi (.BinOp a op b pos) (dBin g da db) := by
  obtain ⟨r, ho, hr⟩ := h
  exact (pe_op ho ha hb).impD fun σ H Q q => op_read (f := binaryOp op) hr q
theorem je_cmp {op : CmpOp} {g : D → D → Option RV} (h : OpS X (compareOp op) g) (ha : JE X T Wi a da) (hb : JE X T Wi b db) (hm : behindInMarks op b = false := by first | exact nomark _ | rfl) : JE X T Wi (.Compare a [op] [b] pos) (dBin g da db) := by
  obtain ⟨r, ho, hr⟩ := h
  exact (pe_cmpR ho ha hb hm).impD fun σ H Q q => op_read (f := compareOp op) hr q
end
/-- a new result by hand: a value alone -/
theorem new_val {K : PySem.W.Frag} {F H : Hp} {v : V} {d : D} {Q : VK} (fh : Same F H) (nt : NoTbl F) (q : ∀ v H' F', Xt H F H' F' → (RV.dat d).newAt K H H' F' v → Q v H') (h : Rp K F v d) : Q v H := q v H F (Xt.refl fh nt) h
theorem new_lst {K : PySem.W.Frag} {F H : Hp} {l : List D} {vs : List V} {p : Addr} {Q : VK} (fh : Same F H) (nt : NoTbl F) (q : ∀ v H' F', Xt H F H' F' → (RV.fresh l).newAt K H H' F' v → Q v H') (hp : H p = none) (hz : l.length ≤ sizeLine) (h : Paired (Rp K F) vs l) : Q (.ref p) (upd H p (.lst vs)) :=
  q _ _ F (Xt.newL fh nt hp) ⟨hz, p, vs, rfl, hp, fh.free hp, upd_same, h⟩
theorem new_tup {K : PySem.W.Frag} {F H : Hp} {l : List D} {vs : List V} {p : Addr} {Q : VK} (fh : Same F H) (nt : NoTbl F) (q : ∀ v H' F', Xt H F H' F' → (RV.dat (.tup l)).newAt K H H' F' v → Q v H') (hp : H p = none) (hz : l.length ≤ sizeLine) (h : Paired (Rp K F) vs l) : Q (.ref p) (upd H p (.tup vs)) := by
  have x : Xt H F (upd H p (.tup vs)) (upd F p (.tup vs)) := Xt.newF fh nt hp (fun _ z => by cases z)
  exact q _ _ _ x (Rp.tup hz (SqT.of upd_same) (Rp.monoAll x.ff _ _ h))
/-! ### the operators -/
def mulOk (i j : Int) : Bool := (decide (i.natAbs < 2 ^ 64) || decide (j.natAbs < 2 ^ 64)) || decide (i.natAbs.log2 + j.natAbs.log2 < 900000)
def gAdd : D → D → Option RV
  | .int i, .int j => some (.dat (.int (i + j)))
  | .str s, .str t => if s.length + t.length ≤ sizeLine then some (.dat (.str (s ++ t))) else none
  | .tup k, .tup l => if k.length + l.length ≤ sizeLine then some (.dat (.tup (k ++ l))) else none
  | .lst k, .lst l => if k.length + l.length ≤ sizeLine then some (.fresh (k ++ l)) else none
  | _, _ => none
def gSub : D → D → Option RV
  | .int i, .int j => some (.dat (.int (i - j)))
  | _, _ => none
def gMul : D → D → Option RV
  | .int i, .int j => if mulOk i j then some (.dat (.int (i * j))) else none
  | _, _ => none
def gFdiv : D → D → Option RV
  | .int i, .int j => if 0 < j ∧ (j < 1073741824 ∨ j.natAbs.log2 < 8990) then some (.dat (.int (i / j))) else none
  | _, _ => none
def gMod : D → D → Option RV
  | .int i, .int j => if 0 < j then some (.dat (.int (i % j))) else none
  | _, _ => none
def gPow : D → D → Option RV
  | .int i, .int j => if 0 ≤ j ∧ j ≤ 1000000 ∧ i.natAbs < 2 ^ 64 then some (.dat (.int (i ^ j.toNat))) else none
  | _, _ => none
theorem str_len_app (s t : Str) : (s ++ t).length = s.length + t.length := by
  show (s.cps ++ t.cps).size = _
  rw [Array.size_append]
  rfl
theorem sOk_app {s t : Str} (h1 : SOk s) (h2 : SOk t) (hz : s.length + t.length ≤ sizeLine) : SOk (s ++ t) := by
  refine ⟨?_, by rw [str_len_app]; exact hz⟩
  obtain ⟨h1, _⟩ := h1
  obtain ⟨h2, _⟩ := h2
  unfold PyData.strOk at *
  show (Array.all (s.cps ++ t.cps) fun c => decide (c < 0x110000)) = true
  rw [Array.all_append, h1, h2]
  rfl
section
variable {X : Cx}
theorem os_sub : OpS X (binaryOp .Sub) gSub := by
  refine ⟨_, op_sub, fun x y d e rv H F fh nt rx ry h Q q => ?_⟩
  cases d <;> cases e <;> first | (simp only [gSub] at h; cases h; done) | skip
  simp only [gSub, Option.some.injEq] at h; subst h
  cases rx; cases ry
  exact ⟨_, _, rfl, rfl, new_val fh nt q (.int _)⟩
theorem os_mod : OpS X (binaryOp .Mod) gMod := by
  refine ⟨_, op_mod, fun x y d e rv H F fh nt rx ry h Q q => ?_⟩
  cases d <;> cases e <;> first | (simp only [gMod] at h; cases h; done) | skip
  simp only [gMod] at h
  split at h
  · rename_i hc
    simp only [Option.some.injEq] at h; subst h
    cases rx; cases ry
    exact ⟨_, _, rfl, rfl, hc, new_val fh nt q (.int _)⟩
  · cases h
theorem os_pow : OpS X (binaryOp .Pow) gPow := by
  refine ⟨_, op_pow, fun x y d e rv H F fh nt rx ry h Q q => ?_⟩
  cases d <;> cases e <;> first | (simp only [gPow] at h; cases h; done) | skip
  simp only [gPow] at h
  split at h
  · rename_i hc
    simp only [Option.some.injEq] at h; subst h
    cases rx; cases ry
    exact ⟨_, _, rfl, rfl, hc, new_val fh nt q (.int _)⟩
  · cases h
theorem os_fdiv : OpS X (binaryOp .FloorDiv) gFdiv := by
  refine ⟨_, op_fdiv.or op_fdivW, fun x y d e rv H F fh nt rx ry h Q q => ?_⟩
  cases d <;> cases e <;> first | (simp only [gFdiv] at h; cases h; done) | skip
  simp only [gFdiv] at h
  split at h
  · rename_i hc
    simp only [Option.some.injEq] at h; subst h
    cases rx; cases ry
    obtain ⟨h0, h1 | h1⟩ := hc
    · exact .inl ⟨_, _, rfl, rfl, ⟨h0, h1⟩, new_val fh nt q (.int _)⟩
    · exact .inr ⟨_, _, rfl, rfl, ⟨h0, by omega⟩, new_val fh nt q (.int _)⟩
  · cases h
theorem os_mul : OpS X (binaryOp .Mult) gMul := by
  refine ⟨_, op_mul.or op_mulW, fun x y d e rv H F fh nt rx ry h Q q => ?_⟩
  cases d <;> cases e <;> first | (simp only [gMul] at h; cases h; done) | skip
  simp only [gMul] at h
  split at h
  · rename_i hc
    simp only [Option.some.injEq] at h; subst h
    cases rx; cases ry
    unfold mulOk at hc
    simp only [Bool.or_eq_true, decide_eq_true_eq] at hc
    rcases hc with (hc | hc) | hc
    · exact .inl ⟨_, _, rfl, rfl, .inl (by omega), new_val fh nt q (.int _)⟩
    · exact .inl ⟨_, _, rfl, rfl, .inr (by omega), new_val fh nt q (.int _)⟩
    · exact .inr ⟨_, _, rfl, rfl, (by unfold CMulW; omega), new_val fh nt q (.int _)⟩
  · cases h
end
end Dl
/-! DlC: operators on data, comparisons, truth, tests, displays, places and slices, built-ins. -/
namespace Dl
open PySem PySem.Spec PyProof.Rows L2 NdefX
def D.dep (d : D) : Nat := d.py.depth
def D.eq (d e : D) : Bool := PyData.eqv d.py e.py
theorem pyAll_eq (l : List D) : D.pyAll l = l.map D.py := by
  induction l with
  | nil => rfl
  | cons d l ih => show d.py :: D.pyAll l = _; rw [ih]; rfl
theorem paired_nil {α β : Type} {F : α → β → Prop} {xs : List α} {ys : List β} (h : Paired F xs ys) : xs = [] ↔ ys = [] := by
  cases h <;> simp
section
variable {X : Cx} {pins : List (Addr × Obj)} {σ : St} {H : Hp} {s : Shared}
theorem op_catR : OpR X (binaryOp .Add) (fun x y H Q => ∃ l b xs zs, x = .ref l ∧ y = .ref b ∧ SqL X.K H l xs ∧ SqL X.K H b zs ∧ xs.length + zs.length ≤ sizeLine ∧ ∀ p, H p = none → Q (.ref p) (upd H p (.lst (xs ++ zs)))) := by
  intro pins s σ H x y v u Q I rx ry h
  obtain ⟨l, b, xs, zs, rfl, rfl, hH, hB, hz, q⟩ := h
  cases rx
  cases ry
  obtain ⟨its, r, ⟨⟨cls, dd, data, sl⟩, n, ho, hc, hdn, hd⟩, z⟩ := I.list hH
  obtain ⟨its2, r2, ⟨⟨cls2, dd2, data2, sl2⟩, n2, ho2, hc2, hdn2, hd2⟩, z2⟩ := I.list hB
  simp only at hc hd hc2 hd2
  subst hc hd hc2 hd2
  have hl := r.length
  have hl2 := r2.length
  refine concat_meets ⟨_, ho, rfl⟩ ⟨_, ho2, rfl⟩ noFill_list_add seq_list_add PySem.F.slot_list_add PySem.F.entry_list_add (PySem.F.args_list_add_2 _ _) (list_addW l b its.toArray its2.toArray n n2 dd dd2 sl sl2 (by rw [List.size_toArray, List.size_toArray]; omega)) ⟨ho, ho2, ?_⟩
  have ea : its.toArray ++ its2.toArray = (its ++ its2).toArray := by simp
  rw [ea]
  exact ⟨.ref _, _, I.lnew (t' := s.toks) (r.append r2) (by rw [List.length_append]; omega), rfl, q _ I.fresh⟩
theorem os_add : OpS X (binaryOp .Add) gAdd := by
  refine ⟨_, op_add.or (op_add_str.or (op_catA.or op_catR)), fun x y d e rv H F fh nt rx ry h Q q => ?_⟩
  cases d <;> cases e <;> first | (simp only [gAdd] at h; cases h; done) | skip
  · simp only [gAdd, Option.some.injEq] at h; subst h
    cases rx; cases ry
    exact .inl ⟨_, _, rfl, rfl, new_val fh nt q (.int _)⟩
  · simp only [gAdd] at h
    split at h
    · rename_i hc
      simp only [Option.some.injEq] at h; subst h
      cases rx with | str _ q1 => cases ry with | str _ q2 => exact .inr (.inl ⟨_, _, rfl, rfl, hc, new_val fh nt q (.str _ (sOk_app q1 q2 hc))⟩)
    · cases h
  · simp only [gAdd] at h
    split at h
    · rename_i hc
      simp only [Option.some.injEq] at h; subst h
      obtain ⟨_, a, xs, e1, s1, p1⟩ := rx
      obtain ⟨_, b, ys, e2, s2, p2⟩ := ry
      have l1 := p1.length
      have l2 := p2.length
      exact .inr (.inr (.inr ⟨a, b, xs, ys, e1, e2, s1, s2, by omega, fun p hp => new_lst fh nt q hp (by rw [List.length_append]; exact hc) (Pr.append p1 p2)⟩))
    · cases h
  · simp only [gAdd] at h
    split at h
    · rename_i hc
      simp only [Option.some.injEq] at h; subst h
      cases rx with
      | @tup a xs _ z1' s1 p1 =>
      cases ry with
      | @tup b ys _ z2' s2 p2 =>
        have l1 := p1.length
        have l2 := p2.length
        refine .inr (.inr (.inl ⟨a, b, xs, ys, rfl, rfl, sqT_mono fh s1, sqT_mono fh s2, by omega, fun z => ?_, fun z1 z => ?_, fun z1 z2 p hp => new_tup fh nt q hp (by rw [List.length_append]; exact hc) (Pr.append p1 p2)⟩))
        · have z' := (paired_nil p1).mp z
          subst z'
          exact new_val fh nt q (.tup z2' s2 p2)
        · have z' := (paired_nil p2).mp z
          subst z'
          refine new_val fh nt q ?_
          rw [List.append_nil]
          exact .tup z1' s1 p1
    · cases h
/-! ### comparisons -/
def gEq (rm : Nat) (d e : D) : Option RV := if min d.dep e.dep ≤ rm then some (.dat (.bl (d.eq e))) else none
def gNe (rm : Nat) (d e : D) : Option RV := if min d.dep e.dep ≤ rm then some (.dat (.bl (!d.eq e))) else none
theorem os_eq {rm : Nat} (hu : X.A.units + rm < cLine) : OpS X (compareOp .Eq) (gEq rm) := by
  refine ⟨fun x y H Q => ∃ d e : D, Rp X.K H x d ∧ Rp X.K H y e ∧ min d.dep e.dep ≤ rm ∧ Q (.bl (d.eq e)) H, ?_, fun x y d e rv H F fh nt rx ry h Q q => ?_⟩
  · intro pins s σ H x y v u Q I rx ry h
    obtain ⟨d, e, h1, h2, hm, q⟩ := h
    obtain ⟨as, r1⟩ := Dp.reads I d.py x v h1.dp rx
    obtain ⟨bs, r2⟩ := Dp.reads I e.py y u h2.dp ry
    refine SeqAt.compareEq_reads r1 r2 h1.lay h2.lay ?_ ⟨.bl _, H, I, rfl, q⟩
    have : min d.py.depth e.py.depth ≤ rm := hm
    omega
  · unfold gEq at h
    split at h
    · rename_i hc
      simp only [Option.some.injEq] at h; subst h
      exact ⟨d, e, rx.rp fh, ry.rp fh, hc, new_val fh nt q (.bl _)⟩
    · cases h
theorem os_ne {rm : Nat} (hu : X.A.units + rm < cLine) : OpS X (compareOp .NotEq) (gNe rm) := by
  refine ⟨fun x y H Q => ∃ d e : D, Rp X.K H x d ∧ Rp X.K H y e ∧ min d.dep e.dep ≤ rm ∧ Q (.bl (!d.eq e)) H, ?_, fun x y d e rv H F fh nt rx ry h Q q => ?_⟩
  · intro pins s σ H x y v u Q I rx ry h
    obtain ⟨d, e, h1, h2, hm, q⟩ := h
    obtain ⟨as, r1⟩ := Dp.reads I d.py x v h1.dp rx
    obtain ⟨bs, r2⟩ := Dp.reads I e.py y u h2.dp ry
    refine SeqAt.compareNe_reads r1 r2 h1.lay h2.lay ?_ ⟨.bl _, H, I, rfl, q⟩
    have : min d.py.depth e.py.depth ≤ rm := hm
    omega
  · unfold gNe at h
    split at h
    · rename_i hc
      simp only [Option.some.injEq] at h; subst h
      exact ⟨d, e, rx.rp fh, ry.rp fh, hc, new_val fh nt q (.bl _)⟩
    · cases h
/-- order: two ints at once; other data where the library's order tells it -/
def D.lt (d e : D) : Bool := PySem.W.dataLt d.py e.py
def ordOk (rm : Nat) (d e : D) : Bool := PySem.W.alike d.py e.py && (match d with | .non => false | _ => true) && decide (min d.dep e.dep ≤ rm)
def gOrd (fi : Int → Int → Bool) (fd : D → D → Bool) (rm : Nat) : D → D → Option RV
  | .int i, .int j => some (.dat (.bl (fi i j)))
  | d, e => if ordOk rm d e then some (.dat (.bl (fd d e))) else none
def gLt := gOrd (fun i j => decide (i < j)) fun d e => d.lt e
def gGt := gOrd (fun i j => decide (j < i)) fun d e => e.lt d
def gLe := gOrd (fun i j => decide (i ≤ j)) fun d e => !e.lt d
def gGe := gOrd (fun i j => decide (j ≤ i)) fun d e => !d.lt e
theorem os_ord {op : CmpOp} {fi : Int → Int → Bool} {fd : D → D → Bool} {rm : Nat} (hu : X.A.units + rm < cLine) (hi : OpR X (compareOp op) (rI0 fun i j => .bl (fi i j)))
    (hd : ∀ (s : Shared) (a b : Value) (d e : D) (as bs : List Addr) (Q E : Value → Shared → Prop), Reads s.heap a d.py as → Reads s.heap b e.py bs → PySem.W.alike d.py e.py = true → d.py ≠ .none → X.A.units + min d.py.depth e.py.depth < cLine → Q (.bool (fd d e)) s →
      wpAny (model X.prog X.w) X.A (compareOp op a b) Q E s) : OpS X (compareOp op) (gOrd fi fd rm) := by
  have h2 : OpR X (compareOp op) (fun x y H Q => ∃ d e : D, Rp X.K H x d ∧ Rp X.K H y e ∧ ordOk rm d e = true ∧ Q (.bl (fd d e)) H) := by
    intro pins s σ H x y v u Q I rx ry h
    obtain ⟨d, e, h1, h2, hm, q⟩ := h
    obtain ⟨as, r1⟩ := Dp.reads I d.py x v h1.dp rx
    obtain ⟨bs, r2⟩ := Dp.reads I e.py y u h2.dp ry
    unfold ordOk at hm
    simp only [Bool.and_eq_true, decide_eq_true_eq] at hm
    obtain ⟨⟨m1, m2⟩, m3⟩ := hm
    have m3' : min d.py.depth e.py.depth ≤ rm := m3
    refine hd s v u d e as bs _ _ r1 r2 m1 (fun z => ?_) (by omega) ⟨.bl _, H, I, rfl, q⟩
    cases d <;> first | (cases z; done) | (simp at m2)
  refine ⟨_, hi.or h2, fun x y d e rv H F fh nt rx ry h Q q => ?_⟩
  unfold gOrd at h
  split at h
  · simp only [Option.some.injEq] at h; subst h
    cases rx; cases ry
    exact .inl ⟨_, _, rfl, rfl, new_val fh nt q (.bl _)⟩
  · split at h
    · rename_i hc
      simp only [Option.some.injEq] at h; subst h
      exact .inr ⟨d, e, rx.rp fh, ry.rp fh, hc, new_val fh nt q (.bl _)⟩
    · cases h
theorem os_lt {rm : Nat} (hu : X.A.units + rm < cLine) : OpS X (compareOp .Lt) (gLt rm) := os_ord hu op_lt fun _ _ _ _ _ _ _ _ _ r1 r2 h1 h2 h3 q => PySem.W.lt_data r1 r2 h1 h2 h3 q
theorem os_gt {rm : Nat} (hu : X.A.units + rm < cLine) : OpS X (compareOp .Gt) (gGt rm) := os_ord hu op_gt fun _ _ _ _ _ _ _ _ _ r1 r2 h1 h2 h3 q => PySem.W.gt_data r1 r2 h1 h2 h3 q
theorem os_le {rm : Nat} (hu : X.A.units + rm < cLine) : OpS X (compareOp .LtE) (gLe rm) := os_ord hu op_le fun _ _ _ _ _ _ _ _ _ r1 r2 h1 h2 h3 q => PySem.W.le_data r1 r2 h1 h2 h3 q
theorem os_ge {rm : Nat} (hu : X.A.units + rm < cLine) : OpS X (compareOp .GtE) (gGe rm) := os_ord hu op_ge fun _ _ _ _ _ _ _ _ _ r1 r2 h1 h2 h3 q => PySem.W.ge_data r1 r2 h1 h2 h3 q
/-- is: None on the right; two bools -/
def D.isN : D → Bool
  | .non => true
  | _ => false
def gIs : D → D → Option RV
  | .bl a, .bl b => some (.dat (.bl (decide (a = b))))
  | d, .non => some (.dat (.bl d.isN))
  | _, _ => none
def gIsNot : D → D → Option RV
  | .bl a, .bl b => some (.dat (.bl (!decide (a = b))))
  | d, .non => some (.dat (.bl (!d.isN)))
  | _, _ => none
theorem rv_isN {F : Hp} {x : V} {d : D} (h : Rv X.K F H x d) : decide (x = .non) = d.isN := by
  cases d with
  | lst l => obtain ⟨_, p, vs, e, _⟩ := h; subst e; rfl
  | _ => cases h <;> rfl
theorem os_is : OpS X (compareOp .Is) gIs := by
  refine ⟨_, op_isN.or op_isBl, fun x y d e rv H F fh nt rx ry h Q q => ?_⟩
  unfold gIs at h
  split at h
  · simp only [Option.some.injEq] at h; subst h
    cases rx; cases ry
    exact .inr ⟨_, _, rfl, rfl, new_val fh nt q (.bl _)⟩
  · simp only [Option.some.injEq] at h; subst h
    cases ry
    exact .inl ⟨rfl, new_val fh nt q (by rw [rv_isN rx]; exact .bl _)⟩
  · cases h
theorem os_isnot : OpS X (compareOp .IsNot) gIsNot := by
  refine ⟨_, op_notN.or op_notBl, fun x y d e rv H F fh nt rx ry h Q q => ?_⟩
  unfold gIsNot at h
  split at h
  · simp only [Option.some.injEq] at h; subst h
    cases rx; cases ry
    exact .inr ⟨_, _, rfl, rfl, new_val fh nt q (.bl _)⟩
  · simp only [Option.some.injEq] at h; subst h
    cases ry
    exact .inl ⟨rfl, new_val fh nt q (by rw [rv_isN rx]; exact .bl _)⟩
  · cases h
/-- in: a list, a tuple of data; one sign in a text -/
def depAll (l : List D) : Nat := PyData.depthAll (D.pyAll l)
def inD (neg : Bool) (rm : Nat) : D → D → Option RV
  | d, .lst l => if 1 + min (depAll l) d.dep ≤ rm then some (.dat (.bl (neg ^^ l.any fun y => y.eq d))) else none
  | d, .tup l => if 1 + min (depAll l) d.dep ≤ rm then some (.dat (.bl (neg ^^ l.any fun y => y.eq d))) else none
  | .str ⟨⟨[c]⟩⟩, .str z => some (.dat (.bl (neg ^^ decide (c ∈ z.cps.toList))))
  | _, _ => none
theorem any_py (l : List D) (d : D) : ((D.pyAll l).any fun y => PyData.eqv y d.py) = l.any fun y => y.eq d := by
  rw [pyAll_eq, List.any_map]
  rfl
theorem os_in {rm : Nat} (hu : X.A.units + rm < cLine) : OpS X (compareOp .In) (inD false rm) := by
  refine ⟨fun x y H Q => (∃ d l, Rp X.K H x d ∧ (Rp X.K H y (.lst l) ∨ Rp X.K H y (.tup l)) ∧ 1 + min (depAll l) d.dep ≤ rm ∧ Q (.bl (l.any fun y => y.eq d)) H) ∨ _, OpR.or ?_ op_in_sign, fun x y d e rv H F fh nt rx ry h Q q => ?_⟩
  · intro pins s σ H x y v u Q I rx ry h
    obtain ⟨d, l, h1, h2 | h2, hm, q⟩ := h
    · obtain ⟨as, r1⟩ := Dp.reads I d.py x v h1.dp rx
      obtain ⟨bs, r2⟩ := Dp.reads I (.list (D.pyAll l)) y u h2.dp ry
      refine SeqAt.in_list_reads r2 r1 (by have z := h2.lay; exact z) h1.lay ?_ ⟨.bl _, H, I, rfl, by rw [any_py]; exact q⟩
      have : 1 + min (PyData.depthAll (D.pyAll l)) d.py.depth ≤ rm := hm
      omega
    · obtain ⟨as, r1⟩ := Dp.reads I d.py x v h1.dp rx
      obtain ⟨bs, r2⟩ := Dp.reads I (.tuple (D.pyAll l)) y u h2.dp ry
      refine SeqAt.in_tuple_reads r2 r1 (by have z := h2.lay; exact z) h1.lay ?_ ⟨.bl _, H, I, rfl, by rw [any_py]; exact q⟩
      have : 1 + min (PyData.depthAll (D.pyAll l)) d.py.depth ≤ rm := hm
      omega
  · unfold inD at h
    split at h
    · split at h
      · rename_i hc
        simp only [Option.some.injEq, Bool.false_bne] at h; subst h
        exact .inl ⟨d, _, rx.rp fh, .inl (ry.rp fh), hc, new_val fh nt q (.bl _)⟩
      · cases h
    · split at h
      · rename_i hc
        simp only [Option.some.injEq, Bool.false_bne] at h; subst h
        exact .inl ⟨d, _, rx.rp fh, .inr (ry.rp fh), hc, new_val fh nt q (.bl _)⟩
      · cases h
    · simp only [Option.some.injEq, Bool.false_bne] at h; subst h
      cases rx; cases ry
      exact .inr ⟨_, _, rfl, rfl, new_val fh nt q (.bl _)⟩
    · cases h
theorem os_notin {rm : Nat} (hu : X.A.units + rm < cLine) : OpS X (compareOp .NotIn) (inD true rm) := by
  refine ⟨fun x y H Q => (∃ d l, Rp X.K H x d ∧ (Rp X.K H y (.lst l) ∨ Rp X.K H y (.tup l)) ∧ 1 + min (depAll l) d.dep ≤ rm ∧ Q (.bl (!l.any fun y => y.eq d)) H) ∨ _, OpR.or ?_ op_notIn_sign, fun x y d e rv H F fh nt rx ry h Q q => ?_⟩
  · intro pins s σ H x y v u Q I rx ry h
    obtain ⟨d, l, h1, h2 | h2, hm, q⟩ := h
    · obtain ⟨as, r1⟩ := Dp.reads I d.py x v h1.dp rx
      obtain ⟨bs, r2⟩ := Dp.reads I (.list (D.pyAll l)) y u h2.dp ry
      refine SeqAt.notIn_list_reads r2 r1 (by have z := h2.lay; exact z) h1.lay ?_ ⟨.bl _, H, I, rfl, by rw [any_py]; exact q⟩
      have : 1 + min (PyData.depthAll (D.pyAll l)) d.py.depth ≤ rm := hm
      omega
    · obtain ⟨as, r1⟩ := Dp.reads I d.py x v h1.dp rx
      obtain ⟨bs, r2⟩ := Dp.reads I (.tuple (D.pyAll l)) y u h2.dp ry
      refine SeqAt.notIn_tuple_reads r2 r1 (by have z := h2.lay; exact z) h1.lay ?_ ⟨.bl _, H, I, rfl, by rw [any_py]; exact q⟩
      have : 1 + min (PyData.depthAll (D.pyAll l)) d.py.depth ≤ rm := hm
      omega
  · unfold inD at h
    split at h
    · split at h
      · rename_i hc
        simp only [Option.some.injEq, Bool.true_bne] at h; subst h
        exact .inl ⟨d, _, rx.rp fh, .inl (ry.rp fh), hc, new_val fh nt q (.bl _)⟩
      · cases h
    · split at h
      · rename_i hc
        simp only [Option.some.injEq, Bool.true_bne] at h; subst h
        exact .inl ⟨d, _, rx.rp fh, .inr (ry.rp fh), hc, new_val fh nt q (.bl _)⟩
      · cases h
    · simp only [Option.some.injEq, Bool.true_bne] at h; subst h
      cases rx; cases ry
      exact .inr ⟨_, _, rfl, rfl, new_val fh nt q (.bl _)⟩
    · cases h
end
end Dl
/-! DlD: unary operators, truth, tests, displays, places, slices. -/
namespace Dl
open PySem PySem.Spec PyProof.Rows L2 NdefX
/-! ### one value -/
def vals1 (g : D → Option RV) (a : RV) : Option RV := match a.val with
  | some x => g x
  | none => none
theorem vals1_some {g : D → Option RV} {a r : RV} (h : vals1 g a = some r) : ∃ x, a.val = some x ∧ g x = some r := by
  unfold vals1 at h
  cases e : a.val with
  | none => rw [e] at h; cases h
  | some x => rw [e] at h; exact ⟨x, rfl, h⟩
def dUn (g : D → Option RV) (a : Ex) : Ex := fun env w => (a env w).bind fun ra w1 => lift (vals1 g ra) w1
def gNeg : D → Option RV
  | .int i => some (.dat (.int (-i)))
  | _ => none
def gNot : D → Option RV
  | .bl b => some (.dat (.bl (!b)))
  | _ => none
section
variable {X : Cx} {T : Tbs} {Wi : WX} {pos : Pos} {a b c : Expr} {da db dc : Ex} {rest : List Expr}
theorem un_read {g : D → Option RV} {r : V → Hp → VK → Prop} (hr : ∀ x d rv H F, Same F H → NoTbl F → Rv X.K F H x d → g d = some rv → ∀ Q : VK, (∀ v H' F', Xt H F H' F' → rv.newAt X.K H H' F' v → Q v H') → r x H Q)
    {σ : St} {H : Hp} {Q : VK} (q : tD (Cx.tx X T) Wi (dUn g da) σ H Q) : tD (Cx.tx X T) Wi da σ H (fun x H1 => r x H1 Q) := by
  obtain ⟨B, env, w, F, O, M, s, q⟩ := q
  refine ⟨B, env, w, F, O, M, s, q.bind.imp fun ra w1 q1 x H1 F1 M1 s1 st1 r1 => ?_⟩
  obtain ⟨rv, e, q3⟩ := q1.lift
  obtain ⟨d, ea, eg⟩ := vals1_some e
  refine hr x d rv H1 F1 s1.fh s1.nt (RV.rv s1 r1 ea) eg Q fun v H' F' xt nw => ?_
  exact q3 v H' F' M1 (s1.xt xt) (st1.trans xt.stp) (RV.of_new nw s1 st1.th)
theorem je_neg (ha : JE X T Wi a da) : JE X T Wi (.UnaryOp .USub a pos) (dUn gNeg da) := by
  refine (pe_un un_neg ha).impD fun σ H Q q => un_read (r := rU fun i => .int (-i)) (fun x d rv H F fh nt rx h Q q => ?_) q
  cases d <;> first | (simp only [gNeg] at h; cases h; done) | skip
  simp only [gNeg, Option.some.injEq] at h; subst h
  cases rx
  exact ⟨_, rfl, new_val fh nt q (.int _)⟩
theorem je_not (ha : JE X T Wi a da) : JE X T Wi (.UnaryOp .Not a pos) (dUn gNot da) := by
  refine (pe_not ha).impD fun σ H Q q => un_read (r := fun x H1 Q => ∃ c, x = .bl c ∧ Q (.bl (!c)) H1) (fun x d rv H F fh nt rx h Q q => ?_) q
  cases d <;> first | (simp only [gNot] at h; cases h; done) | skip
  simp only [gNot, Option.some.injEq] at h; subst h
  cases rx
  exact ⟨_, rfl, new_val fh nt q (.bl _)⟩
/-- and, or of bools as values -/
def dAnd (a b : Ex) : Ex := fun env w => (a env w).bind fun ra w1 => match ra with
  | .dat (.bl true) => b env w1
  | .dat (.bl false) => .ok (.dat (.bl false)) w1
  | _ => .stuck
def dOr (a b : Ex) : Ex := fun env w => (a env w).bind fun ra w1 => match ra with
  | .dat (.bl false) => b env w1
  | .dat (.bl true) => .ok (.dat (.bl true)) w1
  | _ => .stuck
theorem je_one {op} (ha : JE X T Wi a da) : JE X T Wi (.BoolOp op [a] pos) da := pe_one ha
theorem je_and (ha : JE X T Wi a da) (hb : JE X T Wi (.BoolOp .And (b :: rest) pos) db) : JE X T Wi (.BoolOp .And (a :: b :: rest) pos) (dAnd da db) := by
  refine (pe_and ha hb).impD fun σ H Q q => ?_
  obtain ⟨B, env, w, F, O, M, s, q⟩ := q
  refine ⟨B, env, w, F, O, M, s, q.bind.imp fun ra w1 q1 x H1 F1 M1 s1 st1 r1 => ?_⟩
  split at q1
  · cases r1
    refine ⟨true, rfl, ?_⟩
    rw [if_pos rfl]
    exact ⟨B, env, w1, F1, _, M1, s1, q1.imp fun rb w2 q2 v H2 F2 M2 s2 st2 r2 => q2 v H2 F2 M2 s2 (st1.trans st2) (RV.since r2 st1.th)⟩
  · cases r1
    refine ⟨false, rfl, ?_⟩
    rw [if_neg Bool.false_ne_true]
    exact q1 _ _ _ _ s1 st1 (.bl false)
  · exact q1.elim
theorem je_or (ha : JE X T Wi a da) (hb : JE X T Wi (.BoolOp .Or (b :: rest) pos) db) : JE X T Wi (.BoolOp .Or (a :: b :: rest) pos) (dOr da db) := by
  refine (pe_or ha hb).impD fun σ H Q q => ?_
  obtain ⟨B, env, w, F, O, M, s, q⟩ := q
  refine ⟨B, env, w, F, O, M, s, q.bind.imp fun ra w1 q1 x H1 F1 M1 s1 st1 r1 => ?_⟩
  split at q1
  · cases r1
    refine ⟨false, rfl, ?_⟩
    rw [if_neg Bool.false_ne_true]
    exact ⟨B, env, w1, F1, _, M1, s1, q1.imp fun rb w2 q2 v H2 F2 M2 s2 st2 r2 => q2 v H2 F2 M2 s2 (st1.trans st2) (RV.since r2 st1.th)⟩
  · cases r1
    refine ⟨true, rfl, ?_⟩
    rw [if_pos rfl]
    exact q1 _ _ _ _ s1 st1 (.bl true)
  · exact q1.elim
/-! ### tests -/
abbrev Tst := Ev → World → Out Bool
/-- a value that is a bool -/
def dTst (a : Ex) : Tst := fun env w => (a env w).bind fun ra w1 => match ra with
  | .dat (.bl b) => .ok b w1
  | _ => .stuck
def D.truth : D → Option Bool
  | .non => some false
  | .bl b => some b
  | .int i => some (i != 0)
  | .str s => some ((s.length : Int) != 0)
  | .lst l => some (!l.isEmpty)
  | .tup l => some (!l.isEmpty)
/-- a value by its truth -/
def dTru (a : Ex) : Tst := fun env w => (a env w).bind fun ra w1 => match ra.val with
  | some d => (match d.truth with
    | some b => .ok b w1
    | none => .stuck)
  | none => .stuck
theorem tst_read {σ : St} {H : Hp} {Q : Bool → Hp → Prop} (q : tT (Cx.tx X T) Wi (dTst da) σ H Q) : tD (Cx.tx X T) Wi da σ H (fun x H1 => ∃ c, x = .bl c ∧ Q c H1) := by
  obtain ⟨B, env, w, F, O, M, s, q⟩ := q
  refine ⟨B, env, w, F, O, M, s, q.bind.imp fun ra w1 q1 x H1 F1 M1 s1 st1 r1 => ?_⟩
  split at q1
  · cases r1; exact ⟨_, rfl, q1 _ _ _ s1 st1⟩
  · exact q1.elim
theorem jt_val (ha : JE X T Wi a da) (he : ∀ whole, isTrue a X.env whole = (do let v ← whole; standAt a.pos; holding [v] (truthy v)) := by intro _; rfl) : JT X T Wi a (dTst da) :=
  (pt_val ha he).impD fun σ H Q q => tst_read q
theorem jt_cmp {op : CmpOp} {g : D → D → Option RV} (h : OpS X (compareOp op) g) (ha : JE X T Wi a da) (hb : JE X T Wi b db) (hm : behindInMarks op b = false := by first | exact nomark _ | rfl) : JT X T Wi (.Compare a [op] [b] pos) (dTst (dBin g da db)) := by
  obtain ⟨r, ho, hr⟩ := h
  exact (pt_cmpR ho ha hb hm).impD fun σ H Q q => op_read (f := compareOp op) hr (tst_read q)
theorem jt_truth (ha : JE X T Wi a da) (he : ∀ whole, isTrue a X.env whole = (do let v ← whole; standAt a.pos; holding [v] (truthy v)) := by intro _; rfl) : JT X T Wi a (dTru da) := by
  refine (pt_truth ha he).impD fun σ H Q q => ?_
  obtain ⟨B, env, w, F, O, M, s, q⟩ := q
  refine ⟨B, env, w, F, O, M, s, q.bind.imp fun ra w1 q1 x H1 F1 M1 s1 st1 r1 => ?_⟩
  split at q1
  · rename_i d ed
    split at q1
    · rename_i k ek
      refine ⟨k, ?_, q1 _ _ _ s1 st1⟩
      have rv := RV.rv s1 r1 ed
      cases d with
      | non => cases rv; simp only [D.truth, Option.some.injEq] at ek; exact ek.symm
      | bl b => cases rv; simp only [D.truth, Option.some.injEq] at ek; exact ek.symm
      | int i => cases rv; simp only [D.truth, Option.some.injEq] at ek; exact ek.symm
      | str y =>
        cases rv with
        | str _ ok => simp only [D.truth, Option.some.injEq] at ek; exact ⟨ok.2, ek.symm⟩
      | lst l =>
        obtain ⟨_, p, vs, e, hs, hp⟩ := rv
        subst e
        simp only [D.truth, Option.some.injEq] at ek
        refine .inl ⟨vs, hs, ?_⟩
        rw [← ek]
        cases hp <;> rfl
      | tup l =>
        cases rv with
        | tup hz hs hp =>
          simp only [D.truth, Option.some.injEq] at ek
          refine .inr (.inl ⟨_, sqT_mono s1.fh hs, ?_⟩)
          rw [← ek]
          cases hp <;> rfl
    · exact q1.elim
  · exact q1.elim
def tNot' (a : Tst) : Tst := fun env w => (a env w).bind fun b w1 => .ok (!b) w1
def tAnd' (a b : Tst) : Tst := fun env w => (a env w).bind fun c w1 => if c = true then b env w1 else .ok false w1
def tOr' (a b : Tst) : Tst := fun env w => (a env w).bind fun c w1 => if c = true then .ok true w1 else b env w1
variable {ta tb : Tst}
theorem jt_not (ha : JT X T Wi a ta) : JT X T Wi (.UnaryOp .Not a pos) (tNot' ta) := by
  refine (pt_not ha).impD fun σ H Q q => ?_
  obtain ⟨B, env, w, F, O, M, s, q⟩ := q
  exact ⟨B, env, w, F, O, M, s, q.bind.imp fun c w1 q1 H1 F1 M1 s1 st1 => q1 H1 F1 M1 s1 st1⟩
theorem jw_and1 (ha : JT X T Wi a ta) : JW X T Wi (.BoolOp .And [a] pos) ta := pw_and1 ha
theorem jw_or1 (ha : JT X T Wi a ta) : JW X T Wi (.BoolOp .Or [a] pos) ta := pw_or1 ha
theorem jw_and (ha : JT X T Wi a ta) (hb : JW X T Wi (.BoolOp .And (b :: rest) pos) tb) : JW X T Wi (.BoolOp .And (a :: b :: rest) pos) (tAnd' ta tb) := by
  refine (pw_and ha hb).impD fun σ H Q q => ?_
  obtain ⟨B, env, w, F, O, M, s, q⟩ := q
  refine ⟨B, env, w, F, O, M, s, q.bind.imp fun c w1 q1 H1 F1 M1 s1 st1 => ?_⟩
  cases c with
  | true =>
    rw [if_pos rfl] at q1 ⊢
    exact ⟨B, env, w1, F1, O, M1, s1, q1.imp fun _ w2 q2 H2 F2 M2 s2 st2 => q2 H2 F2 M2 s2 (st1.trans st2)⟩
  | false =>
    rw [if_neg Bool.false_ne_true] at q1 ⊢
    exact q1 H1 F1 M1 s1 st1
theorem jw_or (ha : JT X T Wi a ta) (hb : JW X T Wi (.BoolOp .Or (b :: rest) pos) tb) : JW X T Wi (.BoolOp .Or (a :: b :: rest) pos) (tOr' ta tb) := by
  refine (pw_or ha hb).impD fun σ H Q q => ?_
  obtain ⟨B, env, w, F, O, M, s, q⟩ := q
  refine ⟨B, env, w, F, O, M, s, q.bind.imp fun c w1 q1 H1 F1 M1 s1 st1 => ?_⟩
  cases c with
  | true =>
    rw [if_pos rfl] at q1 ⊢
    exact q1 H1 F1 M1 s1 st1
  | false =>
    rw [if_neg Bool.false_ne_true] at q1 ⊢
    exact ⟨B, env, w1, F1, O, M1, s1, q1.imp fun _ w2 q2 H2 F2 M2 s2 st2 => q2 H2 F2 M2 s2 (st1.trans st2)⟩
theorem jt_bool {op} (h : JW X T Wi (.BoolOp op (a :: rest) pos) ta) : JT X T Wi (.BoolOp op (a :: rest) pos) ta := PW.pt h
def dIf (t : Tst) (a b : Ex) : Ex := fun env w => (t env w).bind fun c w1 => if c = true then a env w1 else b env w1
theorem je_if (hc : JT X T Wi c ta) (ha : JE X T Wi a da) (hb : JE X T Wi b db) : JE X T Wi (.IfExp c a b pos) (dIf ta da db) := by
  refine (pe_ifExp hc ha hb).impD fun σ H Q q => ?_
  obtain ⟨B, env, w, F, O, M, s, q⟩ := q
  refine ⟨B, env, w, F, O, M, s, q.bind.imp fun c w1 q1 H1 F1 M1 s1 st1 => ?_⟩
  cases c with
  | true =>
    rw [if_pos rfl] at q1 ⊢
    exact ⟨B, env, w1, F1, O, M1, s1, q1.imp fun rb w2 q2 v H2 F2 M2 s2 st2 r2 => q2 v H2 F2 M2 s2 (st1.trans st2) (RV.since r2 st1.th)⟩
  | false =>
    rw [if_neg Bool.false_ne_true] at q1 ⊢
    exact ⟨B, env, w1, F1, O, M1, s1, q1.imp fun rb w2 q2 v H2 F2 M2 s2 st2 r2 => q2 v H2 F2 M2 s2 (st1.trans st2) (RV.since r2 st1.th)⟩
/-- a < b < c -/
def dChain (g g' : D → D → Option RV) (a b c : Ex) : Ex := fun env w => (a env w).bind fun ra w1 => (b env w1).bind fun rb w2 => match vals2 g ra rb with
  | some (.dat (.bl true)) => (c env w2).bind fun rc w3 => lift (vals2 g' rb rc) w3
  | some (.dat (.bl false)) => .ok (.dat (.bl false)) w2
  | _ => .stuck
theorem chain_read {f f' : Value → Value → Sem Value} {g g' : D → D → Option RV} {r r' : R2} (hr : ∀ x y d e rv H F, Same F H → NoTbl F → Rv X.K F H x d → Rv X.K F H y e → g d e = some rv → ∀ Q : VK, (∀ v H' F', Xt H F H' F' → rv.newAt X.K H H' F' v → Q v H') → r x y H Q)
    (hr' : ∀ x y d e rv H F, Same F H → NoTbl F → Rv X.K F H x d → Rv X.K F H y e → g' d e = some rv → ∀ Q : VK, (∀ v H' F', Xt H F H' F' → rv.newAt X.K H H' F' v → Q v H') → r' x y H Q)
    {σ : St} {H : Hp} {Q : VK} (q : tD (Cx.tx X T) Wi (dChain g g' da db dc) σ H Q) : tChain r r' (tD (Cx.tx X T) Wi da) (tD (Cx.tx X T) Wi db) (tD (Cx.tx X T) Wi dc) σ H Q := by
  obtain ⟨B, env, w, F, O, M, s, q⟩ := q
  refine ⟨B, env, w, F, O, M, s, q.bind.imp fun ra w1 q1 x H1 F1 M1 s1 st1 r1 => ?_⟩
  refine ⟨B, env, w1, F1, O, M1, s1, q1.bind.imp fun rb w2 q2 y H2 F2 M2 s2 st2 r2 => ?_⟩
  split at q2
  · rename_i e
    obtain ⟨d, e', ea, eb, eg⟩ := vals2_some e
    refine hr x y d e' _ H2 F2 s2.fh s2.nt (RV.rv s2 (RV.step r1 st2) ea) (RV.rv s2 r2 eb) eg _ fun v H3 F3 xt nw => ?_
    cases nw
    refine ⟨true, rfl, ?_⟩
    rw [if_pos rfl]
    have s3 := s2.xt xt
    have r2' := RV.step r2 (xt.stp (M := M2))
    refine ⟨B, env, w2, F3, O, M2, s3, q2.bind.imp fun rc w4 q4 z H4 F4 M4 s4 st4 r4 => ?_⟩
    obtain ⟨rv, e2, q5⟩ := q4.lift
    obtain ⟨d2, e2', ea2, eb2, eg2⟩ := vals2_some e2
    refine hr' y z d2 e2' rv H4 F4 s4.fh s4.nt (RV.rv s4 (RV.step r2' st4) ea2) (RV.rv s4 r4 eb2) eg2 Q fun v5 H5 F5 xt5 nw5 => ?_
    have st := ((st1.trans st2).trans xt.stp).trans st4
    exact q5 v5 H5 F5 M4 (s4.xt xt5) (st.trans xt5.stp) (RV.of_new nw5 s4 st.th)
  · rename_i e
    obtain ⟨d, e', ea, eb, eg⟩ := vals2_some e
    refine hr x y d e' _ H2 F2 s2.fh s2.nt (RV.rv s2 (RV.step r1 st2) ea) (RV.rv s2 r2 eb) eg _ fun v H3 F3 xt nw => ?_
    cases nw
    refine ⟨false, rfl, ?_⟩
    rw [if_neg Bool.false_ne_true]
    exact q2 _ _ _ _ (s2.xt xt) ((st1.trans st2).trans xt.stp) (.bl false)
  · exact q2.elim
theorem je_chain {op op' : CmpOp} {g g' : D → D → Option RV} (h : OpS X (compareOp op) g) (h' : OpS X (compareOp op') g') (ha : JE X T Wi a da) (hb : JE X T Wi b db) (hc : JE X T Wi c dc) (hm : lastMarks [op, op'] [b, c] = false := by with_unfolding_all rfl) :
    JE X T Wi (.Compare a [op, op'] [b, c] pos) (dChain g g' da db dc) := by
  obtain ⟨r, ho, hr⟩ := h
  obtain ⟨r', ho', hr'⟩ := h'
  exact (pe_chain ho ho' ha hb hc hm).impD fun σ H Q q => chain_read (f := compareOp op) (f' := compareOp op') hr hr' q
theorem jt_chain {op op' : CmpOp} {g g' : D → D → Option RV} (h : OpS X (compareOp op) g) (h' : OpS X (compareOp op') g') (ha : JE X T Wi a da) (hb : JE X T Wi b db) (hc : JE X T Wi c dc) (hm : lastMarks [op, op'] [b, c] = false := by with_unfolding_all rfl) :
    JT X T Wi (.Compare a [op, op'] [b, c] pos) (dTst (dChain g g' da db dc)) := by
  obtain ⟨r, ho, hr⟩ := h
  obtain ⟨r', ho', hr'⟩ := h'
  exact (pt_chain ho ho' ha hb hc hm).impD fun σ H Q q => chain_read (f := compareOp op) (f' := compareOp op') hr hr' (tst_read q)
/-! ### places -/
theorem atI_pair {α β : Type} {F : α → β → Prop} {vs : List α} {l : List β} {i : Int} {d : β} (h : Paired F vs l) (e : atI l i = some d) : ∃ v, atI vs i = some v ∧ F v d := by
  unfold atI at e ⊢
  rw [h.length]
  cases q : ixN l.length i with
  | none => rw [q] at e; cases e
  | some j => rw [q] at e; exact Pr.get h e
def gIx : D → D → Option RV
  | .lst l, .int i => (atI l i).map .dat
  | .tup l, .int i => (atI l i).map .dat
  | .str s, .int i => (atI s.cps.toList i).map fun c => .dat (.str ⟨#[c]⟩)
  | _, _ => none
theorem sOk_mem {s : Str} {c : Nat} (h : SOk s) (hc : c ∈ s.cps.toList) : SOk ⟨#[c]⟩ := by
  obtain ⟨h, _⟩ := h
  refine ⟨?_, by show 1 ≤ sizeLine; rw [sizeLine_eq]; decide⟩
  unfold PyData.strOk at *
  rw [Array.all_eq_true_iff_forall_mem] at h
  have := h c (by simpa using hc)
  simpa using this
theorem atI_mem {α : Type} {l : List α} {i : Int} {d : α} (e : atI l i = some d) : d ∈ l := by
  obtain ⟨j, _, h, _⟩ := atI_get e
  exact List.mem_of_getElem? h
theorem je_ix (ha : JE X T Wi a da) (hb : JE X T Wi b db) (hs : PlainIx b := by exact fun _ _ => rfl) : JE X T Wi (.Subscript a b pos) (dBin gIx da db) := by
  refine (pe_ix ix_seq ha hb hs).impD fun σ H Q q => op_read (f := getItem) (r := rIx X.K) (fun x y d e rv H F fh nt rx ry h Q q => ?_) q
  cases d <;> cases e <;> first | (simp only [gIx] at h; cases h; done) | skip
  · rename_i z i
    simp only [gIx] at h
    cases ec : atI z.cps.toList i with
    | none => rw [ec] at h; cases h
    | some c =>
      rw [ec] at h
      simp only [Option.map_some, Option.some.injEq] at h; subst h
      cases rx with
      | str _ ok =>
        cases ry
        exact .inr (.inr ⟨_, _, c, rfl, rfl, ok.2, ec, new_val fh nt q (.str _ (sOk_mem ok (atI_mem ec)))⟩)
  · rename_i l i
    simp only [gIx] at h
    cases ec : atI l i with
    | none => rw [ec] at h; cases h
    | some c =>
      rw [ec] at h
      simp only [Option.map_some, Option.some.injEq] at h; subst h
      obtain ⟨_, p, vs, e, hs, hp⟩ := rx
      subst e
      cases ry
      obtain ⟨v, ev, rv⟩ := atI_pair hp ec
      exact .inl ⟨p, vs, _, v, rfl, rfl, hs, ev, new_val fh nt q rv⟩
  · rename_i l i
    simp only [gIx] at h
    cases ec : atI l i with
    | none => rw [ec] at h; cases h
    | some c =>
      rw [ec] at h
      simp only [Option.map_some, Option.some.injEq] at h; subst h
      cases rx with
      | tup hz hs hp =>
        cases ry
        obtain ⟨v, ev, rv⟩ := atI_pair hp ec
        exact .inr (.inl ⟨_, _, _, v, rfl, rfl, sqT_mono fh hs, ev, new_val fh nt q rv⟩)
/-- slices -/
def optI (o : Option Ex) (env : Ev) (w : World) : Out (Option Int) := match o with
  | none => .ok none w
  | some e => (e env w).bind fun r w1 => match r with
    | .dat (.int i) => .ok (some i) w1
    | _ => .stuck
def cutD {α : Type} (l : List α) (lo hi : Option Int) : List α := (l.drop (HT.sIx l.length 0 lo)).take (HT.sIx l.length l.length hi - HT.sIx l.length 0 lo)
def gSl (lo hi : Option Int) : D → Option RV
  | .lst l => some (.fresh (cutD l lo hi))
  | .tup l => some (.dat (.tup (cutD l lo hi)))
  | .str s => some (.dat (.str ⟨(cutD s.cps.toList lo hi).toArray⟩))
  | _ => none
def dSl (a : Ex) (lo hi : Option Ex) : Ex := fun env w => (a env w).bind fun ra w1 => (optI lo env w1).bind fun l w2 => (optI hi env w2).bind fun u w3 => lift (vals1 (gSl l u) ra) w3
def tOpt (X : Tx) (Wi : WX) (o : Option Ex) : TO := fun σ H Q => ∃ B env w F O M, SR X B env w σ H F O M ∧
  Pst (optI o env w) (fun l w' => ∀ H' F' M', SR X B env w' σ H' F' O M' → Stp H F M H' F' M' → Q l H') (badX X B Wi)
abbrev JO (X : Cx) (T : Tbs) (Wi : WX) (e : Option Expr) (d : Option Ex) : Prop := PO X e (tOpt (Cx.tx X T) Wi d)
theorem jo_none : JO X T Wi none none := ⟨fun pins s σ H Q I q => by
  obtain ⟨B, env, w, F, O, M, sr, q⟩ := q
  exact po_none.run pins s σ H Q I (q H F M sr .refl)⟩
theorem jo_some (ha : JE X T Wi a da) : JO X T Wi (some a) (some da) := ⟨fun pins s σ H Q I q => by
  refine (po_some ha).run pins s σ H Q I ?_
  obtain ⟨B, env, w, F, O, M, sr, q⟩ := q
  have q := (show Pst ((da env w).bind fun r w1 => match r with
    | .dat (.int i) => Out.ok (some i) w1
    | _ => .stuck) _ _ from q).bind
  refine ⟨B, env, w, F, O, M, sr, q.imp fun ra w1 q1 x H1 F1 M1 s1 st1 r1 => ?_⟩
  split at q1
  · cases r1; exact ⟨_, rfl, q1 _ _ _ s1 st1⟩
  · exact q1.elim⟩
theorem drop_take_mem {α : Type} {l : List α} {m n : Nat} {c : α} (h : c ∈ (l.drop m).take n) : c ∈ l := List.mem_of_mem_drop (List.mem_of_mem_take h)
theorem cutD_len {α : Type} (l : List α) (lo hi : Option Int) : (cutD l lo hi).length ≤ l.length := by
  unfold cutD
  rw [List.length_take, List.length_drop]
  omega
theorem sOk_cut {s : Str} {lo hi : Option Int} (h : SOk s) : SOk ⟨(cutD s.cps.toList lo hi).toArray⟩ := by
  obtain ⟨h, hz⟩ := h
  refine ⟨?_, Nat.le_trans ?_ hz⟩
  · unfold PyData.strOk at *
    rw [Array.all_eq_true_iff_forall_mem] at h ⊢
    intro c hc
    refine h c ?_
    have : c ∈ cutD s.cps.toList lo hi := by simpa using hc
    have := drop_take_mem this
    simpa using this
  · show (cutD s.cps.toList lo hi).toArray.size ≤ s.cps.size
    have := cutD_len s.cps.toList lo hi
    rw [List.size_toArray]
    simpa using this
theorem cutD_whole {α : Type} {l : List α} {lo hi : Option Int} (h : HT.sIx l.length 0 lo = 0 ∧ HT.sIx l.length l.length hi = l.length) : cutD l lo hi = l := by
  unfold cutD
  rw [h.1, h.2, List.drop_zero, Nat.sub_zero, List.take_length]
theorem cut_pair {α β : Type} {F : α → β → Prop} {vs : List α} {l : List β} {lo hi : Option Int} (h : Paired F vs l) : Paired F ((vs.drop (HT.sIx vs.length 0 lo)).take (HT.sIx vs.length vs.length hi - HT.sIx vs.length 0 lo)) (cutD l lo hi) := by
  unfold cutD
  rw [h.length]
  exact Pr.take _ (Pr.drop _ h)
theorem je_slice {lo hi : Option Expr} {dl dh : Option Ex} {p2 : Pos} (ha : JE X T Wi a da) (hl : JO X T Wi lo dl) (hh : JO X T Wi hi dh) : JE X T Wi (.Subscript a (.Slice lo hi none p2) pos) (dSl da dl dh) := by
  refine (pe_slice (SlR.or sl_list (SlR.or sl_tupA sl_str)) ha hl hh).impD fun σ H Q q => ?_
  obtain ⟨B, env, w, F, O, M, s, q⟩ := q
  refine ⟨B, env, w, F, O, M, s, q.bind.imp fun ra w1 q1 x H1 F1 M1 s1 st1 r1 => ?_⟩
  refine ⟨B, env, w1, F1, O, M1, s1, q1.bind.imp fun l w2 q2 H2 F2 M2 s2 st2 => ?_⟩
  refine ⟨B, env, w2, F2, O, M2, s2, q2.bind.imp fun u w3 q3 H3 F3 M3 s3 st3 => ?_⟩
  obtain ⟨rv, e, q4⟩ := q3.lift
  obtain ⟨d, ea, eg⟩ := vals1_some e
  have rx := RV.rv s3 (RV.step r1 (st2.trans st3)) ea
  have st := (st1.trans st2).trans st3
  have fin : ∀ v H' F', Xt H3 F3 H' F' → rv.newAt X.K H3 H' F' v → Q v H' := fun v H' F' xt nw => q4 v H' F' M3 (s3.xt xt) (st.trans xt.stp) (RV.of_new nw s3 st.th)
  cases d <;> first | (simp only [gSl] at eg; cases eg; done) | skip
  · simp only [gSl, Option.some.injEq] at eg; subst eg
    cases rx with
    | str _ ok => exact .inr (.inr ⟨_, rfl, ok.2, new_val s3.fh s3.nt fin (.str _ (sOk_cut ok))⟩)
  · simp only [gSl, Option.some.injEq] at eg; subst eg
    obtain ⟨hz, p, vs, e, hs, hp⟩ := rx
    subst e
    exact .inl ⟨p, vs, rfl, hs, fun p' hp' => new_lst s3.fh s3.nt fin hp' (Nat.le_trans (cutD_len _ _ _) hz) (cut_pair hp)⟩
  · rename_i k
    simp only [gSl, Option.some.injEq] at eg; subst eg
    cases rx with
    | @tup a vs _ hz hs hp =>
      refine .inr (.inl ⟨a, vs, rfl, sqT_mono s3.fh hs, fun hw => ?_, fun _ p' hp' => new_tup s3.fh s3.nt fin hp' (Nat.le_trans (cutD_len _ _ _) hz) (cut_pair hp)⟩)
      have hw' : HT.sIx k.length 0 l = 0 ∧ HT.sIx k.length k.length u = k.length := by rw [← hp.length]; exact hw
      refine new_val s3.fh s3.nt fin ?_
      rw [cutD_whole hw']
      exact .tup hz hs hp
end
end Dl
/-! DlE: arguments, displays, calls of defs, calls of built-ins. -/
namespace Dl
open PySem PySem.Spec PyProof.Rows L2 NdefX
/-! ### arguments that are kept: what is fresh is frozen -/
def RV.arg : RV → Option RV
  | .dat d => some (.dat d)
  | .fresh l => some (.dat (.lst l))
  | .bor _ _ => none
  | .wref k => some (.wref k)
def argAt (X : Tx) (F : Hp) (M : List Addr) (v : V) : RV → Prop
  | .dat d => Rp X.K F v d
  | .wref k => ∃ m, M[k]? = some m ∧ v = .ref m
  | _ => False
abbrev Exs := Ev → World → Out (List RV)
def aNil : Exs := fun _ w => .ok [] w
def aCons (e : Ex) (r : Exs) : Exs := fun env w => (e env w).bind fun x w1 => match x.arg with
  | some a => (r env w1).bind fun as w2 => .ok (a :: as) w2
  | none => .stuck
/-- read as they are -/
def rNil : Exs := fun _ w => .ok [] w
def rCons (e : Ex) (r : Exs) : Exs := fun env w => (e env w).bind fun x w1 => (r env w1).bind fun xs w2 => .ok (x :: xs) w2
def tA (X : Tx) (Wi : WX) (e : Exs) : TA := fun σ H Q => ∃ B env w F O M, SR X B env w σ H F O M ∧
  Pst (e env w) (fun rs w' => ∀ vs H' F' M', SR X B env w' σ H' F' O M' → Stp H F M H' F' M' → Paired (argAt X F' M') vs rs → Q vs H') (badX X B Wi)
abbrev JA (X : Cx) (T : Tbs) (Wi : WX) (es : List Expr) (d : Exs) : Prop := PA X es (tA (Cx.tx X T) Wi d)
section
variable {X : Tx} {H F H' F' : Hp} {M M' : List Addr}
theorem Stp.freeze {p : Addr} {o : HO} (st : Stp H F M H' F' M') (hp : H p = none) (hF : F' p = none) : Stp H F M H' (upd F' p o) M' :=
  ⟨st.fg.trans (same_upd hF), st.fr, st.th, fun a h e => by
    by_cases z : a = p
    · subst z; exact absurd hp h
    · rw [upd_ne z]; exact st.nf a h e, st.mw⟩
theorem argAt_step {v : V} {r : RV} (h : argAt X F M v r) (st : Stp H F M H' F' M') : argAt X F' M' v r := by
  obtain ⟨nw, em, _⟩ := id st.mw
  cases r with
  | dat d => exact Rp.mono st.fg _ _ h
  | wref k => obtain ⟨m, e1, e2⟩ := h; exact ⟨m, mem_of_pfx em e1, e2⟩
  | fresh l => exact h.elim
  | bor i l => exact h.elim
/-- a value is kept -/
theorem keep_arg {B : Base} {env : Ev} {w w1 : World} {σ : St} {O : Nat → Addr} {v : V} {r a : RV} (s : SR X B env w σ H F O M) (s1 : SR X B env w1 σ H' F' O M') (st : Stp H F M H' F' M') (h : r.isAt X H env O H' F' M' v) (e : r.arg = some a) :
    ∃ F1, SR X B env w1 σ H' F1 O M' ∧ Stp H F M H' F1 M' ∧ argAt X F1 M' v a := by
  cases r with
  | dat d => cases e; exact ⟨F', s1, st, h⟩
  | wref k => cases e; exact ⟨F', s1, st, h⟩
  | bor i l => cases e
  | fresh l =>
    cases e
    obtain ⟨hz, p, vs, e1, e2, e3, e4, e5, e6⟩ := h
    have hB : B.H p = none := by
      cases q : B.H p with
      | none => rfl
      | some o => exact absurd e2 (s.st.th p (by rw [q]; simp))
    have hO : ∀ i l, env[i]? = some (.own l) → O i ≠ p := fun i l e z => by
      obtain ⟨_, _, _, _, _, ws, q, _⟩ := s.sl i _ e
      rw [z, e2] at q; cases q
    refine ⟨upd F' p (.lst vs), s1.freeze hB e4 hO e5 e3, st.freeze e2 e3, ?_⟩
    subst e1
    exact .lst hz (SqL.of upd_same) (Rp.monoAll (same_upd e3) _ _ e6)
end
section
variable {X : Cx} {T : Tbs} {Wi : WX} {pos : Pos} {e : Expr} {es : List Expr} {d : Ex} {ds : Exs}
theorem ja_nil : JA X T Wi [] aNil := pa_nil.impD fun σ H Q q => by
  obtain ⟨B, env, w, F, O, M, s, q⟩ := q
  exact q [] H F M s .refl .nil
theorem ja_cons (h : JE X T Wi e d) (hs : JA X T Wi es ds) (hst : starEach (e :: es) X.env = (false, eval e X.env) :: starEach es X.env := by rfl) : JA X T Wi (e :: es) (aCons d ds) := by
  refine (pa_cons h hs hst).impD fun σ H Q q => ?_
  obtain ⟨B, env, w, F, O, M, s, q⟩ := q
  refine ⟨B, env, w, F, O, M, s, q.bind.imp fun r w1 q1 x H1 F1 M1 s1 st1 r1 => ?_⟩
  split at q1
  · rename_i a ea
    obtain ⟨F2, s2, st2, a2⟩ := keep_arg s s1 st1 r1 ea
    exact ⟨B, env, w1, F2, O, M1, s2, q1.bind.imp fun as w3 q3 vs H3 F3 M3 s3 st3 p3 => q3 (x :: vs) H3 F3 M3 s3 (st2.trans st3) (.cons (argAt_step a2 st3) p3)⟩
  · exact q1.elim
theorem jr_nil : JR X T Wi [] rNil := pa_nil.impD fun σ H Q q => by
  obtain ⟨B, env, w, F, O, M, s, q⟩ := q
  exact q [] H F M s .refl .nil
theorem jr_cons (h : JE X T Wi e d) (hs : JR X T Wi es ds) (hst : starEach (e :: es) X.env = (false, eval e X.env) :: starEach es X.env := by rfl) : JR X T Wi (e :: es) (rCons d ds) := by
  refine (pa_cons h hs hst).impD fun σ H Q q => ?_
  obtain ⟨B, env, w, F, O, M, s, q⟩ := q
  refine ⟨B, env, w, F, O, M, s, q.bind.imp fun r w1 q1 x H1 F1 M1 s1 st1 r1 => ?_⟩
  exact ⟨B, env, w1, F1, O, M1, s1, q1.bind.imp fun as w3 q3 vs H3 F3 M3 s3 st3 p3 => q3 (x :: vs) H3 F3 M3 s3 (st1.trans st3) (.cons (RV.step r1 st3) (Paired.mapP p3 fun _ _ z => RV.since z st1.th))⟩
/-! ### displays -/
def RV.dd : RV → Option D
  | .dat d => some d
  | _ => none
def dats : List RV → Option (List D)
  | [] => some []
  | r :: rs => match r.dd, dats rs with
    | some d, some ds => some (d :: ds)
    | _, _ => none
theorem dats_at {X : Tx} {F : Hp} {M : List Addr} : ∀ {vs : List V} {rs : List RV} {ds : List D}, Paired (argAt X F M) vs rs → dats rs = some ds → Paired (Rp X.K F) vs ds
  | _, _, _, .nil, e => by cases e; exact .nil
  | _, r :: rs, ds, .cons h t, e => by
    unfold dats at e
    split at e
    · rename_i d ds' e1 e2
      cases e
      refine .cons ?_ (dats_at t e2)
      cases r with
      | dat d' => cases e1; exact h
      | _ => cases e1
    · cases e
def dTup (es : Exs) : Ex := fun env w => (es env w).bind fun rs w1 => match dats rs with
  | some ds => if ds.length ≤ 1000 then .ok (.dat (.tup ds)) w1 else .stuck
  | none => .stuck
def dLst (es : Exs) : Ex := fun env w => (es env w).bind fun rs w1 => match dats rs with
  | some ds => if ds.length ≤ 1000 then .ok (.fresh ds) w1 else .stuck
  | none => .stuck
theorem je_tup {k : Nat} (h : JA X T Wi es ds) : JE X T Wi (.Tuple es k pos) (dTup ds) := by
  refine (pe_tup h).impD fun σ H Q q => ?_
  obtain ⟨B, env, w, F, O, M, s, q⟩ := q
  refine ⟨B, env, w, F, O, M, s, q.bind.imp fun rs w1 q1 vs H1 F1 M1 s1 st1 p1 => ?_⟩
  split at q1
  · rename_i l el
    split at q1
    · rename_i hz
      have pp := dats_at p1 el
      have hz' : l.length ≤ sizeLine := Nat.le_trans hz (by rw [sizeLine_eq]; decide)
      exact ⟨by rw [pp.length]; exact hz', fun p hp => new_tup s1.fh s1.nt (fun v H' F' xt nw => q1 v H' F' M1 (s1.xt xt) (st1.trans xt.stp) (RV.of_new nw s1 st1.th)) hp hz' pp⟩
    · exact q1.elim
  · exact q1.elim
theorem je_lst (h : JA X T Wi es ds) : JE X T Wi (.List es pos) (dLst ds) := by
  refine (pe_lst h).impD fun σ H Q q => ?_
  obtain ⟨B, env, w, F, O, M, s, q⟩ := q
  refine ⟨B, env, w, F, O, M, s, q.bind.imp fun rs w1 q1 vs H1 F1 M1 s1 st1 p1 => ?_⟩
  split at q1
  · rename_i l el
    split at q1
    · rename_i hz
      have pp := dats_at p1 el
      have hz' : l.length ≤ sizeLine := Nat.le_trans hz (by rw [sizeLine_eq]; decide)
      exact ⟨by rw [pp.length]; exact hz', fun p hp => new_lst s1.fh s1.nt (fun v H' F' xt nw => q1 v H' F' M1 (s1.xt xt) (st1.trans xt.stp) (RV.of_new nw s1 st1.th)) hp hz' pp⟩
    · exact q1.elim
  · exact q1.elim
end
/-! ### calls of defs -/
structure Cs where
  call : Nat → List RV → World → Out RV
  room : Nat
/-- what a def promises that computes m -/
def spD (X : Tx) (m : List RV → World → Out RV) : Sp := fun vs H Q E => ∃ F M args w, Same F H ∧ NoTbl F ∧ WRel X F H M w ∧ TabsN X.T.tabs H ∧ Paired (argAt X F M) vs args ∧
  Pst (m args w) (fun r w' => ∀ v H' F' M', Same F' H' → NoTbl F' → WRel X F' H' M' w' → TabsN X.T.tabs H' → Stp H F M H' F' M' → r.isAt X H [] (fun _ => 0) H' F' M' v → Q v H')
    (fun x _ w' => ∀ cls d H' F' M', Same F' H' → NoTbl F' → WRel X F' H' M' w' → TabsN X.T.tabs H' → Stp H F M H' F' M' → x.isAt X F' H' cls d → E cls d H')
/-- the def by the name x is the i-th one -/
structure Cal (X : Cx) (T : Tbs) (n : Nat) (C : Cs) (x : Str) (i : Nat) : Prop where
  ex : ∃ (a : Addr) (fd : FuncData) (ps : List Str), X.mg x = some (.ref a) ∧ PySem.W.keepIn X.K (.ref a) = true ∧ Binds X.K fd ps [] ∧ FnOk X.prog X.w X.K X.mg X.base (L2.CX X.prog X.w) n a fd ps (spD (Cx.tx X T) (C.call i))
def withEnv {α : Type} (env : Ev) (o : Out α) : Out α := match o with
  | .ok a w => .ok a w
  | .exc x _ w => .exc x env w
  | .stuck => .stuck
def dCall (C : Cs) (i : Nat) (as : Exs) : Ex := fun env w => (as env w).bind fun rs w1 => withEnv env (C.call i rs w1)
@[simp] theorem withEnv_ok {α : Type} (env : Ev) (a : α) (w : World) : withEnv env (.ok a w) = .ok a w := rfl
theorem isAt_nil {X : Tx} {Hs H F : Hp} {M : List Addr} {v : V} {r : RV} {env : Ev} {O : Nat → Addr} (h : r.isAt X Hs [] (fun _ => 0) H F M v) : r.isAt X Hs env O H F M v := by
  cases r with
  | bor i l => obtain ⟨e, _⟩ := h; cases i <;> cases e
  | dat d => exact h
  | fresh l => exact h
  | wref k => exact h
section
variable {X : Cx} {T : Tbs} {Wi : WX} {pos p : Pos} {e : Expr} {es : List Expr} {d : Ex} {ds : Exs} {C : Cs} {n i : Nat} {x : Str}
theorem je_call (c : Cal X T n C x i) (hr : Room n X.A) (tk : Takes X Wi) (hg : Gl X x) (h : JA X T Wi (e :: es) ds) (hdb : (x == ("__debug__" : Str)) = false := by decide)
    (he : starEach (e :: es) X.env = (false, eval e X.env) :: starEach es X.env := by rfl) (hpl : (backTo pos (starEach es X.env)).any (·.1) = false := by rfl) : JE X T Wi (.Call (.Name x p) (e :: es) [] pos) (dCall C i ds) := by
  obtain ⟨a, fd, ps, hm, hk, hb, F⟩ := c.ex
  refine (pe_callS F hr hg hm hk hb (fun σ => passAt tk σ) h hdb he hpl).impD fun σ H Q q => ?_
  obtain ⟨B, env, w, F, O, M, s, q⟩ := q
  refine ⟨B, env, w, F, O, M, s, q.bind.imp fun rs w1 q1 vs H1 F1 M1 s1 st1 p1 => ?_⟩
  refine ⟨F1, M1, rs, w1, s1.fh, s1.nt, s1.wr, s1.tb, p1, ?_⟩
  cases ec : C.call i rs w1 with
  | stuck => rw [ec] at q1; exact q1.elim
  | ok r w2 =>
    rw [ec] at q1
    intro v H2 F2 M2 fh nt wr tb st2 r2
    exact q1 v H2 F2 M2 (s1.step st2 fh nt wr tb) (st1.trans st2) (RV.since (isAt_nil r2) st1.th)
  | exc x' env' w2 =>
    rw [ec] at q1
    intro cls d' H2 F2 M2 fh nt wr tb st2 r2
    exact q1 cls d' σ H2 F2 O M2 (s1.step st2 fh nt wr tb) r2
end
/-! ### calls of built-ins -/
def CaS (X : Cx) (f : Value) (g : List D → Option RV) : Prop :=
  ∃ r, CallR X f r ∧ ∀ xs ds rv H F, Same F H → NoTbl F → Paired (Rv X.K F H) xs ds → g ds = some rv → ∀ Q : VK, (∀ v H' F', Xt H F H' F' → rv.newAt X.K H H' F' v → Q v H') → r xs H Q
def vals : List RV → Option (List D)
  | [] => some []
  | r :: rs => match r.val, vals rs with
    | some d, some ds => some (d :: ds)
    | _, _ => none
def dBlt (g : List D → Option RV) (es : Exs) : Ex := fun env w => (es env w).bind fun rs w1 => match vals rs with
  | some ds => lift (g ds) w1
  | none => .stuck
theorem vals_at {X : Tx} {B : Base} {env : Ev} {w : World} {σ : St} {Hs H F : Hp} {O : Nat → Addr} {M : List Addr} (s : SR X B env w σ H F O M) : ∀ {vs : List V} {rs : List RV} {ds : List D}, Paired (fun v r => RV.isAt X Hs env O H F M v r) vs rs → vals rs = some ds → Paired (Rv X.K F H) vs ds
  | _, _, _, .nil, e => by cases e; exact .nil
  | _, r :: rs, ds, .cons h t, e => by
    unfold vals at e
    split at e
    · rename_i d ds' e1 e2
      cases e
      exact .cons (RV.rv s h e1) (vals_at s t e2)
    · cases e
section
variable {X : Cx} {T : Tbs} {Wi : WX} {pos p : Pos} {e : Expr} {es : List Expr} {d : Ex} {ds : Exs} {x : Str}
theorem blt_read {g : List D → Option RV} {r : List V → Hp → VK → Prop} (hr : ∀ xs ds rv H F, Same F H → NoTbl F → Paired (Rv X.K F H) xs ds → g ds = some rv → ∀ Q : VK, (∀ v H' F', Xt H F H' F' → rv.newAt X.K H H' F' v → Q v H') → r xs H Q)
    {σ : St} {H : Hp} {Q : VK} (q : tD (Cx.tx X T) Wi (dBlt g ds) σ H Q) : tR (Cx.tx X T) Wi ds σ H (fun vs H1 => r vs H1 Q) := by
  obtain ⟨B, env, w, F, O, M, s, q⟩ := q
  refine ⟨B, env, w, F, O, M, s, q.bind.imp fun rs w1 q1 vs H1 F1 M1 s1 st1 p1 => ?_⟩
  split at q1
  · rename_i l el
    obtain ⟨rv, e, q3⟩ := q1.lift
    refine hr vs l rv H1 F1 s1.fh s1.nt (vals_at s1 p1 el) e Q fun v H' F' xt nw => ?_
    exact q3 v H' F' M1 (s1.xt xt) (st1.trans xt.stp) (RV.of_new nw s1 st1.th)
  · exact q1.elim
theorem je_blt {id : String} {g : List D → Option RV} (hc : CaS X (.builtin id) g) (hg : Gl X x) (hm : X.mg x = none) (hv : bootBuiltins x = some (.builtin id)) (h : JR X T Wi (e :: es) ds)
    (hd : (x == ("__debug__" : Str)) = false := by decide) (hn : x ≠ "__name__" := by decide)
    (he : starEach (e :: es) X.env = (false, eval e X.env) :: starEach es X.env := by rfl) (hpl : (backTo pos (starEach es X.env)).any (·.1) = false := by rfl) : JE X T Wi (.Call (.Name x p) (e :: es) [] pos) (dBlt g ds) := by
  obtain ⟨r, hc, hr⟩ := hc
  exact (pe_callB hc hg hm hv h hn hd he hpl).impD fun σ H Q q => blt_read hr q
theorem je_bty {id : String} {g : List D → Option RV} (hc : CaS X (.type id) g) (hg : Gl X x) (hm : X.mg x = none) (hv : bootBuiltins x = some (.type id)) (h : JR X T Wi (e :: es) ds)
    (hd : (x == ("__debug__" : Str)) = false := by decide) (hn : x ≠ "__name__" := by decide)
    (he : starEach (e :: es) X.env = (false, eval e X.env) :: starEach es X.env := by rfl) (hpl : (backTo pos (starEach es X.env)).any (·.1) = false := by rfl) : JE X T Wi (.Call (.Name x p) (e :: es) [] pos) (dBlt g ds) := by
  obtain ⟨r, hc, hr⟩ := hc
  exact (pe_callTy hc hg hm hv h hn hd he hpl).impD fun σ H Q q => blt_read hr q
end
end Dl
/-! DlF: the built-in functions on data; isinstance. -/
namespace Dl
open PySem PySem.Spec PyProof.Rows L2 NdefX
def intsOf : List D → Option (List Int)
  | [] => some []
  | .int i :: l => (intsOf l).map (i :: ·)
  | _ :: _ => none
def bolsOf : List D → Option (List Bool)
  | [] => some []
  | .bl i :: l => (bolsOf l).map (i :: ·)
  | _ :: _ => none
theorem ints_at {K : PySem.W.Frag} {F : Hp} : ∀ {vs : List V} {l : List D} {ns : List Int}, Paired (Rp K F) vs l → intsOf l = some ns → vs = ns.map V.int
  | _, _, _, .nil, e => by cases e; rfl
  | v :: vs, d :: l, ns, .cons h t, e => by
    cases d <;> first | (simp only [intsOf] at e; cases e; done) | skip
    rename_i i
    simp only [intsOf] at e
    cases q : intsOf l with
    | none => rw [q] at e; cases e
    | some ms =>
      rw [q] at e
      simp only [Option.map_some, Option.some.injEq] at e; subst e
      cases h
      rw [ints_at t q]
      rfl
theorem bols_at {K : PySem.W.Frag} {F : Hp} : ∀ {vs : List V} {l : List D} {ns : List Bool}, Paired (Rp K F) vs l → bolsOf l = some ns → vs = ns.map V.bl
  | _, _, _, .nil, e => by cases e; rfl
  | v :: vs, d :: l, ns, .cons h t, e => by
    cases d <;> first | (simp only [bolsOf] at e; cases e; done) | skip
    rename_i i
    simp only [bolsOf] at e
    cases q : bolsOf l with
    | none => rw [q] at e; cases e
    | some ms =>
      rw [q] at e
      simp only [Option.map_some, Option.some.injEq] at e; subst e
      cases h
      rw [bols_at t q]
      rfl
@[simp] theorem intsOf_map (ns : List Int) : intsOf (ns.map D.int) = some ns := by
  induction ns with
  | nil => rfl
  | cons n ns ih => simp [intsOf, ih]
@[simp] theorem bolsOf_map (ns : List Bool) : bolsOf (ns.map D.bl) = some ns := by
  induction ns with
  | nil => rfl
  | cons n ns ih => simp [bolsOf, ih]
/-- the items of a list or tuple -/
def D.items : D → Option (List D)
  | .lst l => some l
  | .tup l => some l
  | _ => none
theorem rv_items {K : PySem.W.Frag} {F H : Hp} {v : V} {d : D} {l : List D} (fh : Same F H) (h : Rv K F H v d) (e : d.items = some l) : l.length ≤ sizeLine ∧ ∃ p vs, v = .ref p ∧ (SqL K H p vs ∨ SqT K H p vs) ∧ Paired (Rp K F) vs l := by
  cases d with
  | lst m => cases e; obtain ⟨hz, p, vs, e1, h1, h2⟩ := h; exact ⟨hz, p, vs, e1, .inl h1, h2⟩
  | tup m => cases e; cases h with | tup hz h1 h2 => exact ⟨hz, _, _, rfl, .inr (sqT_mono fh h1), h2⟩
  | _ => cases e
def cLen : List D → Option RV
  | [.str s] => some (.dat (.int s.length))
  | [.lst l] => some (.dat (.int l.length))
  | [.tup l] => some (.dat (.int l.length))
  | _ => none
def cInt : List D → Option RV
  | [.int i] => some (.dat (.int i))
  | [.bl b] => some (.dat (.int (if b then 1 else 0)))
  | _ => none
def cTuple : List D → Option RV
  | [.lst l] => some (.dat (.tup l))
  | [.tup l] => some (.dat (.tup l))
  | _ => none
def cList : List D → Option RV
  | [.lst l] => some (.fresh l)
  | [.tup l] => some (.fresh l)
  | _ => none
def cSum : List D → Option RV
  | [.lst l] => (intsOf l).map fun ns => .dat (.int ns.sum)
  | _ => none
def cAll : List D → Option RV
  | [.lst l] => (bolsOf l).map fun ns => .dat (.bl (ns.all id))
  | _ => none
def cAny : List D → Option RV
  | [.lst l] => (bolsOf l).map fun ns => .dat (.bl (ns.any id))
  | _ => none
def cMax2 : List D → Option RV
  | [.int i, .int j] => some (.dat (.int (if j > i then j else i)))
  | _ => none
def cMin2 : List D → Option RV
  | [.int i, .int j] => some (.dat (.int (if j < i then j else i)))
  | _ => none
def cAbs : List D → Option RV
  | [.int i] => some (.dat (.int (if i < 0 then -i else i)))
  | _ => none
section
variable {X : Cx}
theorem cs_len : CaS X (.builtin "len") cLen := by
  refine ⟨_, call_len_str.or call_len_seq, fun xs ds rv H F fh nt p h Q q => ?_⟩
  unfold cLen at h
  split at h
  · simp only [Option.some.injEq] at h; subst h
    cases p with | cons h1 h2 => cases h2; cases h1 with | str _ ok => exact .inl ⟨_, rfl, ok.2, new_val fh nt q (.int _)⟩
  · simp only [Option.some.injEq] at h; subst h
    cases p with
    | cons h1 h2 =>
      cases h2
      obtain ⟨_, a, vs, e, h3, h4⟩ := h1
      subst e
      refine .inr ⟨a, vs, rfl, .inl h3, ?_⟩
      rw [h4.length]
      exact new_val fh nt q (.int _)
  · simp only [Option.some.injEq] at h; subst h
    cases p with
    | cons h1 h2 =>
      cases h2
      cases h1 with
      | tup hz h3 h4 =>
        refine .inr ⟨_, _, rfl, .inr (sqT_mono fh h3), ?_⟩
        rw [h4.length]
        exact new_val fh nt q (.int _)
  · cases h
theorem cs_int : CaS X (.type "int") cInt := by
  refine ⟨_, call_int1, fun xs ds rv H F fh nt p h Q q => ?_⟩
  unfold cInt at h
  split at h
  · simp only [Option.some.injEq] at h; subst h
    cases p with | cons h1 h2 => cases h2; cases h1; exact .inl ⟨_, rfl, new_val fh nt q (.int _)⟩
  · simp only [Option.some.injEq] at h; subst h
    cases p with | cons h1 h2 => cases h2; cases h1; exact .inr ⟨_, rfl, new_val fh nt q (.int _)⟩
  · cases h
theorem cs_tuple : CaS X (.type "tuple") cTuple := by
  refine ⟨_, call_tuple_of, fun xs ds rv H F fh nt p h Q q => ?_⟩
  unfold cTuple at h
  split at h
  · simp only [Option.some.injEq] at h; subst h
    cases p with
    | cons h1 h2 =>
      cases h2
      obtain ⟨hz, a, vs, e, h3, h4⟩ := h1
      subst e
      exact ⟨a, vs, rfl, .inl ⟨h3, fun p hp => new_tup fh nt q hp hz h4⟩⟩
  · simp only [Option.some.injEq] at h; subst h
    cases p with
    | cons h1 h2 =>
      cases h2
      cases h1 with
      | tup hz h3 h4 => exact ⟨_, _, rfl, .inr ⟨sqT_mono fh h3, new_val fh nt q (.tup hz h3 h4)⟩⟩
  · cases h
theorem cs_list : CaS X (.type "list") cList := by
  refine ⟨_, call_list_of, fun xs ds rv H F fh nt p h Q q => ?_⟩
  unfold cList at h
  split at h
  · simp only [Option.some.injEq] at h; subst h
    cases p with
    | cons h1 h2 =>
      cases h2
      obtain ⟨hz, a, vs, e, h3, h4⟩ := h1
      subst e
      exact ⟨a, vs, rfl, .inl h3, fun p hp => new_lst fh nt q hp hz h4⟩
  · simp only [Option.some.injEq] at h; subst h
    cases p with
    | cons h1 h2 =>
      cases h2
      cases h1 with
      | tup hz h3 h4 => exact ⟨_, _, rfl, .inr (sqT_mono fh h3), fun p hp => new_lst fh nt q hp hz h4⟩
  · cases h
theorem cs_sum (hc : X.calm = true) : CaS X (.builtin "sum") cSum := by
  refine ⟨_, cr_sum hc, fun xs ds rv H F fh nt p h Q q => ?_⟩
  unfold cSum at h
  split at h
  · rename_i l
    cases e : intsOf l with
    | none => rw [e] at h; cases h
    | some ns =>
      rw [e] at h
      simp only [Option.map_some, Option.some.injEq] at h; subst h
      cases p with
      | cons h1 h2 =>
        cases h2
        obtain ⟨hz, a, vs, e1, h3, h4⟩ := h1
        subst e1
        rw [ints_at h4 e] at h3
        exact ⟨a, ns, rfl, h3, new_val fh nt q (.int _)⟩
  · cases h
theorem cs_all (hc : X.calm = true) : CaS X (.builtin "all") cAll := by
  refine ⟨_, cr_all hc, fun xs ds rv H F fh nt p h Q q => ?_⟩
  unfold cAll at h
  split at h
  · rename_i l
    cases e : bolsOf l with
    | none => rw [e] at h; cases h
    | some ns =>
      rw [e] at h
      simp only [Option.map_some, Option.some.injEq] at h; subst h
      cases p with
      | cons h1 h2 =>
        cases h2
        obtain ⟨hz, a, vs, e1, h3, h4⟩ := h1
        subst e1
        rw [bols_at h4 e] at h3
        exact ⟨a, ns, rfl, h3, new_val fh nt q (.bl _)⟩
  · cases h
theorem cs_any (hc : X.calm = true) : CaS X (.builtin "any") cAny := by
  refine ⟨_, cr_any hc, fun xs ds rv H F fh nt p h Q q => ?_⟩
  unfold cAny at h
  split at h
  · rename_i l
    cases e : bolsOf l with
    | none => rw [e] at h; cases h
    | some ns =>
      rw [e] at h
      simp only [Option.map_some, Option.some.injEq] at h; subst h
      cases p with
      | cons h1 h2 =>
        cases h2
        obtain ⟨hz, a, vs, e1, h3, h4⟩ := h1
        subst e1
        rw [bols_at h4 e] at h3
        exact ⟨a, ns, rfl, h3, new_val fh nt q (.bl _)⟩
  · cases h
theorem cs_max2 (hc : X.calm = true) : CaS X (.builtin "max") cMax2 := by
  refine ⟨_, call_max2 hc, fun xs ds rv H F fh nt p h Q q => ?_⟩
  unfold cMax2 at h
  split at h
  · simp only [Option.some.injEq] at h; subst h
    cases p with | cons h1 h2 => cases h2 with | cons h3 h4 => cases h4; cases h1; cases h3; exact ⟨_, _, rfl, new_val fh nt q (.int _)⟩
  · cases h
theorem cs_min2 (hc : X.calm = true) : CaS X (.builtin "min") cMin2 := by
  refine ⟨_, call_min2 hc, fun xs ds rv H F fh nt p h Q q => ?_⟩
  unfold cMin2 at h
  split at h
  · simp only [Option.some.injEq] at h; subst h
    cases p with | cons h1 h2 => cases h2 with | cons h3 h4 => cases h4; cases h1; cases h3; exact ⟨_, _, rfl, new_val fh nt q (.int _)⟩
  · cases h
theorem cs_abs : CaS X (.builtin "abs") cAbs := by
  refine ⟨_, call_abs, fun xs ds rv H F fh nt p h Q q => ?_⟩
  unfold cAbs at h
  split at h
  · simp only [Option.some.injEq] at h; subst h
    cases p with | cons h1 h2 => cases h2; cases h1; exact ⟨_, rfl, new_val fh nt q (.int _)⟩
  · cases h
end
/-! ### isinstance -/
def D.tyName : D → String
  | .non => "NoneType"
  | .bl _ => "bool"
  | .int _ => "int"
  | .str _ => "str"
  | .lst _ => "list"
  | .tup _ => "tuple"
inductive Ty where
  | int | bool | str | tuple | list
def Ty.nm : Ty → String
  | .int => "int"
  | .bool => "bool"
  | .str => "str"
  | .tuple => "tuple"
  | .list => "list"
def D.isTy : D → Ty → Bool
  | .int _, .int => true
  | .bl _, .int => true
  | .bl _, .bool => true
  | .str _, .str => true
  | .tup _, .tuple => true
  | .lst _, .list => true
  | _, _ => false
theorem kit_isTy (d : D) (t : Ty) : kitB d.tyName t.nm = some (d.isTy t) := by
  cases d <;> cases t <;> (show kitB _ _ = some _; simp only [D.tyName, Ty.nm, D.isTy]; decide +kernel)
def gIsi (ts : List Ty) (d : D) : Option RV := some (.dat (.bl (ts.any d.isTy)))
theorem tyX_of {K : PySem.W.Frag} {F H : Hp} {v : V} {d : D} (fh : Same F H) (h : Rv K F H v d) : TyX K H v (.type d.tyName) := by
  cases d with
  | non => cases h; exact .base .non
  | bl b => cases h; exact .base (.bl b)
  | int i => cases h; exact .base (.int i)
  | str s => cases h; exact .base (.str s)
  | lst l =>
    obtain ⟨_, p, vs, e, h1, _⟩ := h
    subst e
    rcases h1 with (h1 | ⟨o, h1⟩) | ⟨o, its, n, h1, h2, _⟩
    · exact .base (.lst h1)
    · exact .base (.frz h1)
    · exact .kList h1 h2
  | tup l =>
    cases h with
    | tup hz h1 _ =>
      rcases h1 with (h1 | ⟨o, h1⟩) | ⟨o, its, n, h1, h2, _⟩
      · exact .base (.tup (fh _ _ h1))
      · exact .fTuple (fh _ _ h1)
      · exact .kTuple h1 h2
section
variable {X : Cx} {T : Tbs} {Wi : WX} {pos p p1 p2 pt : Pos} {a : Expr} {da : Ex} {x : Str}
theorem je_isi {t : Ty} {y : Str} (hg : Gl X "isinstance") (hm : X.mg "isinstance" = none) (hgt : Gl X y) (hmt : X.mg y = none) (hvt : bootBuiltins y = some (.type t.nm)) (ha : JE X T Wi a da)
    (hnt : y ≠ "__name__" := by decide) (hdt : (y == ("__debug__" : Str)) = false := by decide)
    (he : starEach (a :: [.Name y p1]) X.env = (false, eval a X.env) :: starEach [.Name y p1] X.env := by rfl) (hpl : (backTo pos (starEach [.Name y p1] X.env)).any (·.1) = false := by rfl)
    (he2 : starEach [.Name y p1] X.env = (false, eval (.Name y p1) X.env) :: starEach [] X.env := by rfl) : JE X T Wi (.Call (.Name "isinstance" p) [a, .Name y p1] [] pos) (dUn (gIsi [t]) da) := by
  refine (pe_callB call_isi hg hm boot_isinstance (pa_cons ha (pa_cons (pe_bltn hgt hmt hvt (v := .ty t.nm) rfl hnt hdt) pa_nil he2) he) (by decide) (by decide) he hpl).impD fun σ H Q q => ?_
  refine un_read (r := fun x H1 Q => rIsi X.K [x, .ty t.nm] H1 Q) (fun x d rv H F fh nt rx h Q q => ?_) q
  simp only [gIsi, Option.some.injEq] at h; subst h
  refine ⟨x, .ty t.nm, .type d.tyName, .type t.nm, d.isTy t, rfl, .ty _, tyX_of fh rx, kit_ty (kit_isTy d t), ?_⟩
  refine new_val fh nt q ?_
  simp only [List.any_cons, List.any_nil, Bool.or_false]
  exact .bl _
theorem je_isi2 {t t2 : Ty} {y z : Str} {k : Nat} (hg : Gl X "isinstance") (hm : X.mg "isinstance" = none) (hgt : Gl X y) (hmt : X.mg y = none) (hvt : bootBuiltins y = some (.type t.nm)) (hgz : Gl X z) (hmz : X.mg z = none) (hvz : bootBuiltins z = some (.type t2.nm)) (ha : JE X T Wi a da)
    (hnt : y ≠ "__name__" := by decide) (hdt : (y == ("__debug__" : Str)) = false := by decide) (hnz : z ≠ "__name__" := by decide) (hdz : (z == ("__debug__" : Str)) = false := by decide)
    (he : starEach (a :: [.Tuple [.Name y p1, .Name z p2] k pt]) X.env = (false, eval a X.env) :: starEach [.Tuple [.Name y p1, .Name z p2] k pt] X.env := by rfl) (hpl : (backTo pos (starEach [.Tuple [.Name y p1, .Name z p2] k pt] X.env)).any (·.1) = false := by rfl)
    (he2 : starEach [.Tuple [.Name y p1, .Name z p2] k pt] X.env = (false, eval (.Tuple [.Name y p1, .Name z p2] k pt) X.env) :: starEach [] X.env := by rfl)
    (he3 : starEach [.Name y p1, .Name z p2] X.env = (false, eval (.Name y p1) X.env) :: starEach [.Name z p2] X.env := by rfl) (he4 : starEach [.Name z p2] X.env = (false, eval (.Name z p2) X.env) :: starEach [] X.env := by rfl) :
    JE X T Wi (.Call (.Name "isinstance" p) [a, .Tuple [.Name y p1, .Name z p2] k pt] [] pos) (dUn (gIsi [t, t2]) da) := by
  refine (pe_callB call_isiT hg hm boot_isinstance (pa_cons ha (pa_cons (pe_tup (pa_cons (pe_bltn hgt hmt hvt (v := .ty t.nm) rfl hnt hdt) (pa_cons (pe_bltn hgz hmz hvz (v := .ty t2.nm) rfl hnz hdz) pa_nil he4) he3)) pa_nil he2) he) (by decide) (by decide) he hpl).impD fun σ H Q q => ?_
  refine un_read (r := fun x H1 Q => tCons (tTup (tCons (tC (.ty t.nm)) (tCons (tC (.ty t2.nm)) tNil))) tNil σ H1 fun xs H2 => rIsiT X.K (x :: xs) H2 Q) (fun x d rv H F fh nt rx h Q q => ?_) q
  simp only [gIsi, Option.some.injEq] at h; subst h
  refine ⟨by show 2 ≤ sizeLine; rw [sizeLine_eq]; decide, fun tp ht => ?_⟩
  have xt : Xt H F (upd H tp (.tup [.ty t.nm, .ty t2.nm])) F := ⟨same_upd ht, Same.refl _, fh.trans (same_upd ht), fun _ _ e => e, nt⟩
  refine ⟨x, tp, [.ty t.nm, .ty t2.nm], .type d.tyName, [.type t.nm, .type t2.nm], d.isTy t || d.isTy t2, rfl, upd_same, .cons (.ty _) (.cons (.ty _) .nil), ?_, ?_, ?_⟩
  · have rx' : Rv X.K F (upd H tp (.tup [.ty t.nm, .ty t2.nm])) x d := by
      cases d with
      | lst l => obtain ⟨hz, p, vs, e, h1, h2⟩ := rx; exact ⟨hz, p, vs, e, xt.hh.seq h1, h2⟩
      | _ => exact rx
    exact tyX_of xt.fh rx'
  · refine kitAny_cons (kit_ty (kit_isTy d t)) (fun e => ?_) (fun e => ?_)
    · rw [e, Bool.false_or]
      exact kitAny_cons (kit_ty (kit_isTy d t2)) (fun e => by rw [e]; exact kitAny_nil) (fun e => by rw [e])
    · rw [e, Bool.true_or]
  · refine q _ _ _ xt ?_
    simp only [List.any_cons, List.any_nil, Bool.or_false]
    exact .bl _
end
end Dl
/-! DlG: what is walked; targets; list comprehensions. -/
namespace Dl
open PySem PySem.Spec PyProof.Rows L2 NdefX
/-! ### sources -/
abbrev Src := Ev → World → Out (List D)
structure Walk (K : PySem.W.Frag) (l : List D) (F0 : Hp) (J : It) : Prop where
  bd : l.length ≤ sizeLine
  go : ∀ i H F, Same F0 F → Same F H → i < l.length → J.go i H
  stop : ∀ i H F, Same F0 F → Same F H → l.length ≤ i → J.stop i H
  yld : ∀ i H F x H' d, Same F0 F → Same F H → NoTbl F → J.yld i H x H' → l[i]? = some d → ∃ F', Xt H F H' F' ∧ Rp K F' x d
def tIt (X : Tx) (Wi : WX) (e : Src) : TI := fun σ H R => ∃ B env w F O M, SR X B env w σ H F O M ∧
  Pst (e env w) (fun l w' => ∀ J H' F' M', SR X B env w' σ H' F' O M' → Stp H F M H' F' M' → Walk X.K l F' J → R J H') (badX X B Wi)
abbrev JI (X : Cx) (T : Tbs) (Wi : WX) (tg it : Expr) (d : Src) : Prop := PI X tg it (tIt (Cx.tx X T) Wi d)
def RV.its (r : RV) : Option (List D) := match r.arg with
  | some (.dat d) => d.items
  | _ => none
/-- a list or a tuple -/
def iSeq (e : Ex) : Src := fun env w => (e env w).bind fun r w1 => match r.its with
  | some l => .ok l w1
  | none => .stuck
theorem walk_lst {K : PySem.W.Frag} {F : Hp} {a : Addr} {vs : List V} {l : List D} (hz : l.length ≤ sizeLine) (h : SqL K F a vs) (p : Paired (Rp K F) vs l) : Walk K l F (Itl K a) := by
  refine ⟨hz, fun i H F1 e1 e2 hi => ?_, fun i H F1 e1 e2 hi => ?_, fun i H F1 x H' d e1 e2 nt y hd => ?_⟩
  · have hv : i < vs.length := by rw [p.length]; exact hi
    exact ⟨vs, vs[i], e2.seq (e1.seq h), List.getElem?_eq_getElem hv⟩
  · exact ⟨vs, e2.seq (e1.seq h), by rw [p.length]; exact hi⟩
  · obtain ⟨rfl, y⟩ := y
    have q := y vs (e2.seq (e1.seq h))
    obtain ⟨v, ev, rv⟩ := Pr.get p hd
    rw [ev] at q; cases q
    exact ⟨F1, Xt.refl e2 nt, rv.mono e1⟩
theorem walk_tup {K : PySem.W.Frag} {F : Hp} {a : Addr} {vs : List V} {l : List D} (hz : l.length ≤ sizeLine) (h : SqT K F a vs) (p : Paired (Rp K F) vs l) : Walk K l F (Itt K a) := by
  refine ⟨hz, fun i H F1 e1 e2 hi => ?_, fun i H F1 e1 e2 hi => ?_, fun i H F1 x H' d e1 e2 nt y hd => ?_⟩
  · have hv : i < vs.length := by rw [p.length]; exact hi
    exact ⟨vs, vs[i], sqT_mono e2 (sqT_mono e1 h), List.getElem?_eq_getElem hv⟩
  · exact ⟨vs, sqT_mono e2 (sqT_mono e1 h), by rw [p.length]; exact hi⟩
  · obtain ⟨rfl, y⟩ := y
    have q := y vs (sqT_mono e2 (sqT_mono e1 h))
    obtain ⟨v, ev, rv⟩ := Pr.get p hd
    rw [ev] at q; cases q
    exact ⟨F1, Xt.refl e2 nt, rv.mono e1⟩
theorem walk_rng {K : PySem.W.Frag} {F : Hp} {lo : Int} {n : Nat} {l : List D} (hz : n ≤ sizeLine) (hl : l = (List.range n).map fun (i : Nat) => D.int (lo + i)) : Walk K l F (Itr lo n) := by
  subst hl
  refine ⟨by simpa using hz, fun i H F1 e1 e2 hi => by show i < n; simpa using hi, fun i H F1 e1 e2 hi => by show n ≤ i; simpa using hi, fun i H F1 x H' d e1 e2 nt y hd => ?_⟩
  obtain ⟨rfl, rfl⟩ := y
  simp only [List.getElem?_map, List.getElem?_range] at hd
  by_cases hi : i < n
  · rw [List.getElem?_range hi] at hd
    simp only [Option.map_some, Option.some.injEq] at hd; subst hd
    exact ⟨F1, Xt.refl e2 nt, .int _⟩
  · rw [List.getElem?_eq_none (by simpa using hi)] at hd; cases hd
section
variable {X : Cx} {T : Tbs} {Wi : WX} {pos p : Pos} {e a b tg : Expr} {d : Ex} {ds : Exs}
theorem pi_or {wi wi' : TI} (h : PI X tg e wi) (h' : PI X tg e wi') : PI X tg e (fun σ H R => wi σ H R ∨ wi' σ H R) :=
  ⟨fun pins s σ H R I q => q.elim (h.run pins s σ H R I) (h'.run pins s σ H R I)⟩
theorem _root_.L2.PI.impD {t t' : TI} (h : PI X tg e t) (k : ∀ σ H Q, t' σ H Q → t σ H Q) : PI X tg e t' := ⟨fun pins s σ H Q I q => h.run pins s σ H Q I (k σ H Q q)⟩
theorem ji_seq (h : JE X T Wi e d) : JI X T Wi tg e (iSeq d) := by
  refine (pi_or (pi_list h) (pi_tup h)).impD fun σ H Q q => ?_
  obtain ⟨B, env, w, F, O, M, s, q⟩ := q
  have q := q.bind
  cases eo : d env w with
  | stuck => rw [eo] at q; exact q.elim
  | exc x env' w' =>
    rw [eo] at q
    exact .inl ⟨B, env, w, F, O, M, s, by rw [eo]; exact q⟩
  | ok r w1 =>
    rw [eo] at q
    have q1 : Pst (match r.its with
      | some l => Out.ok l w1
      | none => .stuck) _ _ := q
    split at q1
    · rename_i l el
      unfold RV.its at el
      split at el
      · rename_i dd ea
        cases dd with
        | lst m =>
          cases el
          refine .inl ⟨B, env, w, F, O, M, s, ?_⟩
          rw [eo]
          intro v H1 F1 M1 s1 st1 r1
          obtain ⟨F2, s2, st2, a2⟩ := keep_arg s s1 st1 r1 ea
          cases a2 with
          | lst hz h1 h2 => exact ⟨_, rfl, ⟨_, s2.fh.seq h1⟩, q1 _ H1 F2 M1 s2 st2 (walk_lst hz h1 h2)⟩
        | tup m =>
          cases el
          refine .inr ⟨B, env, w, F, O, M, s, ?_⟩
          rw [eo]
          intro v H1 F1 M1 s1 st1 r1
          obtain ⟨F2, s2, st2, a2⟩ := keep_arg s s1 st1 r1 ea
          cases a2 with
          | tup hz h1 h2 => exact ⟨_, rfl, ⟨_, sqT_mono s2.fh h1⟩, q1 _ H1 F2 M1 s2 st2 (walk_tup hz h1 h2)⟩
        | _ => cases el
      · cases el
    · exact q1.elim
/-- range -/
def rngD (lo hi : Int) : List D := (List.range (hi - lo).toNat).map fun (i : Nat) => D.int (lo + i)
def iRange (g : List D → Option (Int × Int)) (es : Exs) : Src := fun env w => (es env w).bind fun rs w1 => match vals rs with
  | some ds => (match g ds with
    | some (lo, hi) => if (hi - lo).toNat ≤ 16777216 ∧ -(2 ^ 62) ≤ lo ∧ lo < 2 ^ 62 ∧ -(2 ^ 62) ≤ hi ∧ hi < 2 ^ 62 then .ok (rngD lo hi) w1 else .stuck
    | none => .stuck)
  | none => .stuck
def rg1 : List D → Option (Int × Int)
  | [.int j] => some (0, j)
  | _ => none
def rg2 : List D → Option (Int × Int)
  | [.int i, .int j] => some (i, j)
  | _ => none
theorem ji_range1 (hg : Gl X "range") (hm : X.mg "range" = none) (h : JR X T Wi [a] ds) (hs : starEach [a] X.env = [(false, eval a X.env)] := by rfl) : JI X T Wi tg (.Call (.Name "range" p) [a] [] pos) (iRange rg1 ds) := by
  refine (pi_range1 hg hm h hs).impD fun σ H Q q => ?_
  obtain ⟨B, env, w, F, O, M, s, q⟩ := q
  refine ⟨B, env, w, F, O, M, s, q.bind.imp fun rs w1 q1 vs H1 F1 M1 s1 st1 p1 => ?_⟩
  split at q1
  · rename_i l el
    split at q1
    · rename_i lo hi eg
      split at q1
      · rename_i hc
        have pv := vals_at s1 p1 el
        unfold rg1 at eg
        split at eg
        · cases eg
          cases pv with
          | cons h1 h2 =>
            cases h2; cases h1
            refine ⟨_, rfl, hc.2.2.2.1, hc.2.2.2.2, q1 _ H1 F1 M1 s1 st1 ?_⟩
            have := hc.1
            refine walk_rng (by rw [sizeLine_eq]; omega) ?_
            unfold rngD
            rw [Int.sub_zero]
        · cases eg
      · exact q1.elim
    · exact q1.elim
  · exact q1.elim
theorem ji_range2 (hg : Gl X "range") (hm : X.mg "range" = none) (h : JR X T Wi [a, b] ds) (hs : starEach [a, b] X.env = [(false, eval a X.env), (false, eval b X.env)] := by rfl) (hs2 : starEach [b] X.env = [(false, eval b X.env)] := by rfl) :
    JI X T Wi tg (.Call (.Name "range" p) [a, b] [] pos) (iRange rg2 ds) := by
  refine (pi_range2 hg hm h hs hs2).impD fun σ H Q q => ?_
  obtain ⟨B, env, w, F, O, M, s, q⟩ := q
  refine ⟨B, env, w, F, O, M, s, q.bind.imp fun rs w1 q1 vs H1 F1 M1 s1 st1 p1 => ?_⟩
  split at q1
  · rename_i l el
    split at q1
    · rename_i lo hi eg
      split at q1
      · rename_i hc
        have pv := vals_at s1 p1 el
        unfold rg2 at eg
        split at eg
        · cases eg
          cases pv with
          | cons h1 h2 =>
            cases h2 with
            | cons h3 h4 =>
              cases h4; cases h1; cases h3
              refine ⟨_, _, rfl, hc.2, q1 _ H1 F1 M1 s1 st1 ?_⟩
              have := hc.1
              exact walk_rng (by rw [sizeLine_eq]; omega) rfl
        · cases eg
      · exact q1.elim
    · exact q1.elim
  · exact q1.elim
end
/-! ### targets -/
abbrev Tgt := D → Ev → Option Ev
abbrev Tgts := List D → Ev → Option Ev
def gN (i : Nat) : Tgt := fun d env => some (env.set i (.dat d))
def gT (n : Nat) (ts : Tgts) : Tgt := fun d env => match d with
  | .tup l => if l.length = n then ts l env else none
  | _ => none
def gsNil : Tgts := fun l env => match l with
  | [] => some env
  | _ => none
def gsCons (t : Tgt) (ts : Tgts) : Tgts := fun l env => match l with
  | d :: r => (t d env).bind fun env' => ts r env'
  | [] => none
section
variable {X : Tx} {B : Base} {env : Ev} {w : World} {σ : St} {H F : Hp} {O : Nat → Addr} {M : List Addr}
theorem SR.setDat {i : Nat} {v : V} {d : D} (s : SR X B env w σ H F O M) (r : Rp X.K F v d) : SR X B (env.set i (.dat d)) w (σ.set i (some v)) H F O M := by
  refine ⟨by simpa using s.len, s.fh, s.nt, s.st, s.wr, s.tb, fun j sl e => ?_, fun j k lj lk e1 e2 => ?_⟩
  · by_cases hj : i = j
    · subst hj
      have hlt : i < env.length := by simpa using (List.getElem?_eq_some_iff.mp e).1
      rw [List.getElem?_set_self hlt] at e
      cases e
      refine ⟨v, ?_, r⟩
      rw [List.getElem?_set_self (by rw [s.len]; exact hlt)]
    · rw [List.getElem?_set_ne hj] at e
      have := s.sl j sl e
      rw [List.getElem?_set_ne hj]
      exact this
  · have e1' : env[j]? = some (.own lj) := by
      by_cases hj : i = j
      · subst hj
        have hlt : i < env.length := by simpa using (List.getElem?_eq_some_iff.mp e1).1
        rw [List.getElem?_set_self hlt] at e1; cases e1
      · rw [List.getElem?_set_ne hj] at e1; exact e1
    have e2' : env[k]? = some (.own lk) := by
      by_cases hj : i = k
      · subst hj
        have hlt : i < env.length := by simpa using (List.getElem?_eq_some_iff.mp e2).1
        rw [List.getElem?_set_self hlt] at e2; cases e2
      · rw [List.getElem?_set_ne hj] at e2; exact e2
    exact s.inj j k lj lk e1' e2'
def wipeE (env : Ev) : List Nat → Ev
  | [] => env
  | v :: vs => (wipeE env vs).set v .un
theorem SR.setUn {i : Nat} (s : SR X B env w σ H F O M) : SR X B (env.set i .un) w (σ.set i none) H F O M := by
  refine ⟨by simpa using s.len, s.fh, s.nt, s.st, s.wr, s.tb, fun j sl e => ?_, fun j k lj lk e1 e2 => ?_⟩
  · by_cases hj : i = j
    · subst hj
      have hlt : i < env.length := by simpa using (List.getElem?_eq_some_iff.mp e).1
      rw [List.getElem?_set_self hlt] at e
      cases e
      trivial
    · rw [List.getElem?_set_ne hj] at e
      have := s.sl j sl e
      rw [List.getElem?_set_ne hj]
      exact this
  · have e1' : env[j]? = some (.own lj) := by
      by_cases hj : i = j
      · subst hj
        have hlt : i < env.length := by simpa using (List.getElem?_eq_some_iff.mp e1).1
        rw [List.getElem?_set_self hlt] at e1; cases e1
      · rw [List.getElem?_set_ne hj] at e1; exact e1
    have e2' : env[k]? = some (.own lk) := by
      by_cases hj : i = k
      · subst hj
        have hlt : i < env.length := by simpa using (List.getElem?_eq_some_iff.mp e2).1
        rw [List.getElem?_set_self hlt] at e2; cases e2
      · rw [List.getElem?_set_ne hj] at e2; exact e2
    exact s.inj j k lj lk e1' e2'
theorem SR.wipe (s : SR X B env w σ H F O M) : ∀ vs : List Nat, SR X B (wipeE env vs) w (L2.wipe σ vs) H F O M
  | [] => s
  | v :: vs => (SR.wipe s vs).setUn
theorem wipe_set {σ : St} {i : Nat} {x : Option V} : ∀ {vs : List Nat}, i ∈ vs → L2.wipe (σ.set i x) vs = L2.wipe σ vs
  | [], h => by cases h
  | v :: vs, h => by
    unfold L2.wipe
    by_cases hi : i ∈ vs
    · rw [wipe_set hi]
    · have hv : i = v := by
        rcases List.mem_cons.mp h with z | z
        · exact z
        · exact absurd z hi
      subst hv
      have go : ∀ {us : List Nat}, i ∉ us → L2.wipe (σ.set i x) us = (L2.wipe σ us).set i x := by
        intro us
        induction us with
        | nil => intro _; rfl
        | cons u us ih =>
          intro hu
          unfold L2.wipe
          rw [ih (fun z => hu (List.mem_cons_of_mem _ z)), List.set_comm _ _ (fun z => hu (by rw [z]; exact List.mem_cons_self))]
      rw [go hi, List.set_set]
end
/-- a target that stores into slots of vs alone -/
def tG (X : Tx) (g : Tgt) (vs : List Nat) : TG := fun v σ H Q => ∃ B env w F O M d env', SR X B env w σ H F O M ∧ Rp X.K F v d ∧ g d env = some env' ∧
  ∀ σ', SR X B env' w σ' H F O M → (∀ us : List Nat, (∀ i ∈ vs, i ∈ us) → wipe σ' us = wipe σ us) → Q σ' H
def tGs (X : Tx) (g : Tgts) (vs : List Nat) : TGs := fun v σ H Q => ∃ B env w F O M d env', SR X B env w σ H F O M ∧ Paired (Rp X.K F) v d ∧ g d env = some env' ∧
  ∀ σ', SR X B env' w σ' H F O M → (∀ us : List Nat, (∀ i ∈ vs, i ∈ us) → wipe σ' us = wipe σ us) → Q σ' H
abbrev JG (X : Cx) (T : Tbs) (tg : Expr) (g : Tgt) (vs : List Nat) : Prop := PG X tg (tG (Cx.tx X T) g vs)
abbrev JGs (X : Cx) (T : Tbs) (tg : List Expr) (g : Tgts) (vs : List Nat) : Prop := PGs X tg (tGs (Cx.tx X T) g vs)
section
variable {X : Cx} {T : Tbs} {pos : Pos} {e : Expr} {es : List Expr}
theorem _root_.L2.PG.impD {t t' : TG} (h : PG X e t) (k : ∀ v σ H Q, t' v σ H Q → t v σ H Q) : PG X e t' := ⟨fun pins s σ H v u Q I r q => h.run pins s σ H v u Q I r (k v σ H Q q)⟩
theorem _root_.L2.PGs.impD {t t' : TGs} (h : PGs X es t) (k : ∀ v σ H Q, t' v σ H Q → t v σ H Q) : PGs X es t' := ⟨fun pins s σ H v u Q I r q => h.run pins s σ H v u Q I r (k v σ H Q q)⟩
theorem jg_name {i : Nat} {x : Str} (h : PG X (.Name x pos) (gName i)) : JG X T (.Name x pos) (gN i) [i] := by
  refine h.impD fun v σ H Q q => ?_
  obtain ⟨B, env, w, F, O, M, d, env', s, r, e, q⟩ := q
  cases e
  exact q _ (s.setDat r) fun us hu => wipe_set (hu i (by simp))
theorem jgs_nil : JGs X T [] gsNil [] := pgs_nil.impD fun v σ H Q q => by
  obtain ⟨B, env, w, F, O, M, d, env', s, p, e, q⟩ := q
  unfold gsNil at e
  split at e
  · cases e
    cases p
    exact ⟨rfl, q σ s fun _ _ => rfl⟩
  · cases e
theorem jgs_cons {g : Tgt} {gs : Tgts} {vs us : List Nat} (h : JG X T e g vs) (hs : JGs X T es gs us) (hst : (assignEach (e :: es) X.env).map (·.2) = assign e X.env :: (assignEach es X.env).map (·.2) := by rfl) : JGs X T (e :: es) (gsCons g gs) (vs ++ us) := by
  refine (pgs_cons h hs hst).impD fun v σ H Q q => ?_
  obtain ⟨B, env, w, F, O, M, d, env', s, p, e, q⟩ := q
  unfold gsCons at e
  split at e
  · rename_i d0 r0
    cases eg : g d0 env with
    | none => rw [eg] at e; cases e
    | some env1 =>
      rw [eg] at e
      cases p with
      | @cons v0 _ vr _ p1 p2 =>
        refine ⟨v0, vr, rfl, B, env, w, F, O, M, d0, env1, s, p1, eg, fun σ1 s1 h1 => ?_⟩
        refine ⟨B, env1, w, F, O, M, r0, env', s1, p2, e, fun σ2 s2 h2 => q σ2 s2 fun ts ht => ?_⟩
        rw [h2 ts (fun i hi => ht i (List.mem_append_right _ hi)), h1 ts (fun i hi => ht i (List.mem_append_left _ hi))]
  · cases e
theorem jg_tup {k n : Nat} {gs : Tgts} {vs : List Nat} (hc : X.calm = true) (h : JGs X T es gs vs) (hn : (assignEach es X.env).length = n := by rfl) (hst : (assignEach es X.env).findIdx? (·.1) = none := by rfl) : JG X T (.Tuple es k pos) (gT n gs) vs := by
  refine (pg_tup hc h hn hst).impD fun v σ H Q q => ?_
  obtain ⟨B, env, w, F, O, M, d, env', s, p, e, q⟩ := q
  unfold gT at e
  split at e
  · split at e
    · rename_i hl
      cases p with
      | @tup a xs _ hz h1 h2 =>
        exact ⟨a, xs, rfl, sqT_mono s.fh h1, by rw [h2.length]; exact hl, B, env, w, F, O, M, _, env', s, h2, e, q⟩
    · cases e
  · cases e
end
/-! ### list comprehensions -/
def noX {α : Type} (o : Out α) : Out α := match o with
  | .ok a w => .ok a w
  | _ => .stuck
@[simp] theorem noX_ok {α : Type} (a : α) (w : World) : noX (.ok a w) = .ok a w := rfl
theorem Pst.noX {α : Type} {o : Out α} {g : α → World → Prop} {b b' : Exn → Ev → World → Prop} (h : Pst (Dl.noX o) g b) : Pst o g b' := by
  cases o with
  | ok a w => exact h
  | exc x e w => exact h.elim
  | stuck => exact h.elim
def RV.st : RV → Option D
  | .dat d => some d
  | .fresh l => some (.lst l)
  | _ => none
theorem st_arg {r : RV} {d : D} (h : r.st = some d) : r.arg = some (.dat d) := by
  cases r <;> first | (cases h; done) | (cases h; rfl)
def compGo (g : Tgt) (tt : Tst) (elt : Ex) (env0 : Ev) : List D → World → Out (List D)
  | [], w => .ok [] w
  | d :: ds, w => match g d env0 with
    | none => .stuck
    | some env1 => (noX (tt env1 w)).bind fun b w1 => if b = true then (noX (elt env1 w1)).bind fun r w2 => (match r.st with
        | some x => (compGo g tt elt env0 ds w2).bind fun xs w3 => .ok (x :: xs) w3
        | none => .stuck)
      else compGo g tt elt env0 ds w1
def dComp (src : Src) (vs : List Nat) (g : Tgt) (tt : Tst) (elt : Ex) : Ex := fun env w => (src env w).bind fun l w1 => (compGo g tt elt (wipeE env vs) l w1).bind fun xs w2 => .ok (.fresh xs) w2
def tYes' : Tst := fun _ w => .ok true w
abbrev noW : WX := fun _ _ _ _ => False
abbrev JTs (X : Cx) (T : Tbs) (es : List Expr) (d : Tst) : Prop := PTs X es (tT (Cx.tx X T) noW d)
section
variable {X : Cx} {T : Tbs} {Wi : WX} {pos : Pos}
theorem _root_.L2.PTs.impD {X : Cx} {es : List Expr} {t t' : TT} (h : PTs X es t) (k : ∀ σ H Q, t' σ H Q → t σ H Q) : PTs X es t' := ⟨fun pins s σ H Q I q => h.run pins s σ H Q I (k σ H Q q)⟩
theorem jts_nil : JTs X T [] tYes' := pts_nil.impD fun σ H Q q => by
  obtain ⟨B, env, w, F, O, M, s, q⟩ := q
  exact q H F M s .refl
theorem jts_one {c : Expr} {t : Tst} (h : JT X T noW c t) : JTs X T [c] t := pts_one h
theorem tab_updL {T : List NTab} {H : Hp} {D : Addr} {vs ws : List V} (t : TabsN T H) (e : H D = some (.lst vs)) : TabsN T (upd H D (.lst ws)) := fun p hp => by
  obtain ⟨ps, h1, h2, h3⟩ := t p hp
  have n1 : p.1 ≠ D := ne_of h1 e (by simp)
  refine ⟨ps, by rw [upd_ne n1]; exact h1, h2, fun pos cv hc => ?_⟩
  obtain ⟨c, e1, e2⟩ := h3 pos cv hc
  have n2 : c ≠ D := ne_of e2 e (by unfold LamX.CodeO; simp)
  exact ⟨c, e1, by rw [upd_ne n2]; exact e2⟩
theorem tab_new {T : List NTab} {H : Hp} {D : Addr} {o : HO} (t : TabsN T H) (e : H D = none) : TabsN T (upd H D o) := t.ext (same_upd e)
/-- a list that no one else knows is written -/
theorem SR.updFree {X : Tx} {B : Base} {env : Ev} {w : World} {σ : St} {H F : Hp} {O : Nat → Addr} {M : List Addr} {D : Addr} {vs ws : List V} (s : SR X B env w σ H F O M) (e : H D = some (.lst vs)) (hB : B.H D = none) (hF : F D = none) (hM : D ∉ M)
    (hO : ∀ i l, env[i]? = some (.own l) → O i ≠ D) : SR X B env w σ (upd H D (.lst ws)) F O M := by
  have ne : ∀ {a : Addr} {o : HO}, H a = some o → a ≠ D → upd H D (.lst ws) a = some o := fun h n => by rw [upd_ne n]; exact h
  refine ⟨s.len, fun b o q => ?_, s.nt, ⟨s.st.fg, fun a o hM' ht q => ?_, fun a h => ?_, s.st.nf, s.st.mw⟩, ⟨s.wr.nd, ?_⟩, tab_updL s.tb e, fun i sl e' => ?_, s.inj⟩
  · exact ne (s.fh _ _ q) (fun z => by subst z; rw [hF] at q; cases q)
  · exact ne (s.st.fr a o hM' ht q) (fun z => by subst z; rw [hB] at q; cases q)
  · by_cases z : a = D
    · subst z; rw [upd_same]; simp
    · rw [upd_ne z]; exact s.st.th a h
  · have go : ∀ {M : List Addr} {w : World}, D ∉ M → Paired (fun m o => F m = none ∧ WO.isAt X F H m o) M w → Paired (fun m o => F m = none ∧ WO.isAt X F (upd H D (.lst ws)) m o) M w := by
      intro M w hM h
      induction h with
      | nil => exact .nil
      | @cons m o _ _ h1 _ ih =>
        have nm : m ≠ D := fun z => hM (by rw [← z]; exact List.mem_cons_self)
        refine .cons ⟨h1.1, ?_⟩ (ih fun z => hM (List.mem_cons_of_mem _ z))
        cases o with
        | lst l => obtain ⟨_, ez, us, e1, e2⟩ := h1; exact ⟨ez, us, ne e1 nm, e2⟩
        | clo i caps => exact CloAt.keep h1.2 (keepE_upd e) (Same.refl _) (fun _ _ e => e)
    exact go hM s.wr.at_
  · have h := s.sl i sl e'
    cases sl with
    | un => trivial
    | dat d => exact h
    | own l =>
      obtain ⟨e1, e2, e3, e4, ez, us, e5, e6⟩ := h
      exact ⟨e1, e2, e3, e4, ez, us, ne e5 (hO i l e'), e6⟩
    | wref k => exact h
theorem wipe_own {env : Ev} {i : Nat} {l : List D} : ∀ {vs : List Nat}, (wipeE env vs)[i]? = some (.own l) → env[i]? = some (.own l)
  | [], h => h
  | v :: vs, h => by
    unfold wipeE at h
    by_cases hi : v = i
    · subst hi
      by_cases hv : v < (wipeE env vs).length
      · rw [List.getElem?_set_self hv] at h; cases h
      · rw [List.getElem?_eq_none (by simpa using hv)] at h; cases h
    · rw [List.getElem?_set_ne hi] at h
      exact wipe_own h
/-- the comprehension's own reading -/
theorem lc_read {src : Src} {g : Tgt} {tt : Tst} {elt : Ex} {vs us : List Nat} (hvs : ∀ i ∈ us, i ∈ vs) {σ : St} {H : Hp} {Q : VK} (q : tD (Cx.tx X T) Wi (dComp src vs g tt elt) σ H Q) :
    tLc (tIt (Cx.tx X T) Wi src) (tG (Cx.tx X T) g us) (tT (Cx.tx X T) noW tt) (tD (Cx.tx X T) noW elt) vs σ H Q := by
  obtain ⟨B, env, w, F, O, M, s, q⟩ := q
  refine ⟨B, env, w, F, O, M, s, q.bind.imp fun l w1 q1 J H1 F1 M1 s1 st1 wk D hD => ?_⟩
  have q1 := q1.bind
  have hB : B.H D = none := by
    cases z : B.H D with
    | none => rfl
    | some o => exact absurd hD (s1.st.th D (by rw [z]; simp))
  have hH : H D = none := by
    cases z : H D with
    | none => rfl
    | some o => exact absurd hD (st1.th D (by rw [z]; simp))
  have hO : ∀ i k, env[i]? = some (.own k) → O i ≠ D := fun i k e z => by
    obtain ⟨_, _, _, _, _, ws, q', _⟩ := s.sl i _ e
    rw [z, hH] at q'; cases q'
  refine ⟨fun i m H' => m = l.length - i ∧ i ≤ l.length ∧ ∃ w' es F' M' vsD, es.length ≤ i ∧ SR (Cx.tx X T) B env w' σ H' F' O M' ∧ Stp H F M H' F' M' ∧ Same F1 F' ∧ H' D = some (.lst vsD) ∧ F' D = none ∧ D ∉ M' ∧ Paired (Rp X.K F') vsD es ∧
      Pst (compGo g tt elt (wipeE env vs) (l.drop i) w') (fun rest w2 => ∀ v H2 F2 M2, SR (Cx.tx X T) B env w2 σ H2 F2 O M2 → Stp H F M H2 F2 M2 → RV.isAt (Cx.tx X T) H env O H2 F2 M2 v (.fresh (es ++ rest)) → Q v H2) (fun _ _ _ => False), ⟨l.length, by simp, Nat.zero_le _, w1, [], F1, M1, [], Nat.le_refl _, ?_⟩, ?_⟩
  · have xt : Xt H1 F1 (upd H1 D (.lst [])) F1 := Xt.newL s1.fh s1.nt hD
    refine ⟨s1.xt xt, st1.trans xt.stp, Same.refl _, upd_same, s1.fh.free hD, fun z => s1.wr.there z hD, .nil, ?_⟩
    rw [List.drop_zero]
    cases eg : compGo g tt elt (wipeE env vs) l w1 with
    | stuck => rw [eg] at q1; exact q1.elim
    | ok rest w2 => rw [eg] at q1; exact fun v H2 F2 M2 s2 st2 r2 => q1 v H2 F2 M2 s2 st2 r2
    | exc x e' w2 =>
      exfalso
      have nx : ∀ (l : List Dl.D) (w : World) (x : Exn) (e : Ev) (w2 : World), compGo g tt elt (wipeE env vs) l w ≠ .exc x e w2 := by
        intro l
        induction l with
        | nil => intro w x e w2 z; cases z
        | cons d ds ih =>
          intro w x e w2 z
          unfold compGo at z
          split at z
          · cases z
          · rename_i env1 _
            cases h1 : tt env1 w with
            | stuck => rw [h1] at z; cases z
            | exc _ _ _ => rw [h1] at z; cases z
            | ok b w3 =>
              rw [h1] at z
              simp only [noX_ok, bind_ok] at z
              split at z
              · cases h2 : elt env1 w3 with
                | stuck => rw [h2] at z; cases z
                | exc _ _ _ => rw [h2] at z; cases z
                | ok r w4 =>
                  rw [h2] at z
                  simp only [noX_ok, bind_ok] at z
                  split at z
                  · cases h3 : compGo g tt elt (wipeE env vs) ds w4 with
                    | stuck => rw [h3] at z; cases z
                    | exc a b c => exact ih _ _ _ _ h3
                    | ok a b => rw [h3] at z; cases z
                  · cases z
              · exact ih _ _ _ _ z
      exact nx l w1 x e' w2 eg
  · rintro i m H' ⟨rfl, hi, w', es, F', M', vsD, hes, sr, st, sf, hDl, hFD, hMD, pd, qq⟩
    by_cases hlt : i < l.length
    · refine .inr ⟨wk.go i H' F' sf sr.fh hlt, fun H'' => i + 1 ≤ l.length ∧ ∃ w' es F' M' vsD, es.length ≤ i + 1 ∧ SR (Cx.tx X T) B env w' σ H'' F' O M' ∧ Stp H F M H'' F' M' ∧ Same F1 F' ∧ H'' D = some (.lst vsD) ∧ F' D = none ∧ D ∉ M' ∧ Paired (Rp X.K F') vsD es ∧
          Pst (compGo g tt elt (wipeE env vs) (l.drop (i + 1)) w') (fun rest w2 => ∀ v H2 F2 M2, SR (Cx.tx X T) B env w2 σ H2 F2 O M2 → Stp H F M H2 F2 M2 → RV.isAt (Cx.tx X T) H env O H2 F2 M2 v (.fresh (es ++ rest)) → Q v H2) (fun _ _ _ => False), fun H'' ⟨z1, z2⟩ => ⟨l.length - (i + 1), by omega, rfl, z1, z2⟩, fun x H2 hy => ?_⟩
      obtain ⟨F2, xt2, rx⟩ := wk.yld i H' F' x H2 l[i] sf sr.fh sr.nt hy (List.getElem?_eq_getElem hlt)
      have sr2 := sr.xt xt2
      rw [List.drop_eq_getElem_cons hlt] at qq
      unfold compGo at qq
      split at qq
      · exact qq.elim
      · rename_i env1 eg
        refine ⟨B, wipeE env vs, w', F2, O, M', l[i], env1, sr2.wipe vs, rx, eg, fun σ2 s2 hw => ⟨?_, ?_⟩⟩
        · rw [hw vs hvs]
          have idem : ∀ us : List Nat, (∀ i ∈ us, i ∈ vs) → wipe (wipe σ vs) us = wipe σ vs := by
            intro us
            induction us with
            | nil => intro _; rfl
            | cons u us ih =>
              intro hu
              show (wipe (wipe σ vs) us).set u none = wipe σ vs
              rw [ih fun i hi => hu i (List.mem_cons_of_mem _ hi)]
              have hu' := hu u List.mem_cons_self
              have : ∀ {ws : List Nat}, u ∈ ws → (wipe σ ws).set u none = wipe σ ws := by
                intro ws
                induction ws with
                | nil => intro h; cases h
                | cons a ws ih2 =>
                  intro h
                  show ((wipe σ ws).set a none).set u none = (wipe σ ws).set a none
                  by_cases ha : a = u
                  · subst ha; rw [List.set_set]
                  · rcases List.mem_cons.mp h with z | z
                    · exact absurd z.symm ha
                    · rw [List.set_comm _ _ ha, ih2 z]
              exact this hu'
          exact idem vs fun _ h => h
        · have qt := qq.bind.noX (b' := badX (Cx.tx X T) B noW)
          refine ⟨B, env1, w', F2, O, M', s2, qt.imp fun b w3 q3 H3 F3 M3 s3 st3 => ?_⟩
          have sr3 := sr2.step st3 s3.fh s3.nt s3.wr s3.tb
          have hDl3 : H3 D = some (.lst vsD) := st3.fr D _ (fun z => absurd z hMD) (fun _ z => by cases z) (xt2.hh _ _ hDl)
          have hMD3 : D ∉ M3 := notM' st3 hMD (by rw [xt2.hh _ _ hDl]; simp)
          have hFD2 : F2 D = none := xt2.nf D (by rw [hDl]; simp) hFD
          have hFD3 : F3 D = none := st3.nf D (by rw [xt2.hh _ _ hDl]; simp) hFD2
          have st03 := (st.trans xt2.stp).trans st3
          cases b with
          | false =>
            simp only [Bool.false_eq_true, if_false] at q3 ⊢
            exact ⟨hlt, w3, es, F3, M3, vsD, by omega, sr3, st03, (sf.trans xt2.ff).trans st3.fg, hDl3, hFD3, hMD3, Rp.monoAll (xt2.ff.trans st3.fg) _ _ pd, q3⟩
          | true =>
            simp only [if_true] at q3 ⊢
            have qe := q3.bind.noX (b' := badX (Cx.tx X T) B noW)
            refine ⟨B, env1, w3, F3, O, M3, s3, qe.imp fun r w4 q4 y H4 F4 M4 s4 st4 r4 => ?_⟩
            split at q4
            · rename_i d ed
              obtain ⟨F5, s5, st5, a5⟩ := keep_arg s3 s4 st4 r4 (st_arg ed)
              have hDl4 : H4 D = some (.lst vsD) := st5.fr D _ (fun z => absurd z hMD3) (fun _ z => by cases z) hDl3
              have hMD4 : D ∉ M4 := notM' st5 hMD3 (by rw [hDl3]; simp)
              have hFD5 : F5 D = none := st5.nf D (by rw [hDl3]; simp) hFD3
              have sr5 := sr3.step st5 s5.fh s5.nt s5.wr s5.tb
              have st05 := st03.trans st5
              have sr6 := sr5.updFree (ws := vsD ++ [y]) hDl4 hB hFD5 hMD4 hO
              have pd5 := Rp.monoAll ((xt2.ff.trans st3.fg).trans st5.fg) _ _ pd
              have hvl : vsD.length ≤ i := by rw [pd.length]; exact hes
              have hbd := wk.bd
              refine ⟨vsD, hDl4, by omega, hlt, w4, es ++ [d], F5, M4, vsD ++ [y], ?_, sr6, ?_, ((sf.trans xt2.ff).trans st3.fg).trans st5.fg, upd_same, hFD5, hMD4, Pr.append pd5 (.cons a5 .nil), ?_⟩
              · rw [List.length_append, List.length_singleton]; omega
              · exact ⟨st05.fg, fun a o hM' ht q' => by
                  have := st05.fr a o hM' ht q'
                  have na : a ≠ D := fun z => by subst z; rw [hH] at q'; cases q'
                  rw [upd_ne na]; exact this, fun a h => by
                  by_cases z : a = D
                  · subst z; rw [upd_same]; simp
                  · rw [upd_ne z]; exact st05.th a h, st05.nf, st05.mw⟩
              · have q5 := q4.bind
                refine q5.imp fun rest w5 q6 v H6 F6 M6 s6 st6 r6 => q6 v H6 F6 M6 s6 st6 ?_
                rw [List.append_assoc] at r6
                exact r6
            · exact q4.elim
    · have hil : i = l.length := by omega
      subst hil
      refine .inl ⟨wk.stop _ H' F' sf sr.fh (Nat.le_refl _), ?_⟩
      rw [List.drop_length] at qq
      have qq' : ∀ v H2 F2 M2, SR (Cx.tx X T) B env w' σ H2 F2 O M2 → Stp H F M H2 F2 M2 → RV.isAt (Cx.tx X T) H env O H2 F2 M2 v (.fresh (es ++ [])) → Q v H2 := qq
      rw [List.append_nil] at qq'
      exact qq' _ H' F' M' sr st ⟨Nat.le_trans hes wk.bd, D, vsD, rfl, hH, hFD, hMD, hDl, pd⟩
theorem je_comp {elt tg iter : Expr} {ifs : List Expr} {scope : Scope} {own : List (Str × Nat)} {src : Src} {g : Tgt} {tt : Tst} {de : Ex} {us vs : List Nat} (hc : X.calm = true) (hN : X.N.Nodup) (hi : JI X T Wi tg iter src) (ok : BlkOk X.N X.env.scope scope own)
    (hv : own.map (·.2) = vs) (hvs : ∀ i ∈ us, i ∈ vs)
    (hg : ∀ (s : Shared) (H : Hp) (C : Addr) (cl : List (Str × Addr)) (fp : List Addr), JG (X.blk s H scope (compEnvC scope cl C X.env) fp) T tg g us)
    (ht : ∀ (s : Shared) (H : Hp) (C : Addr) (cl : List (Str × Addr)) (fp : List Addr), JTs (X.blk s H scope (compEnvC scope cl C X.env) fp) T ifs tt)
    (he : ∀ (s : Shared) (H : Hp) (C : Addr) (cl : List (Str × Addr)) (fp : List Addr), JE (X.blk s H scope (compEnvC scope cl C X.env) fp) T noW elt de) (hs : ∀ x, foldedSetIterable iter X.env x = pure x := by intro _; rfl) :
    JE X T Wi (.ListComp elt [⟨tg, iter, ifs, 0⟩] scope pos) (dComp src vs g tt de) := by
  subst hv
  exact (pe_lc hc hN hi ok hg ht he hs).impD fun σ H Q q => lc_read hvs q
theorem js_setComp {i : Nat} {y : Str} {py spos : Pos} {elt tg iter : Expr} {ifs : List Expr} {scope : Scope} {own : List (Str × Nat)} {src : Src} {g : Tgt} {tt : Tst} {de : Ex} {us : List Nat} (hc : X.calm = true) (hN : X.N.Nodup) (hy : X.N[i]? = some y) (hyl : X.env.scope.names.lookup y = some .local)
    (hsw : swapsWith (.ListComp elt [⟨tg, iter, ifs, 0⟩] scope pos) (some (.Name y py)) spos.line X.env = pure true) (hi : JI X T Wi tg iter src) (ok : BlkOk X.N X.env.scope scope own) (hvs : ∀ i ∈ us, i ∈ own.map (·.2))
    (hg : ∀ (s : Shared) (H : Hp) (C : Addr) (cl : List (Str × Addr)) (fp : List Addr), JG (X.blk s H scope (compEnvC scope cl C X.env) fp) T tg g us)
    (ht : ∀ (s : Shared) (H : Hp) (C : Addr) (cl : List (Str × Addr)) (fp : List Addr), JTs (X.blk s H scope (compEnvC scope cl C X.env) fp) T ifs tt)
    (he : ∀ (s : Shared) (H : Hp) (C : Addr) (cl : List (Str × Addr)) (fp : List Addr), JE (X.blk s H scope (compEnvC scope cl C X.env) fp) T noW elt de) (hs : ∀ x, foldedSetIterable iter X.env x = pure x := by intro _; rfl) :
    PS X (.Assign [.Name y py] (.ListComp elt [⟨tg, iter, ifs, 0⟩] scope pos) spos) (tAsg (tD (Cx.tx X T) Wi (dComp src (own.map (·.2)) g tt de)) (gName i)) :=
  (ps_setLc hc hN hy hyl hsw hi ok hg ht he hs).impD fun D σ H q => lc_read hvs q
end
end Dl
/-! DlH: statements. -/
namespace Dl
open PySem PySem.Spec PyProof.Rows L2 NdefX
inductive Fl where
  | nx (env : Ev) | rt (r : RV) | bk (env : Ev) | ct (env : Ev)
abbrev Sd := Ev → World → Out Fl
/-- what is handed back -/
structure RetAt (X : Tx) (B : Base) (w : World) (H F : Hp) (M : List Addr) (v : V) (r : RV) : Prop where
  st : Stp B.H B.F B.M H F M
  fh : Same F H
  nt : NoTbl F
  wr : WRel X F H M w
  tb : TabsN X.T.tabs H
  at_ : r.isAt X B.H [] (fun _ => 0) H F M v
def flG (X : Tx) (B : Base) (F0 : Hp) (Dn : Ends) (f : Fl) (w : World) : Prop := match f with
  | .nx env => ∀ σ H F O M, SR X B env w σ H F O M → Same F0 F → Dn.nx σ H
  | .rt r => ∀ v H F M, RetAt X B w H F M v r → Dn.rt v H
  | .bk env => ∀ σ H F O M, SR X B env w σ H F O M → Same F0 F → Dn.bk σ H
  | .ct env => ∀ σ H F O M, SR X B env w σ H F O M → Same F0 F → Dn.ct σ H
theorem flG.later {X : Tx} {B : Base} {F0 F1 : Hp} {Dn : Ends} {f : Fl} {w : World} (h : flG X B F0 Dn f w) (e : Same F0 F1) : flG X B F1 Dn f w := by
  cases f with
  | nx env => exact fun σ H F O M s k => h σ H F O M s (e.trans k)
  | bk env => exact fun σ H F O M s k => h σ H F O M s (e.trans k)
  | ct env => exact fun σ H F O M s k => h σ H F O M s (e.trans k)
  | rt r => exact h
def tS (X : Tx) (Wi : WX) (s : Sd) : TS := fun Dn σ H => ∃ B env w F O M, SR X B env w σ H F O M ∧ Pst (s env w) (flG X B F Dn) (badX X B Wi)
abbrev JS (X : Cx) (T : Tbs) (Wi : WX) (st : Stmt) (d : Sd) : Prop := PS X st (tS (Cx.tx X T) Wi d)
abbrev JSs (X : Cx) (T : Tbs) (Wi : WX) (st : List Stmt) (d : Sd) : Prop := PSs X st (tS (Cx.tx X T) Wi d)
/-! ### blocks -/
def sNil : Sd := fun env w => .ok (.nx env) w
def sSeq (a b : Sd) : Sd := fun env w => (a env w).bind fun f w1 => match f with
  | .nx env1 => b env1 w1
  | f => .ok f w1
section
variable {X : Cx} {T : Tbs} {Wi : WX} {pos : Pos} {st : Stmt} {sts : List Stmt} {a b : Sd} {e : Expr} {d : Ex}
theorem jss_nil : JSs X T Wi [] sNil := pss_nil.impD fun D σ H q => by
  obtain ⟨B, env, w, F, O, M, s, q⟩ := q
  exact q σ H F O M s (Same.refl _)
theorem jss_cons (h : JS X T Wi st a) (hs : JSs X T Wi sts b) : JSs X T Wi (st :: sts) (sSeq a b) := (pss_cons h hs).impD fun D σ H q => by
  obtain ⟨B, env, w, F, O, M, s, q⟩ := q
  refine ⟨B, env, w, F, O, M, s, q.bind.imp fun f w1 q1 => ?_⟩
  cases f with
  | nx env1 => exact fun σ1 H1 F1 O1 M1 s1 k => ⟨B, env1, w1, F1, O1, M1, s1, q1.imp fun f w z => z.later k⟩
  | rt r => exact q1
  | bk env1 => exact q1
  | ct env1 => exact q1
theorem jss_one (h : JS X T Wi st a) : JSs X T Wi [st] a := pss_one h
def sPass : Sd := fun env w => .ok (.nx env) w
def sBreak : Sd := fun env w => .ok (.bk env) w
def sCont : Sd := fun env w => .ok (.ct env) w
def sNever : Sd := fun _ _ => .stuck
theorem js_pass : JS X T Wi (.Pass pos) sPass := ps_pass.impD fun D σ H q => by
  obtain ⟨B, env, w, F, O, M, s, q⟩ := q
  exact q σ H F O M s (Same.refl _)
theorem js_break : JS X T Wi (.Break pos) sBreak := ps_break.impD fun D σ H q => by
  obtain ⟨B, env, w, F, O, M, s, q⟩ := q
  exact q σ H F O M s (Same.refl _)
theorem js_cont : JS X T Wi (.Continue pos) sCont := ps_continue.impD fun D σ H q => by
  obtain ⟨B, env, w, F, O, M, s, q⟩ := q
  exact q σ H F O M s (Same.refl _)
theorem js_never : JS X T Wi st sNever := ps_never.impD fun D σ H q => by
  obtain ⟨B, env, w, F, O, M, s, q⟩ := q
  exact q.elim
/-- an expression whose value is dropped -/
def sExpr (e : Ex) : Sd := fun env w => (e env w).bind fun _ w1 => .ok (.nx env) w1
theorem js_expr (h : JE X T Wi e d) (hs : swapsWith e none pos.line X.env = pure false := by rfl) : JS X T Wi (.Expr e pos) (sExpr d) := (ps_expr h hs).impD fun D σ H q => by
  obtain ⟨B, env, w, F, O, M, s, q⟩ := q
  exact ⟨B, env, w, F, O, M, s, q.bind.imp fun r w1 q1 v H1 F1 M1 s1 st1 r1 => q1 σ H1 F1 O M1 s1 st1.fg⟩
/-- return -/
def RV.ret : RV → RV
  | .bor _ l => .fresh l
  | r => r
def sRet (e : Ex) : Sd := fun env w => (e env w).bind fun r w1 => .ok (.rt r.ret) w1
theorem ret_at {X : Tx} {B : Base} {env : Ev} {w w1 : World} {σ : St} {H F H1 F1 : Hp} {O : Nat → Addr} {M M1 : List Addr} {v : V} {r : RV} (s : SR X B env w σ H F O M) (s1 : SR X B env w1 σ H1 F1 O M1) (h : r.isAt X H env O H1 F1 M1 v) : RetAt X B w1 H1 F1 M1 v r.ret := by
  refine ⟨s1.st, s1.fh, s1.nt, s1.wr, s1.tb, ?_⟩
  cases r with
  | dat d => exact h
  | wref k => exact h
  | fresh l => exact RV.since (r := .fresh l) (env := []) (O := fun _ => 0) h s.st.th
  | bor i l =>
    obtain ⟨e1, e2⟩ := h
    obtain ⟨_, e4, e5, e6, ez, vs, e7, e8⟩ := s1.sl i _ e1
    exact ⟨ez, O i, vs, e2, e4, e5, e6, e7, e8⟩
theorem js_ret (h : JE X T Wi e d) : JS X T Wi (.Return (some e) pos) (sRet d) := (ps_ret h).impD fun D σ H q => by
  obtain ⟨B, env, w, F, O, M, s, q⟩ := q
  exact ⟨B, env, w, F, O, M, s, q.bind.imp fun r w1 q1 v H1 F1 M1 s1 st1 r1 => q1 v H1 F1 M1 (ret_at s s1 r1)⟩
def sRetN : Sd := fun _ w => .ok (.rt (.dat .non)) w
theorem js_retN : JS X T Wi (.Return none pos) sRetN := ps_retN.impD fun D σ H q => by
  obtain ⟨B, env, w, F, O, M, s, q⟩ := q
  exact q .non H F M ⟨s.st, s.fh, s.nt, s.wr, s.tb, .non⟩
/-- if -/
def sIf (c : Tst) (a b : Sd) : Sd := fun env w => (c env w).bind fun k w1 => if k = true then a env w1 else b env w1
theorem js_if {c : Expr} {tc : Tst} {sa sb : List Stmt} (hc : JT X T Wi c tc) (ha : JSs X T Wi sa a) (hb : JSs X T Wi sb b) : JS X T Wi (.If c sa sb pos) (sIf tc a b) := (ps_if hc ha hb).impD fun D σ H q => by
  obtain ⟨B, env, w, F, O, M, s, q⟩ := q
  refine ⟨B, env, w, F, O, M, s, q.bind.imp fun k w1 q1 H1 F1 M1 s1 st1 => ?_⟩
  cases k with
  | true => rw [if_pos rfl] at q1 ⊢; exact ⟨B, env, w1, F1, O, M1, s1, q1.imp fun f w z => z.later st1.fg⟩
  | false => rw [if_neg Bool.false_ne_true] at q1 ⊢; exact ⟨B, env, w1, F1, O, M1, s1, q1.imp fun f w z => z.later st1.fg⟩
/-! ### names stored -/
section
variable {X : Tx} {B : Base} {env : Ev} {w : World} {σ : St} {H F Hs : Hp} {O : Nat → Addr} {M : List Addr}
theorem own_of_set {sl : Sl} {i j : Nat} {l : List D} (h : (env.set i sl)[j]? = some (.own l)) (hn : ∀ l, sl ≠ .own l) : env[j]? = some (.own l) ∧ i ≠ j := by
  by_cases hj : i = j
  · subst hj
    have hlt : i < env.length := by simpa using (List.getElem?_eq_some_iff.mp h).1
    rw [List.getElem?_set_self hlt] at h
    exact absurd (Option.some.inj h) (hn l)
  · rw [List.getElem?_set_ne hj] at h; exact ⟨h, hj⟩
theorem SR.setOwn {i : Nat} {p : Addr} {vs : List V} {l : List D} (s : SR X B env w σ H F O M) (hz : l.length ≤ sizeLine) (hB : B.H p = none) (hF : F p = none) (hM : p ∉ M) (hp : H p = some (.lst vs)) (pp : Paired (Rp X.K F) vs l)
    (hO : ∀ j k, j ≠ i → env[j]? = some (.own k) → O j ≠ p) : SR X B (env.set i (.own l)) w (σ.set i (some (.ref p))) H F (fun j => if j = i then p else O j) M := by
  refine ⟨by simpa using s.len, s.fh, s.nt, s.st, s.wr, s.tb, fun j sl e => ?_, fun j k lj lk e1 e2 h => ?_⟩
  · by_cases hj : i = j
    · subst hj
      have hlt : i < env.length := by simpa using (List.getElem?_eq_some_iff.mp e).1
      rw [List.getElem?_set_self hlt] at e
      cases e
      rw [List.getElem?_set_self (by rw [s.len]; exact hlt)]
      show (some (some (V.ref p)) : Option (Option V)) = some (some (.ref (if i = i then p else O i))) ∧ B.H (if i = i then p else O i) = none ∧ F (if i = i then p else O i) = none ∧ (if i = i then p else O i) ∉ M ∧ l.length ≤ sizeLine ∧ ∃ vs, H (if i = i then p else O i) = some (.lst vs) ∧ Paired (Rp X.K F) vs l
      rw [if_pos rfl]
      exact ⟨rfl, hB, hF, hM, hz, vs, hp, pp⟩
    · rw [List.getElem?_set_ne hj] at e ⊢
      have h := s.sl j sl e
      cases sl with
      | own k =>
        show σ[j]? = some (some (.ref (if j = i then p else O j))) ∧ B.H (if j = i then p else O j) = none ∧ F (if j = i then p else O j) = none ∧ (if j = i then p else O j) ∉ M ∧ k.length ≤ sizeLine ∧ ∃ vs, H (if j = i then p else O j) = some (.lst vs) ∧ Paired (Rp X.K F) vs k
        rw [if_neg (fun z => hj z.symm)]
        exact h
      | un => trivial
      | dat d => exact h
      | wref k => exact h
  · have h : (if j = i then p else O j) = (if k = i then p else O k) := h
    by_cases hj : j = i
    · by_cases hk : k = i
      · rw [hj, hk]
      · rw [if_pos hj, if_neg hk] at h
        rw [List.getElem?_set_ne (fun z => hk z.symm)] at e2
        exact absurd h.symm (hO k lk hk e2)
    · rw [List.getElem?_set_ne (fun z => hj z.symm)] at e1
      by_cases hk : k = i
      · rw [if_neg hj, if_pos hk] at h
        exact absurd h (hO j lj hj e1)
      · rw [if_neg hj, if_neg hk] at h
        rw [List.getElem?_set_ne (fun z => hk z.symm)] at e2
        exact s.inj j k lj lk e1 e2 h
theorem SR.setRef {i k : Nat} {m : Addr} (s : SR X B env w σ H F O M) (hm : M[k]? = some m) : SR X B (env.set i (.wref k)) w (σ.set i (some (.ref m))) H F O M := by
  refine ⟨by simpa using s.len, s.fh, s.nt, s.st, s.wr, s.tb, fun j sl e => ?_, fun j k lj lk e1 e2 => ?_⟩
  · by_cases hj : i = j
    · subst hj
      have hlt : i < env.length := by simpa using (List.getElem?_eq_some_iff.mp e).1
      rw [List.getElem?_set_self hlt] at e
      cases e
      exact ⟨m, hm, by rw [List.getElem?_set_self (by rw [s.len]; exact hlt)]⟩
    · rw [List.getElem?_set_ne hj] at e
      have := s.sl j sl e
      rw [List.getElem?_set_ne hj]
      exact this
  · exact s.inj j k lj lk (own_of_set e1 (fun _ z => by cases z)).1 (own_of_set e2 (fun _ z => by cases z)).1
/-- facts of a fresh list -/
theorem fresh_out {r : RV} {l : List D} {w0 : World} {H0 F0 : Hp} {M0 : List Addr} {v : V} (s0 : SR X B env w0 σ H0 F0 O M0) (h : (RV.fresh l).isAt X H0 env O H F M v) : l.length ≤ sizeLine ∧ ∃ p vs, v = .ref p ∧ B.H p = none ∧ F p = none ∧ p ∉ M ∧ H p = some (.lst vs) ∧ Paired (Rp X.K F) vs l ∧ ∀ j k, env[j]? = some (.own k) → O j ≠ p := by
  obtain ⟨hz, p, vs, e1, e2, e3, e4, e5, e6⟩ := h
  refine ⟨hz, p, vs, e1, ?_, e3, e4, e5, e6, fun j k e z => ?_⟩
  · cases q : B.H p with
    | none => rfl
    | some o => exact absurd e2 (s0.st.th p (by rw [q]; simp))
  · obtain ⟨_, _, _, _, _, ws, q, _⟩ := s0.sl j _ e
    rw [z, e2] at q; cases q
end
/-- name = e -/
def sSet (i : Nat) (e : Ex) : Sd := fun env w => (e env w).bind fun r w1 => match r with
  | .dat d => .ok (.nx (env.set i (.dat d))) w1
  | .fresh l => .ok (.nx (env.set i (.own l))) w1
  | .wref k => .ok (.nx (env.set i (.wref k))) w1
  | .bor _ _ => .stuck
theorem set_read {i : Nat} {D : Ends} {σ : St} {H : Hp} (q : tS (Cx.tx X T) Wi (sSet i d) D σ H) : tAsg (tD (Cx.tx X T) Wi d) (gName i) D σ H := by
  obtain ⟨B, env, w, F, O, M, s, q⟩ := q
  refine ⟨B, env, w, F, O, M, s, q.bind.imp fun r w1 q1 v H1 F1 M1 s1 st1 r1 => ?_⟩
  cases r with
  | dat d => exact q1 _ H1 F1 O M1 (s1.setDat r1) st1.fg
  | wref k => obtain ⟨m, e1, e2⟩ := r1; subst e2; exact q1 _ H1 F1 O M1 (s1.setRef e1) st1.fg
  | bor i l => exact q1.elim
  | fresh l =>
    obtain ⟨hz, p, vs, e1, e2, e3, e4, e5, e6, e7⟩ := fresh_out (r := .dat .non) s r1
    subst e1
    exact q1 _ H1 F1 _ M1 (s1.setOwn hz e2 e3 e4 e5 e6 fun j k _ e => e7 j k e) st1.fg
theorem js_set {i : Nat} {x : Str} {pos' : Pos} (hN : X.N.Nodup) (hi : X.N[i]? = some x) (hx : Loc X.env.scope x) (h : JE X T Wi e d) (hs : swapsWith e (some (.Name x pos')) pos.line X.env = pure false := by rfl)
    (hf : X.fn x = true ∨ X.env.scope.names.lookup x = some .local := by first | exact .inl rfl | exact .inr rfl | assumption) : JS X T Wi (.Assign [.Name x pos'] e pos) (sSet i d) :=
  (ps_set hN hi hx h hs hf).impD fun D σ H q => set_read q
/-- name = [..] -/
theorem js_setC {i : Nat} {y : Str} {py spos : Pos} {elt tg iter : Expr} {ifs : List Expr} {scope : Scope} {own : List (Str × Nat)} {src : Src} {g : Tgt} {tt : Tst} {de : Ex} {us vs : List Nat} (hc : X.calm = true) (hN : X.N.Nodup) (hy : X.N[i]? = some y) (hyl : X.env.scope.names.lookup y = some .local)
    (hsw : swapsWith (.ListComp elt [⟨tg, iter, ifs, 0⟩] scope pos) (some (.Name y py)) spos.line X.env = pure true) (hi : JI X T Wi tg iter src) (ok : BlkOk X.N X.env.scope scope own) (hv : own.map (·.2) = vs) (hvs : ∀ i ∈ us, i ∈ vs)
    (hg : ∀ (s : Shared) (H : Hp) (C : Addr) (cl : List (Str × Addr)) (fp : List Addr), JG (X.blk s H scope (compEnvC scope cl C X.env) fp) T tg g us)
    (ht : ∀ (s : Shared) (H : Hp) (C : Addr) (cl : List (Str × Addr)) (fp : List Addr), JTs (X.blk s H scope (compEnvC scope cl C X.env) fp) T ifs tt)
    (he : ∀ (s : Shared) (H : Hp) (C : Addr) (cl : List (Str × Addr)) (fp : List Addr), JE (X.blk s H scope (compEnvC scope cl C X.env) fp) T noW elt de) (hs : ∀ x, foldedSetIterable iter X.env x = pure x := by intro _; rfl) :
    JS X T Wi (.Assign [.Name y py] (.ListComp elt [⟨tg, iter, ifs, 0⟩] scope pos) spos) (sSet i (dComp src vs g tt de)) := by
  subst hv
  exact (js_setComp hc hN hy hyl hsw hi ok hvs hg ht he hs).impD fun D σ H q => set_read q
/-- name = e, a fresh list, that is to be changed through references -/
def sSetW (i : Nat) (e : Ex) : Sd := fun env w => (e env w).bind fun r w1 => match r with
  | .fresh l => .ok (.nx (env.set i (.wref w1.length))) (w1 ++ [.lst l])
  | _ => .stuck
theorem paired_app1 {α β : Type} {R : α → β → Prop} {xs : List α} {ys : List β} {x : α} {y : β} (h : Paired R xs ys) (r : R x y) : Paired R (xs ++ [x]) (ys ++ [y]) := Pr.append h (.cons r .nil)
theorem js_setW {i : Nat} {x : Str} {pos' : Pos} (hN : X.N.Nodup) (hi : X.N[i]? = some x) (hx : Loc X.env.scope x) (h : JE X T Wi e d) (hs : swapsWith e (some (.Name x pos')) pos.line X.env = pure false := by rfl)
    (hf : X.fn x = true ∨ X.env.scope.names.lookup x = some .local := by first | exact .inl rfl | exact .inr rfl | assumption) : JS X T Wi (.Assign [.Name x pos'] e pos) (sSetW i d) := by
  refine (ps_set hN hi hx h hs hf).impD fun D σ H q => ?_
  obtain ⟨B, env, w, F, O, M, s, q⟩ := q
  refine ⟨B, env, w, F, O, M, s, q.bind.imp fun r w1 q1 v H1 F1 M1 s1 st1 r1 => ?_⟩
  cases r with
  | dat d => exact q1.elim
  | wref k => exact q1.elim
  | bor i l => exact q1.elim
  | fresh l =>
    obtain ⟨hz, p, vs, e1, e2, e3, e4, e5, e6, e7⟩ := fresh_out (r := .dat .non) s r1
    subst e1
    have hl : M1.length = w1.length := s1.wr.at_.length
    have s2 : SR (Cx.tx X T) B env (w1 ++ [.lst l]) σ H1 F1 O (M1 ++ [p]) := by
      refine ⟨s1.len, s1.fh, s1.nt, ⟨s1.st.fg, s1.st.fr, s1.st.th, s1.st.nf, ?_⟩, ⟨?_, paired_app1 s1.wr.at_ ⟨e3, hz, vs, e5, e6⟩⟩, s1.tb, fun j sl e => ?_, s1.inj⟩
      · obtain ⟨nw, em, hn⟩ := s1.st.mw
        refine ⟨nw ++ [p], by rw [em, List.append_assoc], fun m hm => ?_⟩
        rcases List.mem_append.mp hm with z | z
        · exact hn m z
        · rw [List.mem_singleton.mp z]; exact e2
      · rw [List.nodup_append]
        refine ⟨s1.wr.nd, by simp, fun a ha b hb => ?_⟩
        rw [List.mem_singleton.mp hb]
        exact fun z => e4 (z ▸ ha)
      · have h := s1.sl j sl e
        cases sl with
        | un => trivial
        | dat d => exact h
        | own k =>
          obtain ⟨f1, f2, f3, f4, f5⟩ := h
          refine ⟨f1, f2, f3, ?_, f5⟩
          rw [List.mem_append]
          rintro (z | z)
          · exact f4 z
          · exact e7 j k e (List.mem_singleton.mp z)
        | wref k => obtain ⟨m, f1, f2⟩ := h; exact ⟨m, mem_of_pfx rfl f1, f2⟩
    refine q1 _ H1 F1 O (M1 ++ [p]) (s2.setRef ?_) st1.fg
    rw [← hl, List.getElem?_append_right (Nat.le_refl _), Nat.sub_self]
    rfl
/-- (a, b) = e -/
def sAsg (g : Tgt) (e : Ex) : Sd := fun env w => (e env w).bind fun r w1 => match r.arg with
  | some (.dat d) => (match g d env with
    | some env' => .ok (.nx env') w1
    | none => .stuck)
  | _ => .stuck
theorem js_asg {tg : Expr} {g : Tgt} {us : List Nat} (hg : JG X T tg g us) (h : JE X T Wi e d) (hs : swapsWithSole [tg] e pos.line X.env = pure false := by rfl) (hw : swappedStores [tg] e X.env = pure none := by rfl)
    (h1 : (assignEach [tg] X.env).map (·.2) = [assign tg X.env] := by rfl) : JS X T Wi (.Assign [tg] e pos) (sAsg g d) := by
  refine (ps_asg h hg hs hw h1).impD fun D σ H q => ?_
  obtain ⟨B, env, w, F, O, M, s, q⟩ := q
  refine ⟨B, env, w, F, O, M, s, q.bind.imp fun r w1 q1 v H1 F1 M1 s1 st1 r1 => ?_⟩
  split at q1
  · rename_i dd ea
    split at q1
    · rename_i env' eg
      obtain ⟨F2, s2, st2, a2⟩ := keep_arg s s1 st1 r1 ea
      exact ⟨B, env, w1, F2, O, M1, dd, env', s2, a2, eg, fun σ' s' _ => q1 σ' H1 F2 O M1 s' st2.fg⟩
    · exact q1.elim
  · exact q1.elim
/-- name op= e, by the operation -/
def sAug (i : Nat) (g : D → D → Option RV) (e : Ex) : Sd := fun env w => match env[i]? with
  | some (.dat x) => (e env w).bind fun r w1 => (match r.val with
    | some y => (match g x y with
      | some (.dat z) => .ok (.nx (env.set i (.dat z))) w1
      | _ => .stuck)
    | none => .stuck)
  | _ => .stuck
theorem js_aug {i : Nat} {x : Str} {op : Operator} {g : D → D → Option RV} {pos' : Pos} (hN : X.N.Nodup) (hi : X.N[i]? = some x) (hx : Loc X.env.scope x) (hop : OpS X (inplaceOp op) g) (h : JE X T Wi e d)
    (hf : X.fn x = true ∨ X.env.scope.names.lookup x = some .local := by first | exact .inl rfl | exact .inr rfl | assumption) : JS X T Wi (.AugAssign (.Name x pos') op e pos) (sAug i g d) := by
  obtain ⟨r, ho, hr⟩ := hop
  refine (ps_aug (ti := r) hN hi hx h (fun pins s σ H x y v u Q I rx ry q => ho pins s σ H x y v u Q I rx ry q) hf).impD fun D σ H q => ?_
  obtain ⟨B, env, w, F, O, M, s, q⟩ := q
  unfold sAug at q
  split at q
  · rename_i dx ex
    obtain ⟨v, e1, e2⟩ := s.sl i _ ex
    refine ⟨v, e1, B, env, w, F, O, M, s, q.bind.imp fun rr w1 q1 y H1 F1 M1 s1 st1 r1 => ?_⟩
    split at q1
    · rename_i dy ey
      split at q1
      · rename_i dz ez
        refine hr v y dx dy _ H1 F1 s1.fh s1.nt (Rp.rv (e2.mono st1.fg) s1.fh) (RV.rv s1 r1 ey) ez _ fun z H2 F2 xt nw => ?_
        exact q1 _ H2 F2 O M1 ((s1.xt xt).setDat nw) (st1.fg.trans xt.ff)
      · exact q1.elim
    · exact q1.elim
  · exact q.elim
theorem is_add : OpS X (inplaceOp .Add) (fun d e => match d, e with
    | .int i, .int j => some (.dat (.int (i + j)))
    | _, _ => none) := by
  refine ⟨_, iop_add, fun x y d e rv H F fh nt rx ry h Q q => ?_⟩
  cases d <;> cases e <;> first | (simp only at h; cases h; done) | skip
  simp only [Option.some.injEq] at h; subst h
  cases rx; cases ry
  exact ⟨_, _, rfl, rfl, new_val fh nt q (.int _)⟩
theorem is_sub : OpS X (inplaceOp .Sub) gSub := by
  refine ⟨_, iop_sub, fun x y d e rv H F fh nt rx ry h Q q => ?_⟩
  cases d <;> cases e <;> first | (simp only [gSub] at h; cases h; done) | skip
  simp only [gSub, Option.some.injEq] at h; subst h
  cases rx; cases ry
  exact ⟨_, _, rfl, rfl, new_val fh nt q (.int _)⟩
/-! ### own lists changed -/
theorem SR.updOwn {X : Tx} {B : Base} {env : Ev} {w : World} {σ : St} {H F : Hp} {O : Nat → Addr} {M : List Addr} {i : Nat} {l l' : List D} {vs' : List V} (s : SR X B env w σ H F O M) (e : env[i]? = some (.own l)) (hz : l'.length ≤ sizeLine) (p : Paired (Rp X.K F) vs' l') :
    SR X B (env.set i (.own l')) w σ (upd H (O i) (.lst vs')) F O M := by
  obtain ⟨e1, e2, e3, e4, ez, vs, e5, e6⟩ := s.sl i _ e
  have hlt : i < env.length := (List.getElem?_eq_some_iff.mp e).1
  have ne : ∀ {a : Addr} {o : HO}, H a = some o → a ≠ O i → upd H (O i) (.lst vs') a = some o := fun h n => by rw [upd_ne n]; exact h
  refine ⟨by simpa using s.len, fun b o q => ?_, s.nt, ⟨s.st.fg, fun a o hM' ht q => ?_, fun a h => ?_, s.st.nf, s.st.mw⟩, ⟨s.wr.nd, ?_⟩, tab_updL s.tb e5, fun j sl e' => ?_, fun j k lj lk f1 f2 h => ?_⟩
  · exact ne (s.fh _ _ q) (fun z => by subst z; rw [e3] at q; cases q)
  · exact ne (s.st.fr a o hM' ht q) (fun z => by subst z; rw [e2] at q; cases q)
  · by_cases z : a = O i
    · subst z; rw [upd_same]; simp
    · rw [upd_ne z]; exact s.st.th a h
  · have go : ∀ {M : List Addr} {w : World}, O i ∉ M → Paired (fun m o => F m = none ∧ WO.isAt X F H m o) M w → Paired (fun m o => F m = none ∧ WO.isAt X F (upd H (O i) (.lst vs')) m o) M w := by
      intro M w hM h
      induction h with
      | nil => exact .nil
      | @cons m o _ _ h1 _ ih =>
        have nm : m ≠ O i := fun z => hM (by rw [← z]; exact List.mem_cons_self)
        refine .cons ⟨h1.1, ?_⟩ (ih fun z => hM (List.mem_cons_of_mem _ z))
        cases o with
        | lst l => obtain ⟨_, ez, us, f1, f2⟩ := h1; exact ⟨ez, us, ne f1 nm, f2⟩
        | clo i caps => exact CloAt.keep h1.2 (keepE_upd e5) (Same.refl _) (fun _ _ e => e)
    exact go e4 s.wr.at_
  · by_cases hj : i = j
    · subst hj
      rw [List.getElem?_set_self hlt] at e'
      cases e'
      exact ⟨e1, e2, e3, e4, hz, vs', upd_same, p⟩
    · rw [List.getElem?_set_ne hj] at e'
      have h := s.sl j sl e'
      cases sl with
      | un => trivial
      | dat d => exact h
      | own k =>
        obtain ⟨f1, f2, f3, f4, fz, us, f5, f6⟩ := h
        exact ⟨f1, f2, f3, f4, fz, us, ne f5 (fun z => hj (s.inj i j l k e e' z.symm)), f6⟩
      | wref k => exact h
  · have own' : ∀ {j : Nat} {lj : List D}, (env.set i (.own l'))[j]? = some (.own lj) → ∃ l0, env[j]? = some (.own l0) := by
      intro j lj f
      by_cases hj : i = j
      · subst hj; exact ⟨l, e⟩
      · rw [List.getElem?_set_ne hj] at f; exact ⟨lj, f⟩
    obtain ⟨a1, b1⟩ := own' f1
    obtain ⟨a2, b2⟩ := own' f2
    exact s.inj j k a1 a2 b1 b2 h
def sAppend (i : Nat) (e : Ex) : Sd := fun env w => match env[i]? with
  | some (.own l) => (e env w).bind fun r w1 => (match r.st with
    | some d => if l.length < 16777216 then .ok (.nx (env.set i (.own (l ++ [d])))) w1 else .stuck
    | none => .stuck)
  | _ => .stuck
theorem js_append {i : Nat} {x : Str} {p1 p2 p3 : Pos} (h0 : PE X (.Name x p1) (tVar i)) (h : JE X T Wi e d)
    (hs : swapsWith (.Call (.Attribute (.Name x p1) "append" p2) [e] [] p3) none pos.line X.env = pure false := by rfl)
    (hbase : attributeBase (.Name x p1) "append" X.env (eval (.Name x p1) X.env) = eval (.Name x p1) X.env := by rfl)
    (hfew : ((backTo p3 (starEach (e :: []) X.env)).all (fun x => !x.1) && (backToKw p3 (keywordEach [] X.env)).all (fun x => x.1.isSome)
      && decide ((e :: []).length + ([] : List Keyword).length + (if ([] : List Keyword).isEmpty then 0 else 1) < 30)) = true := by rfl)
    (hline : (p2.endLine == p3.line) = true := by rfl) (hst : starEach (e :: []) X.env = (false, eval e X.env) :: starEach [] X.env := by rfl) (hplain : (backTo p3 (starEach [] X.env)).any (·.1) = false := by rfl) :
    JS X T Wi (.Expr (.Call (.Attribute (.Name x p1) "append" p2) [e] [] p3) pos) (sAppend i d) := by
  refine (ps_expr (pe_bm PySem.F.plainAttrs_list PySem.F.slot_list_append PySem.F.type_list_append mt_append h0 (pa_cons h pa_nil hst) hbase hfew hline hst hplain) hs).impD fun D σ H q => ?_
  obtain ⟨B, env, w, F, O, M, s, q⟩ := q
  unfold sAppend at q
  split at q
  · rename_i l el
    obtain ⟨e1, e2, e3, e4, ez, vs, e5, e6⟩ := s.sl i _ el
    refine ⟨.ref (O i), e1, .inl ⟨rfl, vs, SqL.of e5⟩, B, env, w, F, O, M, s, q.bind.imp fun r w1 q1 v H1 F1 M1 s1 st1 r1 => ?_⟩
    split at q1
    · rename_i dd er
      split at q1
      · rename_i hz
        obtain ⟨F2, s2, st2, a2⟩ := keep_arg s s1 st1 r1 (st_arg er)
        obtain ⟨g1, g2, g3, g4, gz, ws, g5, g6⟩ := s2.sl i _ el
        have hwl : ws.length = l.length := g6.length
        refine ⟨O i, ws, v, rfl, rfl, g5, by rw [hwl, sizeLine_eq]; exact hz, ?_⟩
        exact q1 σ _ F2 O M1 (s2.updOwn el (by rw [List.length_append, List.length_singleton, sizeLine_eq]; omega) (Pr.append g6 (.cons a2 .nil))) st2.fg
      · exact q1.elim
    · exact q1.elim
  · exact q.elim
end
end Dl
/-! DlI: extend, stores by place, the world's lists, loops. -/
namespace Dl
open PySem PySem.Spec PyProof.Rows L2 NdefX
section
variable {X : Cx}
/-- extend by any list that can be read -/
def rExtA (K : PySem.W.Frag) : V → List V → Hp → VK → Prop := fun x vs H Q => ∃ l b xs zs, x = .ref l ∧ vs = [.ref b] ∧ H l = some (.lst xs) ∧ (SqL K H b zs ∨ SqT K H b zs) ∧ l ≠ b ∧ xs.length + zs.length ≤ sizeLine ∧ Q .non (upd H l (.lst (xs ++ zs)))
end
section
variable {X : Cx} {T : Tbs} {Wi : WX} {pos : Pos} {st : Stmt} {sts : List Stmt} {a b : Sd} {e : Expr} {d : Ex}
/-! ### stores by place: an own list, or one of the world's -/
def sSetIx (i : Nat) (ix e : Ex) : Sd := fun env w => (e env w).bind fun r w1 => match env[i]?, r.st with
  | some (.own l), some d => (ix env w1).bind fun k w2 => (match k with
    | .dat (.int z) => (match ixN l.length z with
      | some j => .ok (.nx (env.set i (.own (l.set j d)))) w2
      | none => .stuck)
    | _ => .stuck)
  | some (.wref m), some d => (ix env w1).bind fun k w2 => (match k, w2[m]? with
    | .dat (.int z), some (.lst l) => (match ixN l.length z with
      | some j => .ok (.nx env) (w2.set m (.lst (l.set j d)))
      | none => .stuck)
    | _, _ => .stuck)
  | _, _ => .stuck
theorem WRel.get {X : Tx} {F H : Hp} {M : List Addr} {w : World} (wr : WRel X F H M w) {k : Nat} {o : WO} (h : w[k]? = some o) : ∃ m, M[k]? = some m ∧ F m = none ∧ WO.isAt X F H m o := Pr.get wr.at_ h
/-- a list of the world is written -/
theorem SR.updW {X : Tx} {B : Base} {env : Ev} {w : World} {σ : St} {H F : Hp} {O : Nat → Addr} {M : List Addr} {k : Nat} {m : Addr} {l l' : List D} {vs' : List V} (s : SR X B env w σ H F O M) (e : w[k]? = some (.lst l)) (em : M[k]? = some m) (hz : l'.length ≤ sizeLine) (p : Paired (Rp X.K F) vs' l') :
    SR X B env (w.set k (.lst l')) σ (upd H m (.lst vs')) F O M := by
  obtain ⟨m', em', hF, ez, vs, e5, e6⟩ := s.wr.get e
  rw [em] at em'; cases em'
  have hmM : m ∈ M := List.mem_of_getElem? em
  have ne : ∀ {a : Addr} {o : HO}, H a = some o → a ≠ m → upd H m (.lst vs') a = some o := fun h n => by rw [upd_ne n]; exact h
  -- the frame: what stood at the entry and is no world's list
  have hBm : m ∈ B.M ∨ B.H m = none := by
    obtain ⟨nw, en, hn⟩ := s.st.mw
    rw [en] at hmM
    rcases List.mem_append.mp hmM with z | z
    · exact .inl z
    · exact .inr (hn m z)
  refine ⟨s.len, fun b o q => ?_, s.nt, ⟨s.st.fg, fun a o hM' ht q => ?_, fun a h => ?_, s.st.nf, s.st.mw⟩, ⟨s.wr.nd, ?_⟩, tab_updL s.tb e5, fun j sl e' => ?_, s.inj⟩
  · exact ne (s.fh _ _ q) (fun z => by subst z; rw [hF] at q; cases q)
  · refine ne (s.st.fr a o hM' ht q) (fun z => ?_)
    subst z
    rcases hBm with z | z
    · obtain ⟨φ, rfl⟩ := hM' z
      have q2 := s.st.fr _ _ hM' ht q
      rw [e5] at q2
      cases q2
    · rw [z] at q; cases q
  · by_cases z : a = m
    · subst z; rw [upd_same]; simp
    · rw [upd_ne z]; exact s.st.th a h
  · have go : ∀ {M : List Addr} {w : World} {k : Nat}, M.Nodup → M[k]? = some m → Paired (fun m o => F m = none ∧ WO.isAt X F H m o) M w → Paired (fun a o => F a = none ∧ WO.isAt X F (upd H m (.lst vs')) a o) M (w.set k (.lst l')) := by
      intro M w k nd hk h
      induction h generalizing k with
      | nil => cases hk
      | @cons a o M' w' h1 ht ih =>
        obtain ⟨nda, nd'⟩ := List.nodup_cons.mp nd
        cases k with
        | zero =>
          simp only [List.getElem?_cons_zero, Option.some.injEq] at hk
          subst hk
          refine .cons ⟨hF, hz, vs', upd_same, p⟩ ?_
          have rest : ∀ {M' : List Addr} {w' : World}, a ∉ M' → Paired (fun m o => F m = none ∧ WO.isAt X F H m o) M' w' → Paired (fun b o => F b = none ∧ WO.isAt X F (upd H a (.lst vs')) b o) M' w' := by
            intro M' w' hn h
            induction h with
            | nil => exact .nil
            | @cons b o _ _ h1 _ ih =>
              refine .cons ⟨h1.1, ?_⟩ (ih fun z => hn (List.mem_cons_of_mem _ z))
              cases o with
              | lst l => obtain ⟨_, ez, us, f1, f2⟩ := h1; exact ⟨ez, us, ne f1 (fun z => hn (by rw [← z]; exact List.mem_cons_self)), f2⟩
              | clo i caps => exact CloAt.keep h1.2 (keepE_upd e5) (Same.refl _) (fun _ _ e => e)
          exact rest nda ht
        | succ k =>
          simp only [List.getElem?_cons_succ] at hk
          refine .cons ⟨h1.1, ?_⟩ (ih nd' hk)
          cases o with
          | lst l => obtain ⟨_, ez, us, f1, f2⟩ := h1; exact ⟨ez, us, ne f1 (fun z => nda (by rw [z]; exact List.mem_of_getElem? hk)), f2⟩
          | clo i caps => exact CloAt.keep h1.2 (keepE_upd e5) (Same.refl _) (fun _ _ e => e)
    exact go s.wr.nd em s.wr.at_
  · have h := s.sl j sl e'
    cases sl with
    | un => trivial
    | dat d => exact h
    | own k =>
      obtain ⟨f1, f2, f3, f4, fz, us, f5, f6⟩ := h
      exact ⟨f1, f2, f3, f4, fz, us, ne f5 (fun z => f4 (z ▸ hmM)), f6⟩
    | wref k => exact h
theorem js_setIx {i : Nat} {x : Str} {p1 p2 : Pos} {ei : Expr} {di : Ex} (h0 : PE X (.Name x p1) (tVar i)) (hi : JE X T Wi ei di) (h : JE X T Wi e d)
    (ha : ∀ v, assign (.Subscript (.Name x p1) ei p2) X.env v = (do
      let ov ← holding [v] (eval (.Name x p1) X.env)
      let iv ← holding [v, ov] (eval ei X.env)
      standAt p2
      holding [v, ov, iv] (setItem ov iv v)
      release [v, ov, iv] []) := by intro _; rfl)
    (hs : swapsWithSole [.Subscript (.Name x p1) ei p2] e pos.line X.env = pure false := by rfl) (hw : swappedStores [.Subscript (.Name x p1) ei p2] e X.env = pure none := by rfl)
    (h1 : (assignEach [.Subscript (.Name x p1) ei p2] X.env).map (·.2) = [assign (.Subscript (.Name x p1) ei p2) X.env] := by rfl) : JS X T Wi (.Assign [.Subscript (.Name x p1) ei p2] e pos) (sSetIx i di d) := by
  refine (ps_asg h (pg_sub h0 hi set_list ha) hs hw h1).impD fun D σ H q => ?_
  obtain ⟨B, env, w, F, O, M, s, q⟩ := q
  refine ⟨B, env, w, F, O, M, s, q.bind.imp fun r w1 q1 v H1 F1 M1 s1 st1 r1 => ?_⟩
  split at q1
  · rename_i l dd el er
    obtain ⟨F2, s2, st2, a2⟩ := keep_arg s s1 st1 r1 (st_arg er)
    obtain ⟨e1, e2, e3, e4, ez, vs, e5, e6⟩ := s2.sl i _ el
    refine ⟨.ref (O i), e1, B, env, w1, F2, O, M1, s2, q1.bind.imp fun k w2 q2 y H3 F3 M3 s3 st3 r3 => ?_⟩
    split at q2
    · rename_i z
      cases r3
      split at q2
      · rename_i j ej
        obtain ⟨g1, g2, g3, g4, gz, ws, g5, g6⟩ := s3.sl i _ el
        refine ⟨O i, ws, z, j, rfl, rfl, g5, by rw [g6.length]; exact ej, ?_⟩
        exact q2 σ _ F3 O M3 (s3.updOwn el (by rw [List.length_set]; exact gz) (Pr.set (Rp.mono st3.fg _ _ a2) j g6)) (st2.fg.trans st3.fg)
      · exact q2.elim
    · exact q2.elim
  · rename_i m dd em er
    obtain ⟨F2, s2, st2, a2⟩ := keep_arg s s1 st1 r1 (st_arg er)
    obtain ⟨am, e1, e2⟩ := s2.sl i _ em
    refine ⟨.ref am, e2, B, env, w1, F2, O, M1, s2, q1.bind.imp fun k w2 q2 y H3 F3 M3 s3 st3 r3 => ?_⟩
    split at q2
    · rename_i z l el
      cases r3
      split at q2
      · rename_i j ej
        obtain ⟨am3, f1, f2⟩ := s3.sl i _ em
        obtain ⟨am', f3, f4, fz, ws, f5, f6⟩ := s3.wr.get el
        rw [f1] at f3; cases f3
        obtain ⟨nw, en, _⟩ := id st3.mw
        have : am3 = am := by
          have := mem_of_pfx en e1
          rw [f1] at this
          exact Option.some.inj this
        subst this
        refine ⟨am3, ws, z, j, rfl, rfl, f5, by rw [f6.length]; exact ej, ?_⟩
        exact q2 σ _ F3 O M3 (s3.updW el f1 (by rw [List.length_set]; exact fz) (Pr.set (Rp.mono st3.fg _ _ a2) j f6)) (st2.fg.trans st3.fg)
      · exact q2.elim
    · exact q2.elim
  · exact q1.elim
/-- an item of one of the world's lists -/
def dIxW (i : Nat) (ix : Ex) : Ex := fun env w => match env[i]? with
  | some (.wref m) => (ix env w).bind fun k w1 => (match k, w1[m]? with
    | .dat (.int z), some (.lst l) => lift ((atI l z).map .dat) w1
    | _, _ => .stuck)
  | _ => .stuck
theorem je_ixW {i : Nat} {x : Str} {p1 : Pos} {ei : Expr} {di : Ex} (h0 : PE X (.Name x p1) (tVar i)) (hi : JE X T Wi ei di) (hs : PlainIx ei := by exact fun _ _ => rfl) : JE X T Wi (.Subscript (.Name x p1) ei pos) (dIxW i di) := by
  refine (pe_ix ix_list h0 hi hs).impD fun σ H Q q => ?_
  obtain ⟨B, env, w, F, O, M, s, q⟩ := q
  unfold dIxW at q
  split at q
  · rename_i m em
    obtain ⟨am, e1, e2⟩ := s.sl i _ em
    refine ⟨.ref am, e2, B, env, w, F, O, M, s, q.bind.imp fun k w1 q1 y H1 F1 M1 s1 st1 r1 => ?_⟩
    split at q1
    · rename_i z l el
      cases r1
      obtain ⟨rv, e, q3⟩ := q1.lift
      cases ea : atI l z with
      | none => rw [ea] at e; cases e
      | some dd =>
        rw [ea] at e
        cases e
        obtain ⟨am1, f1, f2⟩ := s1.sl i _ em
        obtain ⟨am', f3, f4, fz, ws, f5, f6⟩ := s1.wr.get el
        rw [f1] at f3; cases f3
        obtain ⟨nw, en, _⟩ := id st1.mw
        have : am1 = am := by
          have := mem_of_pfx en e1
          rw [f1] at this
          exact Option.some.inj this
        subst this
        obtain ⟨v, ev, rv⟩ := atI_pair f6 ea
        exact ⟨am1, ws, z, v, rfl, rfl, SqL.of f5, ev, q3 v H1 F1 M1 s1 st1 rv⟩
    · exact q1.elim
  · exact q.elim
/-! ### for -/
def forGo (g : Tgt) (body : Sd) : List D → Sd
  | [], env, w => .ok (.nx env) w
  | d :: ds, env, w => match g d env with
    | some env1 => (body env1 w).bind fun f w1 => (match f with
      | .nx e => forGo g body ds e w1
      | .ct e => forGo g body ds e w1
      | .bk e => .ok (.nx e) w1
      | .rt r => .ok (.rt r) w1)
    | none => .stuck
def sFor (src : Src) (g : Tgt) (body : Sd) : Sd := fun env w => (src env w).bind fun l w1 => forGo g body l env w1
theorem js_for {tg iter : Expr} {body : List Stmt} {src : Src} {g : Tgt} {us : List Nat} (hp : PassesOwn (model X.prog X.w) X.A X.env X.xe) (hc : X.calm = true) (hi : JI X T Wi tg iter src) (hg : JG X T tg g us) (hb : JSs X T Wi body b)
    (hs : ∀ x, foldedSetIterable iter X.env x = pure x := by intro _; rfl) : JS X T Wi (.For tg iter body [] pos) (sFor src g b) := by
  refine (ps_for hp hc hi hg hb hs).impD fun D σ H q => ?_
  obtain ⟨B, env, w, F, O, M, s, q⟩ := q
  refine ⟨B, env, w, F, O, M, s, q.bind.imp fun l w1 q1 J H1 F1 M1 s1 st1 wk => ?_⟩
  refine ⟨fun i m σ H => m = l.length - i ∧ i ≤ l.length ∧ ∃ env w F O M, SR (Cx.tx X T) B env w σ H F O M ∧ Same F1 F ∧ Pst (forGo g b (l.drop i) env w) (flG (Cx.tx X T) B F D) (badX (Cx.tx X T) B Wi), ⟨l.length, by simp, Nat.zero_le _, env, w1, F1, O, M1, s1, Same.refl _, by rw [List.drop_zero]; exact q1.imp fun f w z => z.later st1.fg⟩, ?_⟩
  rintro i m σ' H' ⟨rfl, hi, env', w', F', O', M', s', sf, qq⟩
  by_cases hlt : i < l.length
  · rw [List.drop_eq_getElem_cons hlt] at qq
    refine .inr ⟨wk.go i H' F' sf s'.fh hlt, fun σ H => i + 1 ≤ l.length ∧ ∃ env w F O M, SR (Cx.tx X T) B env w σ H F O M ∧ Same F1 F ∧ Pst (forGo g b (l.drop (i + 1)) env w) (flG (Cx.tx X T) B F D) (badX (Cx.tx X T) B Wi), fun σ H ⟨z1, z2⟩ => ⟨l.length - (i + 1), by omega, rfl, z1, z2⟩, fun x H2 hy => ?_⟩
    obtain ⟨F2, xt2, rx⟩ := wk.yld i H' F' x H2 l[i] sf s'.fh s'.nt hy (List.getElem?_eq_getElem hlt)
    have s2 := s'.xt xt2
    unfold forGo at qq
    split at qq
    · rename_i env1 eg
      refine ⟨B, env', w', F2, O', M', l[i], env1, s2, rx, eg, fun σ3 s3 _ => ?_⟩
      refine ⟨B, env1, w', F2, O', M', s3, qq.bind.imp fun f w4 q4 => ?_⟩
      cases f with
      | nx e => exact fun σ5 H5 F5 O5 M5 s5 k => ⟨hlt, e, w4, F5, O5, M5, s5, (sf.trans xt2.ff).trans k, q4.imp fun f w z => z.later (xt2.ff.trans k)⟩
      | ct e => exact fun σ5 H5 F5 O5 M5 s5 k => ⟨hlt, e, w4, F5, O5, M5, s5, (sf.trans xt2.ff).trans k, q4.imp fun f w z => z.later (xt2.ff.trans k)⟩
      | bk e => exact fun σ5 H5 F5 O5 M5 s5 k => q4 σ5 H5 F5 O5 M5 s5 (xt2.ff.trans k)
      | rt r => exact q4
    · exact qq.elim
  · have hil : i = l.length := by omega
    subst hil
    rw [List.drop_length] at qq
    exact .inl ⟨wk.stop _ H' F' sf s'.fh (Nat.le_refl _), qq σ' H' F' O' M' s' (Same.refl _)⟩
end
end Dl
/-! DlJ: defs, levels, the law. -/
namespace Dl
open PySem PySem.Spec PyProof.Rows L2 NdefX
structure DefB where
  ar : Nat
  ns : Nat
  body : Cs → Sd
def toSl : RV → Sl
  | .dat d => .dat d
  | .wref k => .wref k
  | _ => .un
def initE (args : List RV) (ns : Nat) : Ev := args.map toSl ++ List.replicate (ns - args.length) .un
def endR (o : Out Fl) : Out RV := match o with
  | .ok (.rt r) w => .ok r w
  | .ok (.nx _) w => .ok (.dat .non) w
  | .ok _ _ => .stuck
  | .exc x e w => .exc x e w
  | .stuck => .stuck
@[simp] theorem endR_rt (r : RV) (w : World) : endR (.ok (.rt r) w) = .ok r w := rfl
@[simp] theorem endR_nx (e : Ev) (w : World) : endR (.ok (.nx e) w) = .ok (.dat .non) w := rfl
def runB (b : DefB) (C : Cs) (args : List RV) (w : World) : Out RV := if args.length = b.ar then endR (b.body C (initE args b.ns) w) else .stuck
def Den (tbl : Nat → Option DefB) : Nat → Cs
  | 0 => ⟨fun _ _ _ => .stuck, 200⟩
  | n + 1 => ⟨fun i args w => match tbl i with
    | some b => runB b (Den tbl n) args w
    | none => .stuck, 16 * (n + 1) + 200⟩
theorem den_room (tbl : Nat → Option DefB) (n : Nat) : (Den tbl n).room = 16 * n + 200 := by cases n <;> rfl
theorem den_succ {tbl : Nat → Option DefB} {n i : Nat} {b : DefB} {args : List RV} {w : World} (h : tbl i = some b) : (Den tbl (n + 1)).call i args w = runB b (Den tbl n) args w := by
  show (match tbl i with
    | some b => runB b (Den tbl n) args w
    | none => .stuck) = _
  rw [h]
theorem initE_len {args : List RV} {ns : Nat} (h : args.length ≤ ns) : (initE args ns).length = ns := by
  unfold initE
  rw [List.length_append, List.length_map, List.length_replicate]
  omega
theorem start_len {N : List Str} {vs : List V} (h : vs.length ≤ N.length) : (L2.start N vs).length = N.length := by
  unfold L2.start
  rw [List.length_append, List.length_map, List.length_replicate]
  omega
/-- the state at a def's entry -/
theorem sr_start {X : Tx} {H F : Hp} {M : List Addr} {w : World} {vs : List V} {args : List RV} {N : List Str} (fh : Same F H) (nt : NoTbl F) (wr : WRel X F H M w) (tb : TabsN X.T.tabs H) (p : Paired (argAt X F M) vs args) (hl : args.length ≤ N.length) :
    SR X ⟨H, F, M⟩ (initE args N.length) w (L2.start N vs) H F (fun _ => 0) M := by
  have hv := p.length
  refine ⟨by rw [start_len (by omega), initE_len hl], fh, nt, .refl, wr, tb, fun i sl e => ?_, fun i j li lj e1 e2 _ => ?_⟩
  · by_cases hi : i < args.length
    · unfold initE at e
      rw [List.getElem?_append_left (by simpa using hi), List.getElem?_map] at e
      cases ea : args[i]? with
      | none => rw [ea] at e; cases e
      | some a =>
        rw [ea] at e
        simp only [Option.map_some, Option.some.injEq] at e; subst e
        obtain ⟨v, ev, av⟩ := Pr.get p ea
        have es : (L2.start N vs)[i]? = some (some v) := by
          unfold L2.start
          rw [List.getElem?_append_left (by simpa [hv] using hi), List.getElem?_map, ev]
          rfl
        rw [es]
        cases a with
        | dat d => exact ⟨v, rfl, av⟩
        | wref k => obtain ⟨m, e1, e2⟩ := av; subst e2; exact ⟨m, e1, rfl⟩
        | fresh l => exact av.elim
        | bor i l => exact av.elim
    · unfold initE at e
      rw [List.getElem?_append_right (by simpa using hi)] at e
      have := List.mem_of_getElem? e
      rw [List.mem_replicate] at this
      rw [this.2]
      trivial
  · exfalso
    have noOwn : ∀ {i : Nat} {l : List D}, (initE args N.length)[i]? = some (.own l) → False := by
      intro i l e
      have m := List.mem_of_getElem? e
      unfold initE at m
      rcases List.mem_append.mp m with m | m
      · obtain ⟨a, _, ea⟩ := List.mem_map.mp m
        cases a <;> cases ea
      · rw [List.mem_replicate] at m
        cases m.2
    exact noOwn e1
/-- a def, by its body's denotation -/
theorem def_ok {P : Program} {w : PySem.World} {K : PySem.W.Frag} {mg : Str → Option Value} {base : Heap} {T : Tbs} {x qual : Str} {params : Arguments} {body : List Stmt} {scope : Scope} {f : Addr} {fd : FuncData} {N ps : List Str} {tbl : Nat → Option DefB} {n i : Nat} {bd : Cs → Sd}
    (F : FunD K x qual params body scope [] [] f fd) (S : FnScope N ps scope) (ht : tbl i = some ⟨ps.length, N.length, bd⟩)
    (hb : ∀ (cdv : Value) (A : Around) (outer : List Env) (s : Shared) (H : Hp) (E : XK), Room n (A.deeper (envOfC qual scope s.heap.objs.size f cdv)) →
      JSs (cxOf (L2.CX P w) P w K mg base N qual scope f cdv A outer s H E) T (fun cls d _ H => E cls d H) body (bd (Den tbl n))) :
    FnOk P w K mg base (L2.CX P w) (n + 1) f fd ps (spD ⟨K, mg, T⟩ ((Den tbl (n + 1)).call i)) := by
  have hNl : ps.length ≤ N.length := by
    have := congrArg List.length S.pre
    rw [List.length_take] at this
    omega
  have hlen : ∀ vs H Q E, spD ⟨K, mg, T⟩ ((Den tbl (n + 1)).call i) vs H Q E → vs.length = ps.length := by
    intro vs H Q E h
    obtain ⟨F', M, args, w', fh, nt, wr, tb, p, q⟩ := h
    rw [den_succ ht] at q
    unfold runB at q
    split at q
    · rename_i hl; rw [p.length]; exact hl
    · exact q.elim
  refine F.ok S hlen fun cdv A outer s H vs Q E hr h => ⟨_, hb cdv A outer s H E hr, ?_⟩
  obtain ⟨F', M, args, w', fh, nt, wr, tb, p, q⟩ := h
  rw [den_succ ht] at q
  unfold runB at q
  split at q
  · rename_i hl
    have hl : args.length = ps.length := hl
    refine ⟨⟨H, F', M⟩, _, w', F', _, M, sr_start fh nt wr tb p (by omega), ?_⟩
    have q : Pst (endR (bd (Den tbl n) (initE args N.length) w')) _ _ := q
    cases eo : bd (Den tbl n) (initE args N.length) w' with
    | stuck => rw [eo] at q; exact q.elim
    | exc x' e' w2 =>
      rw [eo] at q
      intro cls d σ' H' F2 O2 M2 s2 hx
      exact q cls d H' F2 M2 s2.fh s2.nt s2.wr s2.tb s2.st hx
    | ok fl w2 =>
      rw [eo] at q
      cases fl with
      | rt r =>
        intro v H' F2 M2 ra
        exact q v H' F2 M2 ra.fh ra.nt ra.wr ra.tb ra.st ra.at_
      | nx e =>
        intro σ' H' F2 O2 M2 s2 _
        exact q .non H' F2 M2 s2.fh s2.nt s2.wr s2.tb s2.st .non
      | bk e => exact q.elim
      | ct e => exact q.elim
  · exact q.elim
/-- at level 0 nothing is promised -/
theorem def_zero {P : Program} {w : PySem.World} {K : PySem.W.Frag} {mg : Str → Option Value} {base : Heap} {T : Tbs} {f : Addr} {fd : FuncData} {ps : List Str} {tbl : Nat → Option DefB} {i : Nat} {CX : CXT} : FnOk P w K mg base CX 0 f fd ps (spD ⟨K, mg, T⟩ ((Den tbl 0).call i)) := by
  have no : ∀ vs H Q E, ¬ spD ⟨K, mg, T⟩ ((Den tbl 0).call i) vs H Q E := fun vs H Q E h => by
    obtain ⟨_, _, _, _, _, _, _, _, _, q⟩ := h
    exact q
  exact ⟨fun vs H Q E h => absurd h (no vs H Q E), fun A outer s H args us vs Q E _ _ _ _ h => absurd h (no vs H Q E)⟩
/-- a def that stands behind the top: its name, its place in the table, what it computes at each level -/
structure Dfn (P : Program) (w : PySem.World) (K : PySem.W.Frag) (mg : Str → Option Value) (base : Heap) (T : Tbs) (C : Cs) (n : Nat) (x : Str) (i : Nat) : Prop where
  ex : ∃ (a : Addr) (fd : FuncData) (ps : List Str), mg x = some (.ref a) ∧ PySem.W.keepIn K (.ref a) = true ∧ Binds K fd ps [] ∧ FnOk P w K mg base (L2.CX P w) n a fd ps (spD ⟨K, mg, T⟩ (C.call i))
theorem Dfn.cal {X : Cx} {T : Tbs} {C : Cs} {n : Nat} {x : Str} {i : Nat} (d : Dfn X.prog X.w X.K X.mg X.base T C n x i) : Cal X T n C x i := ⟨d.ex⟩
/-- the law's promise from what it computes -/
theorem ints_rp {K : PySem.W.Frag} {F : Hp} : ∀ ns : List Int, Paired (Rp K F) (ns.map V.int) (ns.map D.int)
  | [] => .nil
  | n :: ns => .cons (.int n) (ints_rp ns)
def offTbl (H : Hp) : Hp := fun b => match H b with
  | some (.tbl _) => none
  | o => o
theorem offTbl_same (H : Hp) : Same (offTbl H) H := fun b o e => by
  unfold offTbl at e
  split at e
  · cases e
  · exact e
theorem offTbl_no (H : Hp) : NoTbl (offTbl H) := fun b ps e => by
  unfold offTbl at e
  split at e
  · cases e
  · rename_i h; exact h _ e
theorem offTbl_at {H : Hp} {b : Addr} {o : HO} (e : H b = some o) (h : ∀ ps, o ≠ .tbl ps) : offTbl H b = some o := by
  unfold offTbl
  rw [e]
  split
  · rename_i q; exact absurd (Option.some.inj q) (h _)
  · rfl
theorem law_spT {K : PySem.W.Frag} {mg : Str → Option Value} {T : Tbs} {m : List RV → World → Out RV} {H : Hp} {a : Addr} {ns : List Int} (hT : TabsN T.tabs H) (hS : SqL K H a (ns.map V.int)) (hl : ns.length ≤ sizeLine) {w' : World} (h : m [.dat (.lst (ns.map D.int))] [] = .ok (.dat (.bl true)) w') :
    spD ⟨K, mg, T⟩ m [.ref a] H (fun v _ => v = .bl true) (fun _ _ _ => False) := by
  have hS' : SqL K (offTbl H) a (ns.map V.int) := by
    rcases hS with (e | ⟨o, e⟩) | q
    · exact .inl (.inl (offTbl_at e fun ps z => by cases z))
    · exact .inl (.inr ⟨o, offTbl_at e fun ps z => by cases z⟩)
    · exact .inr q
  refine ⟨offTbl H, [], [.dat (.lst (ns.map D.int))], [], offTbl_same H, offTbl_no H, ⟨List.nodup_nil, .nil⟩, hT, .cons (.lst (by rw [List.length_map]; exact hl) hS' (ints_rp ns)) .nil, ?_⟩
  rw [h]
  intro v H' F' M' _ _ _ _ _ r
  cases r
  rfl
/-- without tables -/
theorem law_sp {K : PySem.W.Frag} {mg : Str → Option Value} {nd : Nat → Option ND} {m : List RV → World → Out RV} {H : Hp} {a : Addr} {ns : List Int} (hO : Only H) (hS : SqL K H a (ns.map V.int)) (hl : ns.length ≤ sizeLine) {w' : World} (h : m [.dat (.lst (ns.map D.int))] [] = .ok (.dat (.bl true)) w') :
    spD ⟨K, mg, ⟨[], nd⟩⟩ m [.ref a] H (fun v _ => v = .bl true) (fun _ _ _ => False) :=
  law_spT (show TabsN [] H from fun p hp => absurd hp List.not_mem_nil) hS hl h
end Dl
/-! DlK: constants of the module, tables by text keys. -/
namespace Dl
open PySem PySem.Spec PyProof.Rows L2 NdefX
section
variable {X : Cx} {T : Tbs} {Wi : WX} {a : Expr} {da : Ex} {pos : Pos}
theorem pe_globI {x : Str} {i : Int} (hg : Gl X x) (hm : ∃ t, X.mg x = some (.int i t)) (hd : (x == ("__debug__" : Str)) = false := by decide) : PE X (.Name x pos) (tC (.int i)) := by
  obtain ⟨t, e⟩ := hm
  exact pe_glob hg e ⟨t, rfl⟩ hd
theorem pe_globS {x : Str} {i : Str} (hg : Gl X x) (hm : ∃ t, X.mg x = some (.str i t)) (hd : (x == ("__debug__" : Str)) = false := by decide) : PE X (.Name x pos) (tC (.str i)) := by
  obtain ⟨t, e⟩ := hm
  exact pe_glob hg e ⟨t, rfl⟩ hd
/-- a table of the top -/
def sV : D → V
  | .int i => .int i
  | .str s => .str s
  | .bl b => .bl b
  | _ => .non
structure TabAt (K : PySem.W.Frag) (w : PySem.World) (mg : Str → Option Value) (x : Str) (t : List (Str × D)) : Prop where
  ex : ∃ a es n, mg x = some (.ref a) ∧ KDict K w a es n ∧ (∀ q ∈ t, ∃ u, PySem.W.nsIn K a q.1 = some (some u) ∧ RelV (sV q.2) u)
def gGetK (t : List (Str × D)) : D → Option RV
  | .str z => (match t.lookup z with
    | some (.int i) => some (.dat (.int i))
    | some (.bl i) => some (.dat (.bl i))
    | _ => none)
  | _ => none
theorem lookup_mem {t : List (Str × D)} {z : Str} {d : D} (h : t.lookup z = some d) : (z, d) ∈ t := by
  induction t with
  | nil => cases h
  | cons p t ih =>
    obtain ⟨k, v⟩ := p
    rw [List.lookup_cons] at h
    split at h
    · rename_i e
      cases h
      rw [eq_of_beq e]
      exact .head _
    · exact .tail _ (ih h)
theorem je_getK {x : Str} {t : List (Str × D)} {p0 apos : Pos} (D : TabAt X.K X.w X.mg x t) (hg : Gl X x) (ha : JE X T Wi a da) (m : M1 X (.Name x p0) "get" apos a pos := by exact ⟨rfl, rfl, rfl, rfl⟩) (hd : (x == ("__debug__" : Str)) = false := by decide) :
    JE X T Wi (.Call (.Attribute (.Name x p0) "get" apos) [a] [] pos) (dUn (gGetK t) da) := by
  obtain ⟨l, es, n, hx, kd, hv⟩ := D.ex
  refine ⟨fun pins s σ H Q I q => ?_⟩
  have q := un_read (r := fun x H1 Q => ∃ z v u, x = .str z ∧ PySem.W.nsIn X.K l z = some (some u) ∧ RelV v u ∧ Q v H1) (fun x d rv H F fh nt rx h Q q => ?_) q
  · refine wpAny_Call_method m.base m.few m.line PySem.F.plainAttrs_dict PySem.F.slot_dict_get PySem.F.type_dict_get (thn ((pe_glob (v := .ref l) hg hx rfl hd).run pins s σ H (fun v H' => v = .ref l ∧ H' = H) I ⟨rfl, rfl⟩) fun u s1 ⟨x, H1, I1, rx, ex, eh⟩ => ?_)
    subst ex eh
    obtain rfl : u = Value.ref l := rx
    have mo := PySem.W.mapOf_K (prog := X.prog) (w := X.w) I1.kIn kd.at_ kd.lit
    refine ⟨mo.typeIs, fun b e => ?_, ?_⟩
    · cases e
      exact ⟨_, I1.kIn _ _ kd.at_, rfl⟩
    rw [m.trees]
    refine Calls.callWith_builtin rfl (Calls.evalArgs_plain (Calls.spliced_cons (thn (ha.run pins s1 σ H1 _ I1 q) fun iv s2 ⟨y, H2, I2, ry, z, v, u, ez, en, rv, q2⟩ => Calls.spliced_nil ?_)))
    subst ez
    obtain ⟨t, rfl⟩ := (show ∃ t, iv = Value.str z t from ry)
    have mo2 := PySem.W.mapOf_K (prog := X.prog) (w := X.w) I2.kIn kd.at_ kd.lit
    refine call_meetsIn PySem.F.slot_dict_get mo2.typeIs PySem.F.entry_dict_get (PySem.F.args_dict_get_2 _ _) (meets_dict_get (PySem.strKind X.prog X.w) l (PySem.strKind_is X.prog X.w z t) kd.low) ⟨_, mo2, ?_⟩
    rw [PySem.W.find_K kd.at_ en]
    exact ⟨v, H2, I2.tok _, rv, q2⟩
  · cases d <;> first | (simp only [gGetK] at h; cases h; done) | skip
    rename_i z
    cases rx
    simp only [gGetK] at h
    split at h
    · rename_i i e
      cases h
      obtain ⟨u, e1, e2⟩ := hv _ (lookup_mem e)
      exact ⟨z, .int i, u, rfl, e1, e2, new_val fh nt q (.int i)⟩
    · rename_i i e
      cases h
      obtain ⟨u, e1, e2⟩ := hv _ (lookup_mem e)
      exact ⟨z, .bl i, u, rfl, e1, e2, new_val fh nt q (.bl i)⟩
    · cases h
end
end Dl
/-! DlM: closures handed to a def: their cells are tracked while it runs. -/
namespace Dl
open PySem PySem.Spec PyProof.Rows L2 NdefX
open LamX (CodeO)
/-- the cells tracked, not tracked, put back -/
def addC (cs : List Addr) (h : Heap) (H : Hp) : Hp := fun b => if b ∈ cs then (h.get? b).map (CellO b) else H b
def dropC (cs : List Addr) (H : Hp) : Hp := fun b => if b ∈ cs then none else H b
def putC (cs : List Addr) (H H' : Hp) : Hp := fun b => if b ∈ cs then H b else H' b
section
variable {cs : List Addr} {h : Heap} {H H' : Hp} {b : Addr} {o : HO}
theorem addC_in (hb : b ∈ cs) : addC cs h H b = (h.get? b).map (CellO b) := if_pos hb
theorem addC_out (hb : b ∉ cs) : addC cs h H b = H b := if_neg hb
theorem dropC_in (hb : b ∈ cs) : dropC cs H b = none := if_pos hb
theorem dropC_out (hb : b ∉ cs) : dropC cs H b = H b := if_neg hb
theorem putC_in (hb : b ∈ cs) : putC cs H H' b = H b := if_pos hb
theorem putC_out (hb : b ∉ cs) : putC cs H H' b = H' b := if_neg hb
theorem dropC_some (e : dropC cs H b = some o) : b ∉ cs ∧ H b = some o := by
  by_cases hb : b ∈ cs
  · rw [dropC_in hb] at e; cases e
  · rw [dropC_out hb] at e; exact ⟨hb, e⟩
theorem dropC_none (e : H b = none) : dropC cs H b = none := by
  by_cases hb : b ∈ cs
  · exact dropC_in hb
  · rw [dropC_out hb]; exact e
end
section
variable {P : Program} {w : PySem.World} {K : PySem.W.Frag} {mg : Str → Option Value} {base : Heap} {A : Around} {outer : List Env} {s s' : Shared} {H : Hp} {cs : List Addr} {Q Q' : VK} {u : Value}
theorem cellO_ok {c : Addr} {o : Obj} {h : Heap} (e : h.get? c = some o) : ObjOk P w H h c (CellO c o) := ⟨e, ⟨o, e⟩, fun _ _ h1 st => st _ h1⟩
theorem hok_drop {h : Heap} (k : HOk P w H h) (hc : ∀ b ∈ cs, ∃ φ, H b = some (.ext φ)) : HOk P w (dropC cs H) h := fun a o e => by
  obtain ⟨_, e2⟩ := dropC_some e
  have out : ∀ {b : Addr} {o : HO}, H b = some o → (∀ φ, o ≠ .ext φ) → dropC cs H b = some o := fun {b o} q n => by
    rw [dropC_out (fun hb => by
      obtain ⟨φ, z⟩ := hc b hb
      rw [q] at z
      exact n φ (Option.some.inj z))]
    exact q
  exact (k a o e2).stay (fun _ _ _ q => q) (fun b q => out q fun φ z => by cases z) fun b xs q => out q fun φ z => by cases z
theorem env0_drop (e : Env0 P w K mg base A outer s H) (hc : ∀ b ∈ cs, ∃ φ, H b = some (.ext φ)) : Env0 P w K mg base A outer s (dropC cs H) where
  frames := e.frames
  mod := e.mod
  bs := fun b o h => ⟨(e.bs b o h).1, dropC_none (e.bs b o h).2⟩
  bsz := e.bsz
  funs := e.funs
  frf := fun b h => dropC_none (e.frf b h)
  hok := hok_drop e.hok hc
  bare := e.bare
theorem env0_add (e : Env0 P w K mg base A outer s H) (hc : ∀ b ∈ cs, H b = none ∧ base.get? b = none ∧ b ∉ frs outer ∧ ∃ o, s.heap.get? b = some o) : Env0 P w K mg base A outer s (addC cs s.heap H) where
  frames := e.frames
  mod := e.mod
  bs := fun b o h => ⟨(e.bs b o h).1, by
    rw [addC_out (fun hb => by rw [(hc b hb).2.1] at h; cases h)]
    exact (e.bs b o h).2⟩
  bsz := e.bsz
  funs := e.funs
  frf := fun b h => by
    rw [addC_out (fun hb => (hc b hb).2.2.1 h)]
    exact e.frf b h
  hok := fun a o q => by
    by_cases ha : a ∈ cs
    · obtain ⟨ob, eo⟩ := (hc a ha).2.2.2
      rw [addC_in ha, eo] at q
      cases q
      exact cellO_ok eo
    · rw [addC_out ha] at q
      have out : ∀ {b : Addr} {o : HO}, H b = some o → addC cs s.heap H b = some o := fun {b o} q => by
        rw [addC_out (fun hb => by rw [(hc b hb).1] at q; cases q)]
        exact q
      exact (e.hok a o q).stay (fun _ _ _ q => q) (fun b q => out q) fun b xs q => out q
  bare := e.bare
/-- behind a call during which cells were tracked -/
theorem ce_drop (hc : ∀ b ∈ cs, H b = none ∧ ∃ o, s.heap.get? b = some o) (hQ : ∀ v H', Q' v H' → (∀ b ∈ cs, H' b = addC cs s.heap H b) ∧ Q v (dropC cs H')) (c : CE outer P w (addC cs s.heap H) s Q' u s') : CE outer P w H s Q u s' := by
  obtain ⟨v, H', os, bare, un, hok, r, q⟩ := c
  obtain ⟨hk, q⟩ := hQ v H' q
  have cell : ∀ b ∈ cs, ∃ o, s.heap.get? b = some o ∧ H' b = some (CellO b o) ∧ s'.heap.get? b = some o := fun b hb => by
    obtain ⟨o, eo⟩ := (hc b hb).2
    have e1 := hk b hb
    rw [addC_in hb, eo] at e1
    exact ⟨o, eo, e1, (hok b _ e1).1⟩
  have out : ∀ {b : Addr} {o : HO}, H b = some o → b ∉ cs := fun {b o} q hb => by rw [(hc b hb).1] at q; cases q
  have un' : Un (frs outer) [] H (dropC cs H') s.heap s'.heap := by
    refine ⟨fun b o e n hf hx => ?_, fun b o e n hf hx => ?_, fun b o e n hx => ?_, un.there, fun b xs e => ?_, fun b o x e => ?_, fun b ps e => ?_⟩
    · by_cases hb : b ∈ cs
      · obtain ⟨o', e1, _, e3⟩ := cell b hb
        rw [e1] at e; cases e
        exact e3
      · exact un.keep b o e (by rw [addC_out hb]; exact n) hf hx
    · by_cases hb : b ∈ cs
      · obtain ⟨o', e1, _, e3⟩ := cell b hb
        rw [e1] at e; cases e
        exact ⟨o.slots, e3⟩
      · exact un.slot b o e (by rw [addC_out hb]; exact n) hf hx
    · by_cases hb : b ∈ cs
      · exact dropC_in hb
      · rw [dropC_out hb]
        exact un.free b o e (by rw [addC_out hb]; exact n) hx
    · rw [dropC_out (out e)]
      exact un.tups b xs (by rw [addC_out (out e)]; exact e)
    · rw [dropC_out (out e)]
      exact un.frzs b o x (by rw [addC_out (out e)]; exact e)
    · rw [dropC_out (out e)]
      exact un.tbls b ps (by rw [addC_out (out e)]; exact e)
  exact ⟨v, dropC cs H', os, bare, un', hok_drop hok (fun b hb => by obtain ⟨o, _, e2, _⟩ := cell b hb; exact ⟨_, e2⟩), r, q⟩
/-- behind a call during which tracked cells were not -/
theorem ce_put (hok0 : HOk P w H s.heap) (frf : ∀ b ∈ frs outer, H b = none) (hc : ∀ b ∈ cs, ∃ o, H b = some (CellO b o)) (hQ : ∀ v H', (∀ b ∈ cs, H' b = none) → Q' v H' → Q v (putC cs H H')) (c : CE outer P w (dropC cs H) s Q' u s') : CE outer P w H s Q u s' := by
  obtain ⟨v, H', os, bare, un, hok, r, q⟩ := c
  have cell : ∀ b ∈ cs, ∃ o, H b = some (CellO b o) ∧ s.heap.get? b = some o ∧ s'.heap.get? b = some o ∧ H' b = none := fun b hb => by
    obtain ⟨o, eo⟩ := hc b hb
    have e1 := (hok0 b _ eo).1
    have nf : b ∉ frs outer := fun z => by rw [frf b z] at eo; cases eo
    exact ⟨o, eo, e1, un.keep b o e1 (dropC_in hb) nf (by simp), un.free b o e1 (dropC_in hb) (by simp)⟩
  have no : ∀ b ∈ cs, H' b = none := fun b hb => by obtain ⟨_, _, _, _, e⟩ := cell b hb; exact e
  have out : ∀ {b : Addr} {o : HO}, H b = some o → (∀ φ, o ≠ .ext φ) → b ∉ cs := fun {b o} q n hb => by
    obtain ⟨o', e⟩ := hc b hb
    rw [q] at e
    exact n _ (Option.some.inj e)
  have un' : Un (frs outer) [] H (putC cs H H') s.heap s'.heap := by
    refine ⟨fun b o e n hf hx => ?_, fun b o e n hf hx => ?_, fun b o e n hx => ?_, un.there, fun b xs e => ?_, fun b o x e => ?_, fun b ps e => ?_⟩
    · exact un.keep b o e (dropC_none n) hf hx
    · exact un.slot b o e (dropC_none n) hf hx
    · by_cases hb : b ∈ cs
      · rw [putC_in hb]; exact n
      · rw [putC_out hb]; exact un.free b o e (dropC_none n) hx
    · have hb := out e (fun φ z => by cases z)
      rw [putC_out hb]
      exact un.tups b xs (by rw [dropC_out hb]; exact e)
    · have hb := out e (fun φ z => by cases z)
      rw [putC_out hb]
      exact un.frzs b o x (by rw [dropC_out hb]; exact e)
    · have hb := out e (fun φ z => by cases z)
      rw [putC_out hb]
      exact un.tbls b ps (by rw [dropC_out hb]; exact e)
  refine ⟨v, putC cs H H', os, bare, un', fun a o e => ?_, r, hQ v H' no q⟩
  by_cases ha : a ∈ cs
  · obtain ⟨o', e1, _, e3, _⟩ := cell a ha
    rw [putC_in ha, e1] at e
    cases e
    exact cellO_ok e3
  · rw [putC_out ha] at e
    have keep : ∀ {b : Addr} {o : HO}, H' b = some o → putC cs H H' b = some o := fun {b o} q => by
      rw [putC_out (fun hb => by rw [no b hb] at q; cases q)]
      exact q
    exact (hok a o e).stay (fun _ _ _ q => q) (fun b q => keep q) fun b xs q => keep q
end
/-! ### what a closure promises -/
structure COk (P : Program) (w : PySem.World) (K : PySem.W.Frag) (mg : Str → Option Value) (base : Heap) (k : Nat) (nd : ND) (sp : List (Option V) → Sp) : Prop where
  len : ∀ ws vs H Q E, sp ws vs H Q E → vs.length = nd.ps.length
  run : ∀ (f : Addr) (cl : List (Str × Addr)) (c' : Addr) (A : Around) (outer : List Env) (s : Shared) (H : Hp) (us : List Value) (vs : List V) (ws : List (Option V)) (Q : VK) (E : XK), Room k A → Env0 P w K mg base A outer s H → H f = some (CloO f nd cl c') → H c' = some (CodeO c' nd.qual) →
    CellsAt cl nd.fr ws s.heap H → Vals vs us → sp ws vs H Q E → codeAny (model P w) A (.call (.ref f) ⟨us, []⟩) (CR (L2.CX P w) outer P w H s Q E) s
section
variable {P : Program} {w : PySem.World} {K : PySem.W.Frag} {mg : Str → Option Value} {base : Heap} {k : Nat} {nd : ND} {sp : List (Option V) → Sp} {N : List Str}
theorem cok_def {b : List Stmt} (hnd : nd.body = .inl b) (S : NScope N nd.ps nd.fr nd.scope) (hb : ∀ (cl : List (Str × Addr)) (c' : Addr) (doc pm ctv : Value) (us : List Value), us.length = nd.ps.length → bindArgs ((nd.nf b cl c').fd doc pm ctv) ⟨us, []⟩ = pure (nd.ps.zip us)) (len : ∀ ws vs H Q E, sp ws vs H Q E → vs.length = nd.ps.length)
    (hbody : ∀ (f : Addr) (cl : List (Str × Addr)) (c' : Addr) (A : Around) (outer : List Env) (s : Shared) (H : Hp) (vs : List V) (ws : List (Option V)) (Q : VK) (E : XK), Room k (A.deeper (envF (nd.nf b cl c') f s.heap.objs.size)) → ws.length = nd.fr.length → sp ws vs H Q E →
      ∃ t, PSs (ncx (L2.CX P w) P w K mg base N (nd.nf b cl c') f A outer s H E) b t ∧ t { nx := fun _ H' => Q .non H', rt := Q } (startF N vs ws) H) : COk P w K mg base (k + 1) nd sp := by
  refine ⟨len, fun f cl c' A outer s H us vs ws Q E hr e0 hf hc C r q => ?_⟩
  have ok : NOk P w K mg base (L2.CX P w) (k + 1) f (nd.nf b cl c') nd.ps nd.fr sp := nok_of S (hb cl c') len fun A outer s H vs ws Q E hr _ _ hw q => hbody f cl c' A outer s H vs ws Q E hr hw q
  refine ok.run A outer s H us vs ws Q E hr e0 ?_ hc C r q
  rw [hf]
  unfold CloO
  rw [hnd]
theorem cok_lam {e : Expr} (hnd : nd.body = .inr e) (S : NScope N nd.ps nd.fr nd.scope) (hb : ∀ (cl : List (Str × Addr)) (c' : Addr) (pm ctv : Value) (us : List Value), us.length = nd.ps.length → bindArgs (PySem.W.kla_fn nd.name nd.qual nd.params e nd.scope cl pm (.ref c') ctv) ⟨us, []⟩ = pure (nd.ps.zip us)) (len : ∀ ws vs H Q E, sp ws vs H Q E → vs.length = nd.ps.length)
    (hbody : ∀ (f : Addr) (cl : List (Str × Addr)) (c' : Addr) (A : Around) (outer : List Env) (s : Shared) (H : Hp) (vs : List V) (ws : List (Option V)) (Q : VK) (E : XK), Room k (A.deeper (envF (nd.nf [] cl c') f s.heap.objs.size)) → ws.length = nd.fr.length → sp ws vs H Q E →
      ∃ t, PE (ncx (L2.CX P w) P w K mg base N (nd.nf [] cl c') f A outer s H E) e t ∧ t (startF N vs ws) H Q) : COk P w K mg base (k + 1) nd sp := by
  refine ⟨len, fun f cl c' A outer s H us vs ws Q E hr e0 hf hc C r hsp => ?_⟩
  have hl := len _ _ _ _ _ hsp
  have lim : s.heap.NoLimit := e0.mod.nolimit.keeps fun b o e => (e0.bs b o e).1
  have hf' : H f = some (LamO f nd e cl c') := by rw [hf]; unfold CloO; rw [hnd]
  obtain ⟨⟨pm, ctv, ho⟩, _, _⟩ := e0.hok f _ hf'
  refine PySem.W.kla_callFunE hr.depth ho rfl S.co S.gen rfl (codeO_at e0.hok hc) ?_
  rw [hb cl c' pm ctv us (by rw [← r.length]; exact hl)]
  refine wpAny_pure (wpAny_newFunctionEnv S.nocell (fun ⟨n, _⟩ hy => S.par n (List.of_mem_zip hy).1) (fun h₁ hns hsb => ⟨lim.fresh _ hsb, ?_⟩) S.kind)
  show codeAny _ _ (.expr e (envF (nd.nf [] cl c') f s.heap.objs.size)) _ _
  have kp : ∀ b o, s.heap.get? b = some o → h₁.get? b = some o := fun b o e => hsb.extBut b o (Nat.ne_of_lt (Heap.lt_size e)) (Heap.get?_push_of_some _ e)
  obtain ⟨t, ht, hq⟩ := hbody f cl c' A outer s H vs ws Q E (hr.deeper _) C.len hsp
  have I : Inv (ncx (L2.CX P w) P w K mg base N (nd.nf [] cl c') f A outer s H E) [] (startF N vs ws) H { s with heap := h₁, toks := s.toks + (nd.ps.zip us).length } := inv_startN (F := nd.nf [] cl c') S hr.hd e0 hl r C hns kp
  refine PySem.W.kla_codeExpr (wpAny_mono (ht.run [] _ (startF N vs ws) H Q I hq) (fun v s' hs => ?_) fun e s' hs => hs)
  obtain ⟨v', H', J, rv, q⟩ := hs
  exact ⟨v', H', J.os, J.bare, J.base, J.hok, rv, q⟩
end
/-- values in cells, as data -/
def CapV (K : PySem.W.Frag) (F : Hp) (ws : List (Option V)) (caps : List D) : Prop := ws.length = caps.length ∧ ∀ (j : Nat) (d : D), caps[j]? = some d → ∃ v, ws[j]? = some (some v) ∧ Rp K F v d
/-- what a closure promises that computes m of its arguments and of what it has captured -/
def spC (X : Tx) (m : List RV → World → Out RV) (caps : List D) : List (Option V) → Sp := fun ws vs H Q _ => ∃ F M args w, Same F H ∧ NoTbl F ∧ WRel X F H M w ∧ TabsN X.T.tabs H ∧ Paired (argAt X F M) vs args ∧ CapV X.K F ws caps ∧
  Pst (m (args ++ caps.map .dat) w) (fun r w' => ∀ v H' F' M', Same F' H' → NoTbl F' → WRel X F' H' M' w' → TabsN X.T.tabs H' → Stp H F M H' F' M' → r.isAt X H [] (fun _ => 0) H' F' M' v → Q v H') (fun _ _ _ => False)
theorem sr_startC {X : Tx} {H F : Hp} {M : List Addr} {w : World} {vs : List V} {args : List RV} {ws : List (Option V)} {caps : List D} {N : List Str} (fh : Same F H) (nt : NoTbl F) (wr : WRel X F H M w) (tb : TabsN X.T.tabs H) (p : Paired (argAt X F M) vs args) (cv : CapV X.K F ws caps) (hl : args.length + caps.length ≤ N.length) :
    SR X ⟨H, F, M⟩ (initE (args ++ caps.map .dat) N.length) w (startF N vs ws) H F (fun _ => 0) M := by
  have hv := p.length
  obtain ⟨cl, ca⟩ := cv
  have el : (args ++ caps.map RV.dat).length = args.length + caps.length := by simp
  have sl1 : (startF N vs ws).length = N.length := by unfold startF; simp; omega
  have noOwn : ∀ {i : Nat} {l : List D}, (initE (args ++ caps.map .dat) N.length)[i]? = some (.own l) → False := by
    intro i l e
    have m := List.mem_of_getElem? e
    unfold initE at m
    rcases List.mem_append.mp m with m | m
    · obtain ⟨a, _, ea⟩ := List.mem_map.mp m
      cases a <;> cases ea
    · rw [List.mem_replicate] at m
      cases m.2
  refine ⟨by rw [sl1, initE_len (by omega)], fh, nt, .refl, wr, tb, fun i sl e => ?_, fun i j li lj e1 e2 _ => (noOwn e1).elim⟩
  by_cases hi : i < args.length
  · unfold initE at e
    rw [List.getElem?_append_left (by simp; omega), List.getElem?_map, List.getElem?_append_left hi] at e
    cases ea : args[i]? with
    | none => rw [ea] at e; cases e
    | some a =>
      rw [ea] at e
      simp only [Option.map_some, Option.some.injEq] at e; subst e
      obtain ⟨v, ev, av⟩ := Pr.get p ea
      have es : (startF N vs ws)[i]? = some (some v) := by
        unfold startF
        rw [List.getElem?_append_left (by simp; omega), List.getElem?_map, ev]
        rfl
      rw [es]
      cases a with
      | dat d => exact ⟨v, rfl, av⟩
      | wref k => obtain ⟨m, e1, e2⟩ := av; subst e2; exact ⟨m, e1, rfl⟩
      | fresh l => exact av.elim
      | bor i l => exact av.elim
  · by_cases hj : i < args.length + caps.length
    · unfold initE at e
      rw [List.getElem?_append_left (by simp; omega), List.getElem?_map, List.getElem?_append_right (by omega), List.getElem?_map] at e
      cases ec : caps[i - args.length]? with
      | none => rw [ec] at e; cases e
      | some d =>
        rw [ec] at e
        simp only [Option.map_some, Option.some.injEq] at e; subst e
        obtain ⟨v, ev, rv⟩ := ca _ d ec
        have es : (startF N vs ws)[i]? = some (some v) := by
          unfold startF
          rw [List.getElem?_append_right (by simp; omega), List.getElem?_append_left (by simp; omega)]
          simp only [List.length_map, hv]
          exact ev
        rw [es]
        exact ⟨v, rfl, rv⟩
    · unfold initE at e
      rw [List.getElem?_append_right (by simp; omega)] at e
      have := List.mem_of_getElem? e
      rw [List.mem_replicate] at this
      rw [this.2]
      trivial
section
variable {P : Program} {w : PySem.World} {K : PySem.W.Frag} {mg : Str → Option Value} {base : Heap} {T : Tbs} {n i : Nat} {nd : ND} {N : List Str} {tbl : Nat → Option DefB} {caps : List D}
theorem spC_len {bd : Cs → Sd} (ht : tbl i = some ⟨nd.ps.length + nd.fr.length, N.length, bd⟩) (hcaps : caps.length = nd.fr.length) : ∀ ws vs H Q E, spC ⟨K, mg, T⟩ ((Den tbl (n + 1)).call i) caps ws vs H Q E → vs.length = nd.ps.length := by
  intro ws vs H Q E h
  obtain ⟨F', M, args, w', fh, nt, wr, tb, p, cv, q⟩ := h
  rw [den_succ ht] at q
  unfold runB at q
  split at q
  · rename_i hl
    simp only [List.length_append, List.length_map] at hl
    rw [p.length]
    omega
  · exact q.elim
theorem clo_def {b : List Stmt} {bd : Cs → Sd} (hnd : nd.body = .inl b) (S : NScope N nd.ps nd.fr nd.scope) (hb : ∀ (cl : List (Str × Addr)) (c' : Addr) (doc pm ctv : Value) (us : List Value), us.length = nd.ps.length → bindArgs ((nd.nf b cl c').fd doc pm ctv) ⟨us, []⟩ = pure (nd.ps.zip us))
    (ht : tbl i = some ⟨nd.ps.length + nd.fr.length, N.length, bd⟩) (hcaps : caps.length = nd.fr.length)
    (hd : ∀ (f : Addr) (cl : List (Str × Addr)) (c' : Addr) (A : Around) (outer : List Env) (s : Shared) (H : Hp) (E : XK), Room n (A.deeper (envF (nd.nf b cl c') f s.heap.objs.size)) → JSs (ncx (L2.CX P w) P w K mg base N (nd.nf b cl c') f A outer s H E) T noW b (bd (Den tbl n))) :
    COk P w K mg base (n + 1) nd (spC ⟨K, mg, T⟩ ((Den tbl (n + 1)).call i) caps) := by
  have hN : nd.ps.length + nd.fr.length ≤ N.length := by
    have q := congrArg List.length S.pre
    rw [List.length_take, List.length_append] at q
    omega
  refine cok_def hnd S hb (spC_len ht hcaps) fun f cl c' A outer s H vs ws Q E hr _ h => ⟨_, hd f cl c' A outer s H E hr, ?_⟩
  have hlen := spC_len ht hcaps _ _ _ _ _ h
  obtain ⟨F', M, args, w', fh, nt, wr, tb, p, cv, q⟩ := h
  rw [den_succ ht] at q
  unfold runB at q
  split at q
  · have hla : args.length = nd.ps.length := by rw [← p.length]; exact hlen
    refine ⟨⟨H, F', M⟩, _, w', F', _, M, sr_startC (N := N) fh nt wr tb p cv (by rw [hla, hcaps]; exact hN), ?_⟩
    have q : Pst (endR (bd (Den tbl n) (initE (args ++ caps.map .dat) N.length) w')) _ _ := q
    cases eo : bd (Den tbl n) (initE (args ++ caps.map .dat) N.length) w' with
    | stuck => rw [eo] at q; exact q.elim
    | exc x' e' w2 => rw [eo] at q; exact q.elim
    | ok fl w2 =>
      rw [eo] at q
      cases fl with
      | rt r =>
        intro v H' F2 M2 ra
        exact q v H' F2 M2 ra.fh ra.nt ra.wr ra.tb ra.st ra.at_
      | nx e =>
        intro σ' H' F2 O2 M2 s2 _
        exact q .non H' F2 M2 s2.fh s2.nt s2.wr s2.tb s2.st .non
      | bk e => exact q.elim
      | ct e => exact q.elim
  · exact q.elim
theorem clo_lam {e : Expr} {ed : Cs → Ex} (hnd : nd.body = .inr e) (S : NScope N nd.ps nd.fr nd.scope) (hb : ∀ (cl : List (Str × Addr)) (c' : Addr) (pm ctv : Value) (us : List Value), us.length = nd.ps.length → bindArgs (PySem.W.kla_fn nd.name nd.qual nd.params e nd.scope cl pm (.ref c') ctv) ⟨us, []⟩ = pure (nd.ps.zip us))
    (ht : tbl i = some ⟨nd.ps.length + nd.fr.length, N.length, fun C => sRet (ed C)⟩) (hcaps : caps.length = nd.fr.length)
    (hd : ∀ (f : Addr) (cl : List (Str × Addr)) (c' : Addr) (A : Around) (outer : List Env) (s : Shared) (H : Hp) (E : XK), Room n (A.deeper (envF (nd.nf [] cl c') f s.heap.objs.size)) → JE (ncx (L2.CX P w) P w K mg base N (nd.nf [] cl c') f A outer s H E) T noW e (ed (Den tbl n))) :
    COk P w K mg base (n + 1) nd (spC ⟨K, mg, T⟩ ((Den tbl (n + 1)).call i) caps) := by
  have hN : nd.ps.length + nd.fr.length ≤ N.length := by
    have q := congrArg List.length S.pre
    rw [List.length_take, List.length_append] at q
    omega
  refine cok_lam hnd S hb (spC_len ht hcaps) fun f cl c' A outer s H vs ws Q E hr _ h => ⟨_, hd f cl c' A outer s H E hr, ?_⟩
  have hlen := spC_len ht hcaps _ _ _ _ _ h
  obtain ⟨F', M, args, w', fh, nt, wr, tb, p, cv, q⟩ := h
  rw [den_succ ht] at q
  unfold runB at q
  split at q
  · have hla : args.length = nd.ps.length := by rw [← p.length]; exact hlen
    have s0 := sr_startC (N := N) fh nt wr tb p cv (by rw [hla, hcaps]; exact hN)
    refine ⟨⟨H, F', M⟩, _, w', F', _, M, s0, ?_⟩
    have q : Pst (endR ((ed (Den tbl n) (initE (args ++ caps.map .dat) N.length) w').bind fun r w1 => .ok (.rt r.ret) w1)) _ _ := q
    cases eo : ed (Den tbl n) (initE (args ++ caps.map .dat) N.length) w' with
    | stuck => rw [eo] at q; exact q.elim
    | exc x' e' w2 => rw [eo] at q; exact q.elim
    | ok r w2 =>
      rw [eo] at q
      intro v H' F2 M2 s2 st ra
      have ra := ret_at s0 s2 ra
      exact q v H' F2 M2 ra.fh ra.nt ra.wr ra.tb ra.st ra.at_
  · exact q.elim
end
end Dl
/-! DlN: a closure called by the def that got it. -/
namespace Dl
open PySem PySem.Spec PyProof.Rows L2 NdefX
open LamX (CodeO)
def allL (w : World) : Bool := w.all fun o => match o with
  | .lst _ => true
  | .clo _ _ => false
def cellsOf (cl : List (Str × Addr)) (fr : List Str) : List Addr := fr.filterMap fun y => cl.lookup y
/-- the closures' promises -/
def Clos (P : Program) (w : PySem.World) (K : PySem.W.Frag) (mg : Str → Option Value) (base : Heap) (T : Tbs) (C : Cs) (n : Nat) : Prop :=
  ∀ (i : Nat) (nd : ND) (caps : List D), T.nd i = some nd → caps.length = nd.fr.length → COk P w K mg base n nd (spC ⟨K, mg, T⟩ (C.call i) caps)
def actK (C : Cs) (j : Nat) (rs : List RV) (w1 : World) : Out RV := match w1[j]?, dats rs with
  | some (.clo i caps), some ds => if w1.length = j + 1 ∧ allL (w1.take j) = true then
      (match C.call i ((ds ++ caps).map .dat) (w1.take j) with
        | .ok (.dat d) w2 => if w2.length = j ∧ allL w2 = true then .ok (.dat d) (w2 ++ [.clo i caps]) else .stuck
        | _ => .stuck)
    else .stuck
  | _, _ => .stuck
def dAct (C : Cs) (k : Nat) (es : Exs) : Ex := fun env w => match env[k]? with
  | some (.wref j) => (match w[j]? with
    | some (.clo _ _) => (es env w).bind fun rs w1 => actK C j rs w1
    | _ => .stuck)
  | _ => .stuck
section
variable {X : Tx} {F H : Hp} {M : List Addr} {w : World}
theorem CapA.cell {K : PySem.W.Frag} {cl : List (Str × Addr)} {fr : List Str} {caps : List D} (h : CapA K F H cl fr caps) {b : Addr} (hb : b ∈ cellsOf cl fr) : ∃ o, H b = some (CellO b o) ∧ (∃ u, o.data = .cell (some u)) ∧ F b = none := by
  obtain ⟨y, hy, e⟩ := List.mem_filterMap.mp hb
  obtain ⟨j, hj, ej⟩ := List.mem_iff_getElem.mp hy
  have hjc : j < caps.length := by rw [h.len]; exact hj
  obtain ⟨c, o, u, v, q1, q0, q2, q3, q4, q5⟩ := h.at_ j y caps[j] (by rw [← ej]; simp [hj]) (by simp [hjc])
  rw [e] at q1
  cases q1
  exact ⟨o, q2, ⟨u, q3⟩, q0⟩
theorem allL_at {w : World} (h : allL w = true) {o : WO} (ho : o ∈ w) : ∃ l, o = .lst l := by
  have := List.all_eq_true.mp h o ho
  cases o with
  | lst l => exact ⟨l, rfl⟩
  | clo i caps => cases this
/-- lists of the world alone need their own objects alone -/
theorem lists_keep {H' F' : Hp} (hw : allL w = true) (p : Paired (fun m o => F m = none ∧ WO.isAt X F H m o) M w) (hF : Same F F') (k : ∀ m vs, F m = none → H m = some (.lst vs) → F' m = none ∧ H' m = some (.lst vs)) :
    Paired (fun m o => F' m = none ∧ WO.isAt X F' H' m o) M w := by
  induction p with
  | nil => exact .nil
  | @cons m o M' w' h1 _ ih =>
    refine .cons ?_ (ih (by simpa [allL] using (List.all_eq_true.mp hw |> fun q => List.all_eq_true.mpr fun x hx => q x (.tail _ hx))))
    obtain ⟨l, rfl⟩ := allL_at hw (.head _)
    obtain ⟨h0, ez, vs, e1, e2⟩ := h1
    obtain ⟨a, b⟩ := k m vs h0 e1
    exact ⟨a, ez, vs, b, Rp.monoAll hF _ _ e2⟩
end
theorem pick_list {n : Nat} {R : Nat → V → Prop} (h : ∀ j, j < n → ∃ v, R j v) : ∃ ws : List (Option V), ws.length = n ∧ (∀ j, j < n → ∃ v, ws[j]? = some (some v)) ∧ ∀ (j : Nat) (v : V), ws[j]? = some (some v) → R j v := by
  have h2 : ∀ j, ∃ v, j < n → R j v := fun j => by
    by_cases hj : j < n
    · obtain ⟨v, hv⟩ := h j hj; exact ⟨v, fun _ => hv⟩
    · exact ⟨.non, fun z => absurd z hj⟩
  refine ⟨(List.range n).map fun j => some (Classical.choose (h2 j)), by simp, fun j hj => ⟨Classical.choose (h2 j), by rw [List.getElem?_map, List.getElem?_range hj]; rfl⟩, fun j v e => ?_⟩
  rw [List.getElem?_map] at e
  by_cases hj : j < n
  · rw [List.getElem?_range hj] at e
    simp only [Option.map_some, Option.some.injEq] at e
    rw [← e]
    exact Classical.choose_spec (h2 j) hj
  · rw [List.getElem?_eq_none (by simpa using hj)] at e
    cases e
section
variable {X : Cx} {T : Tbs} {Wi : WX} {pins : List (Addr × Obj)} {σ : St} {H : Hp} {s : Shared}
theorem clo_fnAt {m : Addr} {nd : ND} {cl : List (Str × Addr)} {c' : Addr} (hok : HOk X.prog X.w H s.heap) (e : H m = some (CloO m nd cl c')) : ∃ (o : Obj) (fd : FuncData), s.heap.get? m = some o ∧ o.data = .func fd ∧ PySem.W.FnAt m s.heap := by
  unfold CloO at e
  split at e
  · obtain ⟨od, sl, doc, pm, ctv, ho⟩ := fnO_at hok e
    exact ⟨_, _, ho, rfl, ⟨_, od, _, sl, ho⟩⟩
  · obtain ⟨⟨pm, ctv, ho⟩, _, _⟩ := hok m _ e
    exact ⟨_, _, ho, rfl, ⟨_, _, _, _, ho⟩⟩
/-- an object that is a cell's is no code object's, no function's -/
theorem cell_ne {cs : List Addr} (hok : HOk X.prog X.w H s.heap) (hc : ∀ b ∈ cs, ∃ o, H b = some (CellO b o) ∧ (∃ u, o.data = .cell (some u))) {b : Addr} {o : HO} (e : H b = some o) (ho : (∀ φ, o ≠ .ext φ) ∨ (∃ q, o = CodeO b q) ∨ ∃ nd cl c', o = CloO b nd cl c') : b ∉ cs := fun hb => by
  obtain ⟨ob, e1, u, e2⟩ := hc b hb
  have e3 := (hok b _ e1).1
  rcases ho with z | ⟨q, z⟩ | ⟨nd, cl, c', z⟩
  · rw [e1] at e
    exact z _ (Option.some.inj e).symm
  · subst z
    obtain ⟨⟨oc, vs, t, h1, h2, h3⟩, _, _⟩ := hok b _ e
    have e3 : s.heap.get? b = some ob := e3
    rw [e3] at h1
    cases h1
    rw [e2] at h2
    cases h2
  · subst z
    obtain ⟨o2, fd, h1, h2, _⟩ := clo_fnAt hok e
    have e3 : s.heap.get? b = some ob := e3
    rw [e3] at h1
    cases h1
    rw [e2] at h2
    cases h2
theorem dat_args {X : Tx} {F : Hp} {M : List Addr} : ∀ {vs : List V} {ds : List D}, Paired (Rp X.K F) vs ds → Paired (argAt X F M) vs (ds.map .dat)
  | _, _, .nil => .nil
  | _, _, .cons r t => .cons r (dat_args t)
theorem je_act {C : Cs} {n k : Nat} {x : Str} {e : Expr} {es : List Expr} {ds : Exs} {p pos : Pos} (c : Clos X.prog X.w X.K X.mg X.base T C n) (hr : Room n X.A) (h : JA X T Wi (e :: es) ds) (hN : X.N[k]? = some x := by rfl) (hv : Vis X.env.scope x := by first | exact Or.inl rfl | exact Or.inr (Or.inl rfl) | exact Or.inr (Or.inr rfl))
    (hd : (x == ("__debug__" : Str)) = false := by decide) (hcd : (x == ("__classdict__" : Str)) = false := by decide)
    (he : starEach (e :: es) X.env = (false, eval e X.env) :: starEach es X.env := by rfl) (hpl : (backTo pos (starEach es X.env)).any (·.1) = false := by rfl) : JE X T Wi (.Call (.Name x p) (e :: es) [] pos) (dAct C k ds) := by
  refine ⟨fun pins s σ H Q I q => ?_⟩
  obtain ⟨B, env, w, F, O, M, sr, q⟩ := q
  unfold dAct at q
  split at q
  case h_2 => exact q.elim
  rename_i j ek
  split at q
  case h_2 => exact q.elim
  rename_i i0 caps0 ew
  obtain ⟨m, em, hs⟩ := sr.sl k _ ek
  obtain ⟨m', em', _, hclo⟩ := sr.wr.get ew
  rw [em] at em'; cases em'
  obtain ⟨nd0, cl0, c0, _, hm0, _, _⟩ := CloAt.ex hclo
  refine wpAny_Call_Name_kw (thn ((pe_var (pos := p) hN hv hd hcd).run pins s σ H (fun v H1 => v = .ref m ∧ H1 = H) I ⟨.ref m, hs, rfl, rfl⟩) fun u s1 ⟨v, H1, I1, r1, q1⟩ => ?_)
  obtain ⟨ev, eH⟩ := q1
  subst ev eH
  obtain rfl : u = Value.ref m := r1
  obtain ⟨_, _, _, _, fa1⟩ := clo_fnAt I1.hok hm0
  have rd : tA (Cx.tx X T) Wi ds σ H1 (fun vs H2 => ∃ rs w1 F1 M1, SR (Cx.tx X T) B env w1 σ H2 F1 O M1 ∧ Stp H1 F M H2 F1 M1 ∧ Paired (argAt (Cx.tx X T) F1 M1) vs rs ∧
      Pst (actK C j rs w1) (fun r w' => ∀ v H' F' M', SR (Cx.tx X T) B env w' σ H' F' O M' → Stp H1 F M H' F' M' → r.isAt (Cx.tx X T) H1 env O H' F' M' v → Q v H') (badX (Cx.tx X T) B Wi)) :=
    ⟨B, env, w, F, O, M, sr, q.bind.imp fun rs w1 q1 vs H2 F1 M1 s1 st1 pa => ⟨rs, w1, F1, M1, s1, st1, pa, q1⟩⟩
  refine PySem.W.callWith_F (first := []) fa1 (thn (h.run pos pins s1 σ H1 _ I1 rd) fun us s2 ⟨vs, H2, I2, r, rs, w1, F1, M1, sr1, st1, pa, q⟩ => ?_) he hpl
  unfold actK at q
  split at q
  case h_2 => exact q.elim
  rename_i i caps dsv ew1 eds
  split at q
  case isFalse => exact q.elim
  rename_i hlen
  obtain ⟨hl1, hl2⟩ := hlen
  have em1 : M1[j]? = some m := by obtain ⟨nw, en, _⟩ := st1.mw; exact mem_of_pfx en em
  obtain ⟨m1, em1', hFm, hclo1⟩ := sr1.wr.get ew1
  rw [em1] at em1'; cases em1'
  obtain ⟨nd, cl, c', hnd, hm, hc', cap⟩ := CloAt.ex hclo1
  obtain ⟨_, _, _, _, fa2⟩ := clo_fnAt I2.hok hm
  refine ⟨fa2, ?_⟩
  have hMl : M1.length = w1.length := by rw [sr1.wr.at_.length]
  have cellc := fun b (hb : b ∈ cellsOf cl nd.fr) => cap.cell hb
  generalize hcs : cellsOf cl nd.fr = cs at cellc
  have hcO : ∀ b ∈ cs, ∃ o, H2 b = some (CellO b o) ∧ (∃ u, o.data = .cell (some u)) := fun b hb => by obtain ⟨o, a, b, _⟩ := cellc b hb; exact ⟨o, a, b⟩
  have hcO' : ∀ b ∈ cs, ∃ o, H2 b = some (CellO b o) := fun b hb => by obtain ⟨o, a, _⟩ := hcO b hb; exact ⟨o, a⟩
  have hcE : ∀ b ∈ cs, ∃ φ, H2 b = some (.ext φ) := fun b hb => by obtain ⟨o, a⟩ := hcO' b hb; exact ⟨_, a⟩
  have hcF : ∀ b ∈ cs, F1 b = none := fun b hb => by obtain ⟨o, _, _, a⟩ := cellc b hb; exact a
  have off : ∀ {b : Addr} {o : HO}, H2 b = some o → (∀ φ, o ≠ .ext φ) → dropC cs H2 b = some o := fun {b o} e n => by rw [dropC_out (cell_ne I2.hok hcO e (.inl n))]; exact e
  -- what stands in the cells
  obtain ⟨ws, hwl, hwt, hws⟩ := pick_list (n := caps.length) (R := fun t v => ∀ y d, nd.fr[t]? = some y → caps[t]? = some d → ∃ c u, cl.lookup y = some c ∧ RelV v u ∧ s2.heap.IsCell c (some u) ∧ Rp X.K F1 v d) (fun t ht => by
    obtain ⟨y, ey⟩ : ∃ y, nd.fr[t]? = some y := ⟨nd.fr[t]'(by rw [← cap.len]; exact ht), by simp⟩
    obtain ⟨d, ed⟩ : ∃ d, caps[t]? = some d := ⟨caps[t], by simp⟩
    obtain ⟨c, o, u, v, q1, q0, q2, q3, q4, q5⟩ := cap.at_ t y d ey ed
    refine ⟨v, fun y' d' ey' ed' => ?_⟩
    rw [ey] at ey'; cases ey'
    rw [ed] at ed'; cases ed'
    exact ⟨c, u, q1, q4, ⟨o, (I2.hok c _ q2).1, q3⟩, q5⟩)
  have hcv : CapV X.K F1 ws caps := ⟨hwl, fun t d ed => by
    have ht : t < caps.length := (List.getElem?_eq_some_iff.mp ed).1
    obtain ⟨y, ey⟩ : ∃ y, nd.fr[t]? = some y := ⟨nd.fr[t]'(by rw [← cap.len]; exact ht), by simp⟩
    obtain ⟨v, ev⟩ := hwt t ht
    obtain ⟨_, _, _, _, _, rp⟩ := hws t v ev y d ey ed
    exact ⟨v, ev, rp⟩⟩
  have hCA : CellsAt cl nd.fr ws s2.heap (dropC cs H2) := by
    refine ⟨by rw [hwl]; exact cap.len, fun y c e => ?_, cap.inj, fun t y ey => ?_⟩
    · have hb : c ∈ cs := by rw [← hcs]; exact List.mem_filterMap.mpr ⟨y, cap.keys y c e, e⟩
      obtain ⟨o, e1, u, e2⟩ := hcO c hb
      exact ⟨dropC_in hb, some u, o, (I2.hok c _ e1).1, e2⟩
    · have ht : t < caps.length := by rw [cap.len]; exact (List.getElem?_eq_some_iff.mp ey).1
      obtain ⟨d, ed⟩ : ∃ d, caps[t]? = some d := ⟨caps[t], by simp⟩
      obtain ⟨v, ev⟩ := hwt t ht
      obtain ⟨c, u, q1, _, _, _⟩ := hws t v ev y d ey ed
      refine ⟨c, q1, fun v' ev' => ?_⟩
      obtain ⟨c2, u2, q1', q2, q3, _⟩ := hws t v' ev' y d ey ed
      rw [q1] at q1'; cases q1'
      exact ⟨u2, q2, q3⟩
  have hmo : dropC cs H2 m = some (CloO m nd cl c') := by rw [dropC_out (cell_ne I2.hok hcO hm (.inr (.inr ⟨_, _, _, rfl⟩)))]; exact hm
  have hco : dropC cs H2 c' = some (CodeO c' nd.qual) := by rw [dropC_out (cell_ne I2.hok hcO hc' (.inr (.inl ⟨_, rfl⟩)))]; exact hc'
  have fhD : Same F1 (dropC cs H2) := fun b o e => by rw [dropC_out (fun hb => by rw [hcF b hb] at e; cases e)]; exact sr1.fh b o e
  have wrD : WRel (Cx.tx X T) F1 (dropC cs H2) (M1.take j) (w1.take j) :=
    ⟨sr1.wr.nd.sublist (List.take_sublist _ _), lists_keep hl2 (Pr.take j sr1.wr.at_) (Same.refl _) fun m vs h0 h1 => ⟨h0, off h1 fun φ z => by cases z⟩⟩
  have tbD : TabsN T.tabs (dropC cs H2) := fun pT hpT => by
    obtain ⟨ps, a1, a2, a3⟩ := sr1.tb pT hpT
    refine ⟨ps, off a1 (fun φ z => by cases z), a2, fun pos cv hcv => ?_⟩
    obtain ⟨c, e1, e2⟩ := a3 pos cv hcv
    exact ⟨c, e1, by rw [dropC_out (cell_ne I2.hok hcO e2 (.inr (.inl ⟨_, rfl⟩)))]; exact e2⟩
  have paD : Paired (argAt (Cx.tx X T) F1 (M1.take j)) vs (dsv.map .dat) := dat_args (dats_at pa eds)
  split at q
  case h_2 => exact q.elim
  rename_i d w2 eo
  split at q
  case isFalse => exact q.elim
  rename_i hw2
  obtain ⟨hw2l, hw2a⟩ := hw2
  have hMj : M1 = M1.take j ++ [m] := by
    have e := List.take_append_drop j M1
    have e2 : M1.drop j = [m] := by
      apply List.ext_getElem?
      intro t
      rw [List.getElem?_drop]
      cases t with
      | zero => simpa using em1
      | succ t => simp; omega
    rw [e2] at e
    exact e.symm
  have hmj : m ∉ M1.take j := fun z => by
    have nd := sr1.wr.nd
    rw [hMj, List.nodup_append] at nd
    exact nd.2.2 m z m (List.mem_singleton.mpr rfl) rfl
  have hMjl : (M1.take j).length = j := by rw [List.length_take]; omega
  have hsp : spC ⟨X.K, X.mg, T⟩ (C.call i) caps ws vs (dropC cs H2) (fun v H' => ∃ F', Same F' H' ∧ NoTbl F' ∧ WRel (Cx.tx X T) F' H' (M1.take j) w2 ∧ TabsN T.tabs H' ∧ Stp (dropC cs H2) F1 (M1.take j) H' F' (M1.take j) ∧ Rp X.K F' v d) (fun _ _ _ => False) := by
    refine ⟨F1, M1.take j, dsv.map .dat, w1.take j, fhD, sr1.nt, wrD, tbD, paD, hcv, ?_⟩
    rw [← List.map_append, eo]
    intro v H' F' M' h1 h2 h3 h4 h5 h6
    have hM : M' = M1.take j := by
      obtain ⟨nw, en, _⟩ := h5.mw
      have hl := h3.at_.length
      rw [en, List.length_append, hMjl, hw2l] at hl
      have : nw = [] := List.length_eq_zero_iff.mp (by omega)
      rw [en, this, List.append_nil]
    subst hM
    exact ⟨F', h1, h2, h3, h4, h5, h6⟩
  show wpAny _ _ (call (.ref m) us) _ _ _
  refine wpAny_call (codeAny_mono ((c i nd caps hnd cap.len).run m cl c' X.A X.stack s2 (dropC cs H2) us vs ws _ _ hr (env0_drop I2.env0 hcE) hmo hco hCA r hsp) fun rr s' hq => ?_)
  cases rr with
  | error e =>
    obtain ⟨_, _, _, _, _, _, _, _, _, _, _, _, f⟩ := hq
    exact f.elim
  | ok fl =>
    cases fl with
    | next => exact False.elim hq
    | brk => exact False.elim hq
    | cont => exact False.elim hq
    | ret u =>
      refine I2.after (ce_put I2.hok I2.env0.frf hcO' (fun v H' hn hq' => ?_) hq)
      obtain ⟨F', h1, h2, h3, h4, h5, h6⟩ := hq'
      have hput : Same H' (putC cs H2 H') := fun b o e => by rw [putC_out (fun hb => by rw [hn b hb] at e; cases e)]; exact e
      have stP : Stp H2 F1 M1 (putC cs H2 H') F' M1 := by
        refine ⟨h5.fg, fun a o hM ht e => ?_, fun a e => ?_, fun a e e1 => ?_, [], by simp, by simp⟩
        · by_cases ha : a ∈ cs
          · rw [putC_in ha]; exact e
          · rw [putC_out ha]
            exact h5.fr a o (fun z => hM (List.mem_of_mem_take z)) ht (by rw [dropC_out ha]; exact e)
        · by_cases ha : a ∈ cs
          · rw [putC_in ha]; exact e
          · rw [putC_out ha]
            exact h5.th a (by rw [dropC_out ha]; exact e)
        · by_cases ha : a ∈ cs
          · exact h1.free (hn a ha)
          · exact h5.nf a (by rw [dropC_out ha]; exact e) e1
      have wrP : WRel (Cx.tx X T) F' (putC cs H2 H') M1 (w2 ++ [.clo i caps]) := by
        refine ⟨sr1.wr.nd, ?_⟩
        rw [hMj]
        refine Pr.append (lists_keep hw2a h3.at_ (Same.refl _) fun m vs h0 h1 => ⟨h0, hput _ _ h1⟩) (.cons ⟨?_, ?_⟩ .nil)
        · exact stP.nf m (by rw [hm]; simp) hFm
        · exact CloAt.keep hclo1 (fun a φ e => stP.fr a _ (fun _ => ⟨φ, rfl⟩) (fun ps z => by cases z) e) stP.fg stP.nf
      have srP := sr1.step stP (h1.trans hput) h2 wrP (h4.ext hput)
      exact q v _ _ _ srP (st1.trans stP) h6
end
end Dl
/-! DlO: closures made and handed on. -/
namespace Dl
open PySem PySem.Spec PyProof.Rows L2 NdefX
open LamX (CodeO Tabs TabS TabB ExtN inv_table among_app codeO_ne)
section
variable {X : Cx} {pins : List (Addr × Obj)} {σ : St} {H : Hp} {s : Shared}
theorem inv_lam {nd : ND} {e : Expr} {cl : List (Str × Addr)} {pm ctv : Value} {c' : Addr} {t' : Nat} (I : Inv X pins σ H s) :
    Inv X pins σ (upd H s.heap.objs.size (LamO s.heap.objs.size nd e cl c')) { s with heap := s.heap.push (PySem.W.kla_obj nd.name nd.qual nd.params e nd.scope cl pm c' ctv), toks := t' } := by
  have at_ : (s.heap.push (PySem.W.kla_obj nd.name nd.qual nd.params e nd.scope cl pm c' ctv)).get? s.heap.objs.size = some (PySem.W.kla_obj nd.name nd.qual nd.params e nd.scope cl pm c' ctv) := Heap.get?_push_size _ rfl
  refine I.laid (a := s.heap.objs.size) (fun _ _ h => Heap.get?_push_of_some _ h) (Nat.le_refl _) ?_
  refine ⟨⟨pm, ctv, at_⟩, ⟨_, at_⟩, ?_⟩
  rintro h1 h2 ⟨p, t, z⟩ st
  exact ⟨p, t, st _ z⟩
theorem lam_mk {ts : List (Addr × Str)} {c P : Addr} {nd : ND} {e : Expr} {pos : Pos} {E Q : Value → Shared → Prop} (I : Inv X pins σ H s) (TB : TabB X.base X.mg c P) (hcode : X.env.code = .ref c) (hn : nd.name = "<lambda>") (hq : nd.qual = X.env.qual ++ "<lambda>")
    (hm : (P, nd.qual) ∈ ts) (hu : ∀ p ∈ ts, p.1 = P → p.2 = nd.qual) (hT : Tabs ts H) (hdef : defaultsOf nd.params X.env = ([], [])) (hfree : ∀ y ∈ nd.scope.names, y.2 = .free → ∃ c, X.env.cells.lookup y.1 = some c)
    (h : ∀ (f c' : Addr) (H1 : Hp) (s' : Shared), Inv X pins σ H1 s' → ExtN H H1 → (∀ b, H1 b = none → H b = none) → Tabs ts H1 → H f = none → H1 f = some (LamO f nd e (cloFrom X.env.cells nd.scope.names []) c') → H1 c' = some (CodeO c' nd.qual) → Q (.ref f) s') :
    wpAny (model X.prog X.w) X.A (eval (.Lambda nd.params e nd.scope pos) X.env) Q E s := by
  obtain ⟨ps, hP, ht, told⟩ := hT _ hm
  have oP : s.heap.get? P = some { cls := .none, data := .fields ps } := I.hok P _ hP
  refine PySem.W.kla_eval hdef ?_
  rw [← hn, show X.env.qual ++ nd.name = nd.qual by rw [hq, hn]]
  have fin : ∀ {H2 : Hp} {s2 : Shared} {c' : Addr} {pm ctv : Value} {t' : Nat}, Inv X pins σ H2 s2 → ExtN H H2 → (∀ b, H2 b = none → H b = none) → Tabs ts H2 → H2 c' = some (CodeO c' nd.qual) →
      Q (.ref s2.heap.objs.size) { s2 with heap := s2.heap.push (PySem.W.kla_obj nd.name nd.qual nd.params e nd.scope (cloFrom X.env.cells nd.scope.names []) pm c' ctv), toks := t' } := by
    intro H2 s2 c' pm ctv t' I2 x2 n2 T2 k2
    have n0 : H2 s2.heap.objs.size = none := I2.hok.fresh (Nat.le_refl _)
    have old : ∀ b o, H2 b = some o → upd H2 s2.heap.objs.size (LamO s2.heap.objs.size nd e (cloFrom X.env.cells nd.scope.names []) c') b = some o := fun b o e => by rw [upd_ne (ne_of_none e n0)]; exact e
    have nH : H s2.heap.objs.size = none := n2 _ n0
    exact h _ c' _ _ (inv_lam I2) (x2.trans (ExtN.of old)) (fun b z => n2 b (upd_none z)) (T2.ext old) nH upd_same (old _ _ k2)
  have hbm := TB.bm.keeps I.bk
  cases hc : codeAmong pos ps.toList with
  | some cv =>
    obtain ⟨c', rfl, kc⟩ := told pos cv hc
    refine PySem.W.kla_makeFunctionHit (mg := X.mg) (closure_ok hfree) I.ok.glob (I.mod.glob.keeps I.bk) hcode (TB.code.keeps I.bk) oP ht hc hbm fun ctv h' tk hx _ => ?_
    exact fin (s2 := { s with heap := h', toks := tk }) (I.kept hx) (ExtN.refl H) (fun _ z => z) hT kc
  | none =>
    refine PySem.W.kla_makeFunction (mg := X.mg) (closure_ok hfree) I.ok.glob (I.mod.glob.keeps I.bk) hcode (TB.code.keeps I.bk) oP ht hc TB.gP hbm fun c' ctv h' tk hx hge hlt hrec htb => ?_
    obtain ⟨c2, oc, vs, t, ec, hoc, hd, hv⟩ := hrec
    cases ec
    have I2 := inv_table (t' := tk) (h' := h') (q := nd.qual) (more := #[rawInt pos.line, rawInt pos.col, .ref c']) I hP hx htb hge ⟨oc, vs, t, hoc, hd, hv⟩
    have nc : H c' = none := I.hok.fresh hge
    have cP : c' ≠ P := fun z => by rw [z, hP] at nc; cases nc
    have keepN : ExtN H (upd (upd H P (.tbl (ps ++ #[rawInt pos.line, rawInt pos.col, .ref c']))) c' (CodeO c' nd.qual)) := fun b o hb nt => by
      have b1 : b ≠ c' := ne_of_none hb nc
      have b2 : b ≠ P := fun z => by
        rw [z, hP] at hb
        exact nt ps (Option.some.inj hb).symm
      rw [upd_ne b1, upd_ne b2]
      exact hb
    refine fin (s2 := { s with heap := h', toks := tk }) I2 keepN (fun b z => upd_none (upd_none z)) (fun p hp => ?_) upd_same
    obtain ⟨ps', a1, a2, a3⟩ := hT p hp
    have a1' : p.1 ≠ c' := ne_of_none a1 nc
    by_cases hb : p.1 = P
    · have e2 : ps' = ps := by
        rw [hb, hP] at a1
        cases a1
        rfl
      subst e2
      refine ⟨_, by rw [upd_ne a1', hb, upd_same], ?_, fun pos2 cv hcv => ?_⟩
      · rw [Array.toList_append]
        exact PySem.TriplesOk_snoc _ _ _ _ ht
      · rw [Array.toList_append] at hcv
        rcases among_app _ ht hcv with z | z
        · obtain ⟨c3, e3, e4⟩ := a3 pos2 cv z
          exact ⟨c3, e3, keepN _ _ e4 codeO_ne⟩
        · exact ⟨c', z, by rw [hu p hp hb]; exact upd_same⟩
    · refine ⟨ps', by rw [upd_ne a1', upd_ne hb]; exact a1, a2, fun pos2 cv hcv => ?_⟩
      obtain ⟨c3, e3, e4⟩ := a3 pos2 cv hcv
      exact ⟨c3, e3, keepN _ _ e4 codeO_ne⟩
/-- the frame's own cells are no others' -/
theorem own_cell {y : Str} {b : Addr} (I : Inv X pins σ H s) (hf : X.fn y = true) (hc : X.env.cells.lookup y = some b) : H b = none ∧ X.base.get? b = none ∧ b ∉ frs X.stack ∧ ∃ o, s.heap.get? b = some o ∧ ∃ v, o.data = .cell v := by
  obtain ⟨v, o, ho, hd⟩ := I.cell y b hc
  have ab := I.ok.cab y b hf hc
  refine ⟨I.freeC y b hc, ?_, fun z => ?_, o, ho, v, hd⟩
  · cases e : X.base.get? b with
    | none => rfl
    | some ob => exact absurd (Heap.lt_size (I.ok.bs b ob e).1) (Nat.not_lt.mpr ab)
  · rcases List.mem_cons.mp (I.stkSub _ z) with e | e
    · obtain ⟨m, ⟨o2, es, ep, e2, d2, _⟩, _⟩ := I.loc
      rw [← e, ho] at e2
      cases e2
      rw [hd] at d2
      cases d2
    · obtain ⟨_, ob, e2, _⟩ := I.ok.funs.mem e
      exact absurd (Heap.lt_size e2) (Nat.not_lt.mpr ab)
def cloK (C : Cs) (g i : Nat) (caps : List D) (ds : List D) (w1 : World) : Out RV := if allL w1 = true then (match C.call g (ds.map .dat ++ [.wref w1.length]) (w1 ++ [.clo i caps]) with
    | .ok (.dat d) w2 => if w2.length = w1.length + 1 ∧ allL (w2.take w1.length) = true then .ok (.dat d) (w2.take w1.length) else .stuck
    | _ => .stuck)
  else .stuck
theorem codeO_cell {c : Addr} {q : Str} {o : Obj} {h : Heap} (ho : h.get? c = some o) (hd : ∃ v, o.data = .cell v) : CodeO c q ≠ CellO c o := fun e => by
  unfold CodeO CellO at e
  injection e with e
  have e2 := congrFun e h
  have z : ∃ (oc : Obj) (vs : Array Value) (t : Tok), h.get? c = some oc ∧ oc.data = .fields vs ∧ vs[1]? = some (.str q t) := by rw [e2]; exact ho
  obtain ⟨oc, vs, t, h1, h2, _⟩ := z
  rw [ho] at h1
  cases h1
  obtain ⟨v, hv⟩ := hd
  rw [hv] at h2
  cases h2
theorem run_clo {T : Tbs} {C : Cs} {n gi i : Nat} {g f c' : Addr} {fd : FuncData} {ps : List Str} {B : Base} {env : Ev} {w : World} {F : Hp} {O : Nat → Addr} {M : List Addr} {nd : ND} {cl : List (Str × Addr)} {js : List Nat} {caps ds : List D} {vs : List V} {us : List Value} {Q : VK} {bad : Exn → Ev → World → Prop}
    (I : Inv X pins σ H s) (sr : SR (Cx.tx X T) B env w σ H F O M) (fn : FnOk X.prog X.w X.K X.mg X.base (L2.CX X.prog X.w) n g fd ps (spD (Cx.tx X T) (C.call gi))) (hr : Room n X.A) (bd : Binds X.K fd ps []) (hf : H f = some (CloO f nd cl c')) (hc' : H c' = some (CodeO c' nd.qual)) (hfM : f ∉ M) (hfF : F f = none)
    (hnd : T.nd i = some nd) (cp : NdefX.Caps X cl nd.fr js) (hown : ∀ y ∈ nd.fr, X.fn y = true) (hkeys : ∀ y c, cl.lookup y = some c → y ∈ nd.fr) (hcaps : caps.length = nd.fr.length) (hcd : ∀ (t jj : Nat) (d : D), js[t]? = some jj → caps[t]? = some d → env[jj]? = some (.dat d))
    (r : Vals vs us) (pa : Paired (Rp X.K F) vs ds) (q : Pst (cloK C gi i caps ds w) (fun r w' => ∀ v H' F' M', SR (Cx.tx X T) B env w' σ H' F' O M' → Stp H F M H' F' M' → r.isAt (Cx.tx X T) H env O H' F' M' v → Q v H') bad) :
    wpAny (model X.prog X.w) X.A (call (.ref g) (us ++ [.ref f])) (EP X pins σ Q) X.xe s := by
  unfold cloK at q
  split at q
  case isFalse => exact q.elim
  rename_i hL
  split at q
  case h_2 => exact q.elim
  rename_i d w2 eo
  split at q
  case isFalse => exact q.elim
  rename_i hw2
  obtain ⟨hw2l, hw2a⟩ := hw2
  have CA := cells_of I cp
  have cellc : ∀ b ∈ cellsOf cl nd.fr, H b = none ∧ X.base.get? b = none ∧ b ∉ frs X.stack ∧ ∃ o, s.heap.get? b = some o ∧ ∃ v, o.data = .cell v := fun b hb => by
    obtain ⟨y, hy, e⟩ := List.mem_filterMap.mp hb
    exact own_cell I (hown y hy) (cp.sub y b e)
  have hmem : ∀ y c, cl.lookup y = some c → c ∈ cellsOf cl nd.fr := fun y c e => List.mem_filterMap.mpr ⟨y, hkeys y c e, e⟩
  generalize cellsOf cl nd.fr = cs at cellc hmem
  have hno : ∀ b ∈ cs, H b = none := fun b hb => (cellc b hb).1
  have old : Same H (addC cs s.heap H) := fun b o e => by rw [addC_out (fun hb => by rw [hno b hb] at e; cases e)]; exact e
  have hMl : M.length = w.length := by rw [sr.wr.at_.length]
  have hFc : ∀ b ∈ cs, F b = none := fun b hb => sr.fh.free (hno b hb)
  have at_cell : ∀ b ∈ cs, ∃ o, s.heap.get? b = some o ∧ (∃ v, o.data = .cell v) ∧ addC cs s.heap H b = some (CellO b o) := fun b hb => by
    obtain ⟨_, _, _, o, e, v, ev⟩ := cellc b hb
    exact ⟨o, e, ⟨v, ev⟩, by rw [addC_in hb, e]; rfl⟩
  have clo : CloAt (Cx.tx X T) F (addC cs s.heap H) f i caps := by
    refine ⟨nd, cl, c', hnd, old _ _ hf, old _ _ hc', hcaps, hkeys, CA.inj, fun t y d ey ed => ?_⟩
    obtain ⟨c, ec, hcv⟩ := CA.has t y ey
    have hj : (js.map fun j => X.N[j]?)[t]? = (nd.fr.map some)[t]? := by rw [cp.at_]
    rw [List.getElem?_map, List.getElem?_map, ey] at hj
    cases ej : js[t]? with
    | none => rw [ej] at hj; cases hj
    | some jj =>
      obtain ⟨v, ev, rv⟩ := sr.sl jj _ (hcd t jj d ej ed)
      have ew : (js.map (slotAt σ))[t]? = some (some v) := by rw [List.getElem?_map, ej, Option.map_some, slotAt_of ev]
      obtain ⟨u, ru, o, ho, hd⟩ := hcv v ew
      have hb := hmem y c ec
      exact ⟨c, o, u, v, ec, hFc c hb, by rw [addC_in hb, ho]; rfl, hd, ru, rv⟩
  have hMf : (M ++ [f])[w.length]? = some f := by rw [← hMl]; simp
  have hsp : spD (Cx.tx X T) (C.call gi) (vs ++ [.ref f]) (addC cs s.heap H) (fun v H' => (∀ b ∈ cs, H' b = addC cs s.heap H b) ∧ Q v (dropC cs H')) (fun _ _ _ => False) := by
    refine ⟨F, M ++ [f], ds.map .dat ++ [.wref w.length], w ++ [.clo i caps], sr.fh.trans old, sr.nt, ⟨?_, ?_⟩, sr.tb.ext old, Pr.append (dat_args pa) (.cons (show argAt (Cx.tx X T) F (M ++ [f]) (.ref f) (.wref w.length) from ⟨f, hMf, rfl⟩) .nil), ?_⟩
    · exact List.nodup_append.mpr ⟨sr.wr.nd, by simp, fun a ha b hb z => by
        rw [List.mem_singleton] at hb
        rw [z, hb] at ha
        exact hfM ha⟩
    · refine Pr.append (lists_keep hL sr.wr.at_ (Same.refl _) fun m vs h0 h1 => ⟨h0, old _ _ h1⟩) (.cons ⟨hfF, clo⟩ .nil)
    · rw [eo]
      intro v H' F' M' h1 h2 h3 h4 h5 h6
      have hM : M' = M ++ [f] := by
        obtain ⟨nw, en, _⟩ := h5.mw
        have hl := h3.at_.length
        rw [en, List.length_append, List.length_append, hMl, hw2l] at hl
        have : nw = [] := List.length_eq_zero_iff.mp (by have e1 : [f].length = 1 := rfl; omega)
        rw [en, this, List.append_nil]
      subst hM
      have kc : ∀ b ∈ cs, H' b = addC cs s.heap H b := fun b hb => by
        obtain ⟨o, _, _, e⟩ := at_cell b hb
        rw [e]
        exact h5.fr b _ (fun _ => ⟨_, rfl⟩) (fun ps z => by cases z) e
      have F'c : ∀ b ∈ cs, F' b = none := fun b hb => by
        obtain ⟨o, _, _, e⟩ := at_cell b hb
        exact h5.nf b (by rw [e]; simp) (hFc b hb)
      have out : ∀ {b : Addr} {o : HO}, H' b = some o → ((∀ φ, o ≠ .ext φ) ∨ ∃ q, o = CodeO b q) → dropC cs H' b = some o := fun {b o} e ho => by
        rw [dropC_out (fun hb => by
          obtain ⟨ob, e1, e2, e3⟩ := at_cell b hb
          rw [kc b hb, e3] at e
          rcases ho with z | ⟨q, z⟩
          · exact z _ (Option.some.inj e).symm
          · subst z
            exact codeO_cell e1 e2 (Option.some.inj e).symm)]
        exact e
      have stD : Stp H F M (dropC cs H') F' M := by
        refine ⟨h5.fg, fun a o hM ht e => ?_, fun a e z => ?_, fun a e e1 => ?_, [], by simp, by simp⟩
        · have ha : a ∉ cs := fun hb => by rw [hno a hb] at e; cases e
          rw [dropC_out ha]
          refine h5.fr a o (fun hm => ?_) ht (old _ _ e)
          rcases List.mem_append.mp hm with z | z
          · exact hM z
          · rw [List.mem_singleton.mp z, hf] at e
            obtain ⟨φ, eφ⟩ := cloO_ext f nd cl c'
            exact ⟨φ, by rw [← Option.some.inj e, eφ]⟩
        · have ha : a ∉ cs := fun hb => e (hno a hb)
          rw [dropC_out ha] at z
          exact h5.th a (by rw [addC_out ha]; exact e) z
        · have ha : a ∉ cs := fun hb => e (hno a hb)
          exact h5.nf a (by rw [addC_out ha]; exact e) e1
      have fhD : Same F' (dropC cs H') := fun b o e => by rw [dropC_out (fun hb => by rw [F'c b hb] at e; cases e)]; exact h1 b o e
      have wrD : WRel (Cx.tx X T) F' (dropC cs H') M (w2.take w.length) := by
        refine ⟨sr.wr.nd, ?_⟩
        have e := Pr.take w.length h3.at_
        rw [show (M ++ [f]).take w.length = M by rw [← hMl]; simp] at e
        exact lists_keep hw2a e (Same.refl _) fun m vs h0 h1 => ⟨h0, out h1 (.inl fun φ z => by cases z)⟩
      have tbD : TabsN T.tabs (dropC cs H') := fun pT hpT => by
        obtain ⟨ps, a1, a2, a3⟩ := h4 pT hpT
        refine ⟨ps, out a1 (.inl fun φ z => by cases z), a2, fun pos cv hcv => ?_⟩
        obtain ⟨c, e1, e2⟩ := a3 pos cv hcv
        exact ⟨c, e1, out e2 (.inr ⟨_, rfl⟩)⟩
      exact ⟨kc, q v _ _ _ (sr.step stD fhD h2 wrD tbD) stD h6⟩
  have hlen := fn.len _ _ _ _ hsp
  have rl : Vals (vs ++ [.ref f]) (us ++ [.ref f]) := r.append (.cons rfl .nil)
  have hb := bd s (us ++ [.ref f]) I.kIn (by rw [List.append_nil, ← rl.length]; exact hlen)
  rw [List.append_nil] at hb
  refine wpAny_call (codeAny_mono (fn.run X.A X.stack s (addC cs s.heap H) ⟨us ++ [.ref f], []⟩ (us ++ [.ref f]) (vs ++ [.ref f]) _ _ hr (env0_add I.env0 fun b hb => ?_) hb rl hsp) fun rr s' hq => ?_)
  · obtain ⟨a1, a2, a3, o, e, _⟩ := cellc b hb
    exact ⟨a1, a2, a3, o, e⟩
  · cases rr with
    | error e =>
      obtain ⟨_, _, _, _, _, _, _, _, _, _, _, _, f⟩ := hq
      exact f.elim
    | ok fl =>
      cases fl with
      | next => exact False.elim hq
      | brk => exact False.elim hq
      | cont => exact False.elim hq
      | ret u => exact I.after (ce_drop (fun b hb => by obtain ⟨a1, _, _, o, e, _⟩ := cellc b hb; exact ⟨a1, o, e⟩) (fun v H' h => h) hq)
end
/-! ### arguments that end in a closure -/
def capsOf (env : Ev) : List Nat → Option (List D)
  | [] => some []
  | j :: js => match env[j]?, capsOf env js with
    | some (.dat d), some ds => some (d :: ds)
    | _, _ => none
theorem capsOf_at {env : Ev} : ∀ {js : List Nat} {caps : List D}, capsOf env js = some caps → caps.length = js.length ∧ ∀ (t jj : Nat) (d : D), js[t]? = some jj → caps[t]? = some d → env[jj]? = some (.dat d)
  | [], caps, h => by
    cases h
    exact ⟨rfl, fun t jj d e _ => by simp at e⟩
  | j :: js, caps, h => by
    unfold capsOf at h
    split at h
    · rename_i d ds e1 e2
      cases h
      obtain ⟨l, q⟩ := capsOf_at e2
      refine ⟨by simp [l], fun t jj d' e3 e4 => ?_⟩
      cases t with
      | zero =>
        simp only [List.getElem?_cons_zero, Option.some.injEq] at e3 e4
        subst e3 e4
        exact e1
      | succ t =>
        simp only [List.getElem?_cons_succ] at e3 e4
        exact q t jj d' e3 e4
    · cases h
def dClo (C : Cs) (g i : Nat) (js : List Nat) (es : Exs) : Ex := fun env w => (es env w).bind fun rs w1 => match dats rs, capsOf env js with
  | some ds, some caps => cloK C g i caps ds w1
  | _, _ => .stuck
def tAL (X : Tx) (Wi : WX) (nd : ND) (cl : List (Str × Addr)) (Z : St → Hp → Hp → List Addr → Prop) (e : Exs) : TA := fun σ H Q => ∃ B env w F O M, SR X B env w σ H F O M ∧ Z σ H F M ∧
  Pst (e env w) (fun rs w' => ∀ vs f c' H' F' M', SR X B env w' σ H' F' O M' → Stp H F M H' F' M' → Paired (argAt X F' M') vs rs → H' f = some (CloO f nd cl c') → H' c' = some (CodeO c' nd.qual) → f ∉ M' → F' f = none → Q (vs ++ [.ref f]) H') (badX X B Wi)
def Lasts (Z : St → Hp → Hp → List Addr → Prop) : Prop := ∀ σ H F M H' F' M', Z σ H F M → Stp H F M H' F' M' → Z σ H' F' M'
abbrev JAL (X : Cx) (T : Tbs) (Wi : WX) (nd : ND) (cl : List (Str × Addr)) (Z : St → Hp → Hp → List Addr → Prop) (es : List Expr) (d : Exs) : Prop := PA X es (tAL (Cx.tx X T) Wi nd cl Z d)
section
variable {X : Cx} {T : Tbs} {Wi : WX} {nd : ND} {cl : List (Str × Addr)} {Z : St → Hp → Hp → List Addr → Prop} {e : Expr} {es : List Expr} {d : Ex} {ds : Exs}
theorem jal_cons (hZ : Lasts Z) (h : JE X T Wi e d) (hs : JAL X T Wi nd cl Z es ds) (hst : starEach (e :: es) X.env = (false, eval e X.env) :: starEach es X.env := by rfl) :
    JAL X T Wi nd cl Z (e :: es) (aCons d ds) := by
  refine (pa_cons h hs hst).impD fun σ H Q q => ?_
  obtain ⟨B, env, w, F, O, M, s, z, q⟩ := q
  refine ⟨B, env, w, F, O, M, s, q.bind.imp fun r w1 q1 x H1 F1 M1 s1 st1 r1 => ?_⟩
  split at q1
  · rename_i a ea
    obtain ⟨F2, s2, st2, a2⟩ := keep_arg s s1 st1 r1 ea
    refine ⟨B, env, w1, F2, O, M1, s2, hZ _ _ _ _ _ _ _ z st2, q1.bind.imp fun as w3 q3 vs f c' H3 F3 M3 s3 st3 p3 h1 h2 h3 h4 => ?_⟩
    exact q3 (x :: vs) f c' H3 F3 M3 s3 (st2.trans st3) (.cons (argAt_step a2 st3) p3) h1 h2 h3 h4
  · exact q1.elim
/-- a lambda, the last one -/
theorem jal_lam {ts : List (Addr × Str)} {c P : Addr} {b : Expr} {pos : Pos} (hts : T.tabs = ts.map fun p => (p.1, fun _ _ => p.2)) (TB : TabB X.base X.mg c P) (hcode : X.env.code = .ref c) (hnb : nd.body = .inr b) (hn : nd.name = "<lambda>") (hq : nd.qual = X.env.qual ++ "<lambda>")
    (hm : (P, nd.qual) ∈ ts) (hu : ∀ p ∈ ts, p.1 = P → p.2 = nd.qual) (hdef : defaultsOf nd.params X.env = ([], [])) (hfree : ∀ y ∈ nd.scope.names, y.2 = .free → X.env.scope.names.lookup y.1 = some .cell ∨ X.env.scope.names.lookup y.1 = some .free)
    (hst : starEach [.Lambda nd.params b nd.scope pos] X.env = [(false, eval (.Lambda nd.params b nd.scope pos) X.env)] := by rfl) :
    JAL X T Wi nd (cloFrom X.env.cells nd.scope.names []) (fun _ _ _ _ => True) [.Lambda nd.params b nd.scope pos] aNil := by
  have toS : ∀ {H : Hp}, TabsN T.tabs H → Tabs ts H := fun {H} h p hp => h (p.1, fun _ _ => p.2) (by rw [hts]; exact List.mem_map.mpr ⟨p, hp, rfl⟩)
  have ofS : ∀ {H : Hp}, Tabs ts H → TabsN T.tabs H := fun {H} h pT hp => by
    rw [hts] at hp
    obtain ⟨p, hp2, rfl⟩ := List.mem_map.mp hp
    exact h p hp2
  have pe : PE X (.Lambda nd.params b nd.scope pos) (fun σ H Q => Tabs ts H ∧ ∀ (f c' : Addr) (H1 : Hp), ExtN H H1 → (∀ b, H1 b = none → H b = none) → Tabs ts H1 → H f = none → H1 f = some (LamO f nd b (cloFrom X.env.cells nd.scope.names []) c') → H1 c' = some (CodeO c' nd.qual) → Q (.ref f) H1) :=
    ⟨fun pins s σ H Q I h => lam_mk I TB hcode hn hq hm hu h.1 hdef (fun y hy e => (hfree y hy e).elim (fun z => I.ok.has _ (.inl z)) fun z => I.ok.has _ (.inr z)) fun f c' H1 s' I1 x1 n1 t1 f0 f1 k1 => ⟨.ref f, H1, I1, rfl, h.2 f c' H1 x1 n1 t1 f0 f1 k1⟩⟩
  refine (pa_cons pe pa_nil hst).impD fun σ H Q q => ?_
  obtain ⟨B, env, w, F, O, M, s, _, q⟩ := q
  refine ⟨toS s.tb, fun f c' H1 x1 n1 t1 f0 f1 k1 => ?_⟩
  have ke : KeepE H H1 := fun a φ e => x1 a _ e fun ps z => by cases z
  have st : Stp H F M H1 F M := ⟨Same.refl _, fun a o _ ht e => x1 a o e ht, fun a e z => e (n1 a z), fun _ _ z => z, [], by simp, by simp⟩
  have fh : Same F H1 := fun b o e => x1 b o (s.fh b o e) fun ps z => by subst z; exact s.nt b ps e
  have wr : WRel (Cx.tx X T) F H1 M w := ⟨s.wr.nd, Paired.mapP s.wr.at_ fun m o h => ⟨h.1, by
    obtain ⟨h0, h1⟩ := h
    cases o with
    | lst l =>
      obtain ⟨z, vs, e1, e2⟩ := h1
      exact ⟨z, vs, x1 m _ e1 (fun ps z => by cases z), e2⟩
    | clo i caps => exact CloAt.keep h1 ke (Same.refl _) fun _ _ z => z⟩⟩
  have s1 := s.step st fh s.nt wr (ofS t1)
  have hM : f ∉ M := fun z => s.wr.there z f0
  exact q [] f c' H1 F M s1 st .nil (by rw [f1]; unfold CloO; rw [hnb]) k1 hM (s.fh.free f0)
theorem vals_snoc : ∀ {vs : List V} {x : V} {us : List Value}, Vals (vs ++ [x]) us → ∃ us0 u, us = us0 ++ [u] ∧ Vals vs us0 ∧ L2.RelV x u
  | [], x, us, h => by
    cases h with
    | cons r t => cases t; exact ⟨[], _, rfl, .nil, r⟩
  | v :: vs, x, us, h => by
    cases h with
    | cons r t =>
      obtain ⟨us0, u, e, h1, h2⟩ := vals_snoc t
      subst e
      exact ⟨_ :: us0, u, rfl, .cons r h1, h2⟩
/-- f(.., closure): the state ahead has Z too -/
def tCloZ (X : Tx) (Wi : WX) (Z : St → Hp → Hp → List Addr → Prop) (e : Ex) : TE := fun σ H Q => ∃ B env w F O M, SR X B env w σ H F O M ∧ Z σ H F M ∧
  Pst (e env w) (fun r w' => ∀ v H' F' M', SR X B env w' σ H' F' O M' → Stp H F M H' F' M' → r.isAt X H env O H' F' M' v → Q v H') (badX X B Wi)
theorem pe_clo {C : Cs} {n gi i : Nat} {x : Str} {js : List Nat} {p pos : Pos} (c : Cal X T n C x gi) (hr : Room n X.A) (hg : Gl X x) (h : JAL X T Wi nd cl Z (e :: es) ds) (hnd : T.nd i = some nd) (hcl : cl = cloFrom X.env.cells nd.scope.names [])
    (hfree : ∀ y ∈ nd.scope.names, y.2 = .free → X.env.scope.names.lookup y.1 = some .cell ∨ X.env.scope.names.lookup y.1 = some .free) (hfr : ∀ y ∈ nd.fr, (y, NameKind.free) ∈ nd.scope.names) (hfr2 : ∀ y, (y, NameKind.free) ∈ nd.scope.names → y ∈ nd.fr) (hjs : js.map (fun j => X.N[j]?) = nd.fr.map some) (hown : ∀ y ∈ nd.fr, X.fn y = true)
    (hdb : (x == ("__debug__" : Str)) = false := by decide) (he : starEach (e :: es) X.env = (false, eval e X.env) :: starEach es X.env := by rfl) (hpl : (backTo pos (starEach es X.env)).any (·.1) = false := by rfl) :
    PE X (.Call (.Name x p) (e :: es) [] pos) (tCloZ (Cx.tx X T) Wi Z (dClo C gi i js ds)) := by
  subst hcl
  obtain ⟨g, fd, ps, hm, hk, hb, fn⟩ := c.ex
  refine ⟨fun pins s σ H Q I q => ?_⟩
  obtain ⟨B, env, w, F, O, M, sr, hZ, q⟩ := q
  have hfreeC : ∀ y ∈ nd.scope.names, y.2 = .free → ∃ c, X.env.cells.lookup y.1 = some c := fun y hy e => (hfree y hy e).elim (fun z => I.ok.has _ (.inl z)) fun z => I.ok.has _ (.inr z)
  have hkeys : ∀ y c, (cloFrom X.env.cells nd.scope.names []).lookup y = some c → y ∈ nd.fr := fun y c e => by
    rcases cloFrom_mem (PySem.mem_of_lookup e) with hm | ⟨h1, _⟩
    · cases hm
    · exact hfr2 y h1
  have cp : NdefX.Caps X (cloFrom X.env.cells nd.scope.names []) nd.fr js := NdefX.Caps.made I.ok hfree hfr hjs
  have rd : tAL (Cx.tx X T) Wi nd (cloFrom X.env.cells nd.scope.names []) Z ds σ H (fun vs' H1 => ∃ vs f c' rs w1 F1 M1, vs' = vs ++ [.ref f] ∧ SR (Cx.tx X T) B env w1 σ H1 F1 O M1 ∧ Stp H F M H1 F1 M1 ∧ Paired (argAt (Cx.tx X T) F1 M1) vs rs ∧ H1 f = some (CloO f nd (cloFrom X.env.cells nd.scope.names []) c') ∧ H1 c' = some (CodeO c' nd.qual) ∧ f ∉ M1 ∧ F1 f = none ∧
      Pst (match dats rs, capsOf env js with
        | some ds, some caps => cloK C gi i caps ds w1
        | _, _ => .stuck) (fun r w' => ∀ v H' F' M', SR (Cx.tx X T) B env w' σ H' F' O M' → Stp H F M H' F' M' → r.isAt (Cx.tx X T) H env O H' F' M' v → Q v H') (badX (Cx.tx X T) B Wi)) :=
    ⟨B, env, w, F, O, M, sr, hZ, q.bind.imp fun rs w1 q1 vs f c' H1 F1 M1 s1 st1 pa h1 h2 h3 h4 => ⟨vs, f, c', rs, w1, F1, M1, rfl, s1, st1, pa, h1, h2, h3, h4, q1⟩⟩
  refine wpAny_Call_Name_kw (ld_glob I hg hm ?_ hdb)
  refine PySem.W.callWith_K (h₀ := X.base) I.ok.mod.kin hk (thn (h.run pos pins s σ H _ I rd) fun us s1 ⟨vs', H1, I1, r, q⟩ => ⟨I1.kIn, ?_⟩) he hpl
  obtain ⟨vs, f, c', rs, w1, F1, M1, evs, sr1, st1, pa, h1, h2, h3, h4, q⟩ := q
  subst evs
  obtain ⟨us0, u, eus, r0, ru⟩ := vals_snoc r
  subst eus
  obtain rfl : u = Value.ref f := ru
  split at q
  case h_2 => exact q.elim
  rename_i dsv caps e1 e2
  obtain ⟨cl1, cl2⟩ := capsOf_at e2
  have hjl : js.length = nd.fr.length := by
    have := congrArg List.length hjs
    simpa using this
  show wpAny _ _ (call (.ref g) (us0 ++ [.ref f])) _ _ _
  refine run_clo I1 sr1 fn hr hb h1 h2 h3 h4 hnd cp hown hkeys (by rw [cl1, hjl]) cl2 r0 (dats_at pa e1) (q.mono (fun r w' hq v H' F' M' s2 st2 ra => hq v H' F' M' s2 (st1.trans st2) (RV.since ra st1.th)) fun x env' w' z => z)
theorem je_clo {C : Cs} {n gi i : Nat} {x : Str} {js : List Nat} {p pos : Pos} (c : Cal X T n C x gi) (hr : Room n X.A) (hg : Gl X x) (h : JAL X T Wi nd cl (fun _ _ _ _ => True) (e :: es) ds) (hnd : T.nd i = some nd) (hcl : cl = cloFrom X.env.cells nd.scope.names [])
    (hfree : ∀ y ∈ nd.scope.names, y.2 = .free → X.env.scope.names.lookup y.1 = some .cell ∨ X.env.scope.names.lookup y.1 = some .free) (hfr : ∀ y ∈ nd.fr, (y, NameKind.free) ∈ nd.scope.names) (hfr2 : ∀ y, (y, NameKind.free) ∈ nd.scope.names → y ∈ nd.fr) (hjs : js.map (fun j => X.N[j]?) = nd.fr.map some) (hown : ∀ y ∈ nd.fr, X.fn y = true)
    (hdb : (x == ("__debug__" : Str)) = false := by decide) (he : starEach (e :: es) X.env = (false, eval e X.env) :: starEach es X.env := by rfl) (hpl : (backTo pos (starEach es X.env)).any (·.1) = false := by rfl) :
    JE X T Wi (.Call (.Name x p) (e :: es) [] pos) (dClo C gi i js ds) :=
  (pe_clo c hr hg h hnd hcl hfree hfr hfr2 hjs hown hdb he hpl).impD fun σ H Q ⟨B, env, w, F, O, M, s, q⟩ => ⟨B, env, w, F, O, M, s, trivial, q⟩
/-! ### a def within a def, handed on by the return behind it -/
def ZAt (i : Nat) (nd : ND) (cl : List (Str × Addr)) : St → Hp → Hp → List Addr → Prop := fun σ H F M => ∃ f c', σ[i]? = some (some (.ref f)) ∧ H f = some (CloO f nd cl c') ∧ H c' = some (CodeO c' nd.qual) ∧ f ∉ M ∧ F f = none
theorem zat_lasts {i : Nat} : Lasts (ZAt i nd cl) := fun σ H F M H' F' M' ⟨f, c', h1, h2, h3, h4, h5⟩ st => by
  obtain ⟨φ, eφ⟩ := cloO_ext f nd cl c'
  have n2 : H f ≠ none := by rw [h2]; simp
  exact ⟨f, c', h1, st.fr f _ (fun _ => ⟨φ, eφ⟩) (fun ps z => by rw [eφ] at z; cases z) h2, st.fr c' _ (fun _ => ⟨_, rfl⟩) (fun ps z => by cases z) h3, notM' st h4 n2, st.nf f n2 h5⟩
theorem jal_name {i : Nat} {y : Str} {pos : Pos} (h : PE X (.Name y pos) (tVar i)) (hst : starEach [.Name y pos] X.env = [(false, eval (.Name y pos) X.env)] := by rfl) : JAL X T Wi nd cl (ZAt i nd cl) [.Name y pos] aNil := by
  refine (pa_cons h pa_nil hst).impD fun σ H Q q => ?_
  obtain ⟨B, env, w, F, O, M, s, ⟨f, c', h1, h2, h3, h4, h5⟩, q⟩ := q
  exact ⟨.ref f, h1, q [] f c' H F M s .refl .nil h2 h3 h4 h5⟩
theorem SR.setAny {X : Tx} {B : Base} {env : Ev} {w : World} {σ : St} {H F : Hp} {O : Nat → Addr} {M : List Addr} {i : Nat} {x : Option V} (s : SR X B env w σ H F O M) : SR X B (env.set i .un) w (σ.set i x) H F O M := by
  have u := s.setUn (i := i)
  have back : ∀ {j : Nat} {l : List D}, (env.set i .un)[j]? = some (.own l) → i ≠ j := fun {j l} e z => by
    subst z
    have hlt : i < env.length := by simpa using (List.getElem?_eq_some_iff.mp e).1
    rw [List.getElem?_set_self hlt] at e
    cases e
  refine ⟨by simpa using s.len, s.fh, s.nt, s.st, s.wr, s.tb, fun j sl e => ?_, u.inj⟩
  by_cases hj : i = j
  · subst hj
    have hlt : i < env.length := by simpa using (List.getElem?_eq_some_iff.mp e).1
    rw [List.getElem?_set_self hlt] at e
    cases e
    trivial
  · have q := u.sl j sl e
    rw [List.getElem?_set_ne hj] at q ⊢
    exact q
def sDefRet (i : Nat) (e : Ex) : Sd := fun env w => if i < env.length then (e (env.set i .un) w).bind fun r w1 => .ok (.rt r.ret) w1 else .stuck
theorem js_defret {st : Stmt} {nm : Nat → Nat → Str} {c P : Addr} {name : Str} {pos rpos : Pos} {i : Nat} {ce : Expr} {de : Ex} (hst : st = .FunctionDef name (C8.fnArgs st) (C8.fnBody st) [] none [] (C8.fnScope st) none name pos) (TB : TabB X.base X.mg c P) (hcode : X.env.code = .ref c) (hm : (P, nm) ∈ T.tabs) (hn : nm pos.line pos.col = X.env.qual ++ name)
    (hu : ∀ p ∈ T.tabs, p.1 = P → p.2 = nm) (hfree : ∀ y ∈ (C8.fnScope st).names, y.2 = .free → X.env.scope.names.lookup y.1 = some .cell ∨ X.env.scope.names.lookup y.1 = some .free) (hd0 : (C8.fnArgs st).defaults = []) (hk0 : (C8.fnArgs st).kw_defaults = []) (ha : annTrees (C8.fnArgs st) none X.env = [])
    (hN : X.N.Nodup) (hi : X.N[i]? = some name) (hx : Loc X.env.scope name) (hf : X.fn name = true ∨ X.env.scope.names.lookup name = some .local)
    (hnd : nd = ⟨name, X.env.qual ++ name, C8.fnArgs st, .inl (C8.fnBody st), C8.fnScope st, nd.ps, nd.fr⟩) (hcl : cl = cloFrom X.env.cells nd.scope.names []) (hce : PE X ce (tCloZ (Cx.tx X T) Wi (ZAt i nd cl) de)) :
    JSs X T Wi [st, .Return (some ce) rpos] (sDefRet i de) := by
  refine (pss_cons (ps_ndefMS hst TB hcode hm hn hu hfree hd0 hk0 ha hN hi hx hf) (pss_one (ps_ret hce))).impD fun D σ H q => ?_
  obtain ⟨B, env, w, F, O, M, s, q⟩ := q
  unfold sDefRet at q
  split at q
  case isFalse => exact q.elim
  rename_i hie
  refine ⟨s.tb, fun f c' H1 x1 n1 t1 f0 f1 k1 => ?_⟩
  have ke : KeepE H H1 := fun a φ e => x1 a _ e fun ps z => by cases z
  have st : Stp H F M H1 F M := ⟨Same.refl _, fun a o _ ht e => x1 a o e ht, fun a e z => e (n1 a z), fun _ _ z => z, [], by simp, by simp⟩
  have fh : Same F H1 := fun b o e => x1 b o (s.fh b o e) fun ps z => by subst z; exact s.nt b ps e
  have wr : WRel (Cx.tx X T) F H1 M w := ⟨s.wr.nd, Paired.mapP s.wr.at_ fun m o h => ⟨h.1, by
    obtain ⟨h0, h1⟩ := h
    cases o with
    | lst l =>
      obtain ⟨z, vs, e1, e2⟩ := h1
      exact ⟨z, vs, x1 m _ e1 (fun ps z => by cases z), e2⟩
    | clo i caps => exact CloAt.keep h1 ke (Same.refl _) fun _ _ z => z⟩⟩
  have s1 := (s.step st fh s.nt wr t1).setAny (i := i) (x := some (.ref f))
  have hM : f ∉ M := fun z => s.wr.there z f0
  have hi2 : i < σ.length := by rw [s.len]; exact hie
  refine ⟨B, _, w, F, O, M, s1, ⟨f, c', by rw [List.getElem?_set_self hi2], ?_, ?_, hM, s.fh.free f0⟩, q.bind.imp fun r w1 q1 v H2 F2 M2 s2 st2 r2 => q1 v H2 F2 M2 (ret_at s1 s2 r2)⟩
  · rw [f1, hcl]
    unfold CloO
    rw [hnd]
    rfl
  · rw [k1, hnd]
    rfl
end
end Dl
/-! DlL: extend, texts walked, sorted. -/
namespace Dl
open PySem PySem.Spec PyProof.Rows L2 NdefX
section
variable {X : Cx} {T : Tbs} {Wi : WX} {pos : Pos} {e : Expr} {d : Ex}
def sExtend (i : Nat) (e : Ex) : Sd := fun env w => match env[i]? with
  | some (.own l) => (e env w).bind fun r w1 => (match r with
    | .fresh zs => if l.length + zs.length ≤ 16777216 then .ok (.nx (env.set i (.own (l ++ zs)))) w1 else .stuck
    | _ => .stuck)
  | _ => .stuck
theorem js_extend {i : Nat} {x : Str} {p1 p2 p3 : Pos} (h0 : PE X (.Name x p1) (tVar i)) (h : JE X T Wi e d)
    (hs : swapsWith (.Call (.Attribute (.Name x p1) "extend" p2) [e] [] p3) none pos.line X.env = pure false := by rfl)
    (hbase : attributeBase (.Name x p1) "extend" X.env (eval (.Name x p1) X.env) = eval (.Name x p1) X.env := by rfl)
    (hfew : ((backTo p3 (starEach (e :: []) X.env)).all (fun x => !x.1) && (backToKw p3 (keywordEach [] X.env)).all (fun x => x.1.isSome)
      && decide ((e :: []).length + ([] : List Keyword).length + (if ([] : List Keyword).isEmpty then 0 else 1) < 30)) = true := by rfl)
    (hline : (p2.endLine == p3.line) = true := by rfl) (hst : starEach (e :: []) X.env = (false, eval e X.env) :: starEach [] X.env := by rfl) (hplain : (backTo p3 (starEach [] X.env)).any (·.1) = false := by rfl) :
    JS X T Wi (.Expr (.Call (.Attribute (.Name x p1) "extend" p2) [e] [] p3) pos) (sExtend i d) := by
  refine (ps_expr (pe_bm PySem.F.plainAttrs_list PySem.F.slot_list_extend PySem.F.type_list_extend mt_extend h0 (pa_cons h pa_nil hst) hbase hfew hline hst hplain) hs).impD fun D σ H q => ?_
  obtain ⟨B, env, w, F, O, M, s, q⟩ := q
  unfold sExtend at q
  split at q
  · rename_i l el
    obtain ⟨e1, e2, e3, e4, ez, vs, e5, e6⟩ := s.sl i _ el
    refine ⟨.ref (O i), e1, .inl ⟨rfl, vs, SqL.of e5⟩, B, env, w, F, O, M, s, q.bind.imp fun r w1 q1 v H1 F1 M1 s1 st1 r1 => ?_⟩
    split at q1
    · rename_i zs
      split at q1
      · rename_i hz
        obtain ⟨f0, p, us, rfl, f1, f2, f3, f4, f5, f6⟩ := fresh_out (r := RV.dat .non) s r1
        obtain ⟨g1, g2, g3, g4, gz, ws, g5, g6⟩ := s1.sl i _ el
        have hwl : ws.length = l.length := g6.length
        have hul : us.length = zs.length := f5.length
        refine ⟨O i, p, ws, us, rfl, rfl, g5, f4, by rw [hwl, hul, sizeLine_eq]; exact hz, ?_⟩
        exact q1 σ _ F1 O M1 (s1.updOwn el (by rw [List.length_append, sizeLine_eq]; exact hz) (Pr.append g6 f5)) st1.fg
      · exact q1.elim
    · exact q1.elim
  · exact q.elim
/-! ### a text's signs, one by one -/
def chs (z : Str) : List D := z.cps.toList.map fun c => .str ⟨#[c]⟩
def iTxt (e : Ex) : Src := fun env w => (e env w).bind fun r w1 => match r with
  | .dat (.str z) => .ok (chs z) w1
  | _ => .stuck
theorem walk_txt {K : PySem.W.Frag} {F : Hp} {z : Str} (h : SOk z) : Walk K (chs z) F (Its z) := by
  have hl : (chs z).length = z.cps.size := by simp [chs]
  refine ⟨by rw [hl]; exact h.2, fun i H F1 e1 e2 hi => by show i < z.cps.size; rw [← hl]; exact hi, fun i H F1 e1 e2 hi => by show z.cps.size ≤ i; rw [← hl]; exact hi, fun i H F1 x H' d e1 e2 nt y hd => ?_⟩
  obtain ⟨rfl, c, ec, rfl⟩ := y
  have hd : ((z.cps.toList.map fun c => D.str ⟨#[c]⟩) : List D)[i]? = some d := hd
  rw [List.getElem?_map, Array.getElem?_toList, ec] at hd
  simp only [Option.map_some, Option.some.injEq] at hd
  subst hd
  have hm : c ∈ z.cps.toList := List.mem_of_getElem? (by rw [Array.getElem?_toList]; exact ec)
  exact ⟨F1, Xt.refl e2 nt, .str _ (sOk_mem h hm)⟩
theorem ji_txt {tg : Expr} (h : JE X T Wi e d) : JI X T Wi tg e (iTxt d) := by
  refine (pi_str h).impD fun σ H Q q => ?_
  obtain ⟨B, env, w, F, O, M, s, q⟩ := q
  refine ⟨B, env, w, F, O, M, s, q.bind.imp fun r w1 q1 v H1 F1 M1 s1 st1 r1 => ?_⟩
  split at q1
  · rename_i z
    cases r1 with
    | str _ ok => exact ⟨z, rfl, q1 _ H1 F1 M1 s1 st1 (walk_txt ok)⟩
  · exact q1.elim
end
/-! ### a def that makes closures -/
theorem def_okM {P : Program} {w : PySem.World} {K : PySem.W.Frag} {mg : Str → Option Value} {base : Heap} {T : Tbs} {x qual : Str} {params : Arguments} {body : List Stmt} {scope : Scope} {f Pt : Addr} {fd : FuncData} {N ps : List Str} {tbl : Nat → Option DefB} {n i : Nat} {bd : Cs → Sd}
    (F : FunD K x qual params body scope [] [] f fd) (hm : ∃ c, fd.code = .ref c ∧ LamX.TabB base mg c Pt) (S : FnScope N ps scope) (ht : tbl i = some ⟨ps.length, N.length, bd⟩)
    (hb : ∀ (c : Addr) (A : Around) (outer : List Env) (s : Shared) (H : Hp) (E : XK), LamX.TabB base mg c Pt → Room n (A.deeper (envOfC qual scope s.heap.objs.size f (.ref c))) →
      JSs (cxOf (L2.CX P w) P w K mg base N qual scope f (.ref c) A outer s H E) T (fun cls d _ H => E cls d H) body (bd (Den tbl n))) :
    FnOk P w K mg base (L2.CX P w) (n + 1) f fd ps (spD ⟨K, mg, T⟩ ((Den tbl (n + 1)).call i)) := by
  have hNl : ps.length ≤ N.length := by
    have := congrArg List.length S.pre
    rw [List.length_take] at this
    omega
  have hlen : ∀ vs H Q E, spD ⟨K, mg, T⟩ ((Den tbl (n + 1)).call i) vs H Q E → vs.length = ps.length := by
    intro vs H Q E h
    obtain ⟨F', M, args, w', fh, nt, wr, tb, p, q⟩ := h
    rw [den_succ ht] at q
    unfold runB at q
    split at q
    · rename_i hl; rw [p.length]; exact hl
    · exact q.elim
  obtain ⟨oc, od, dV, kV, doc, pm, an, cdv, ct, osl, rfl, lk, hcd, _, _⟩ := F.ex
  obtain ⟨c, ec, TB⟩ := hm
  have ec : cdv = .ref c := ec
  subst ec
  refine fn_of lk hcd S hlen fun A outer s H vs Q E hr h => ⟨_, hb c A outer s H E TB hr, ?_⟩
  obtain ⟨F', M, args, w', fh, nt, wr, tb, p, q⟩ := h
  rw [den_succ ht] at q
  unfold runB at q
  split at q
  · rename_i hl
    have hl : args.length = ps.length := hl
    refine ⟨⟨H, F', M⟩, _, w', F', _, M, sr_start fh nt wr tb p (by omega), ?_⟩
    have q : Pst (endR (bd (Den tbl n) (initE args N.length) w')) _ _ := q
    cases eo : bd (Den tbl n) (initE args N.length) w' with
    | stuck => rw [eo] at q; exact q.elim
    | exc x' e' w2 =>
      rw [eo] at q
      intro cls d σ' H' F2 O2 M2 s2 hx
      exact q cls d H' F2 M2 s2.fh s2.nt s2.wr s2.tb s2.st hx
    | ok fl w2 =>
      rw [eo] at q
      cases fl with
      | rt r =>
        intro v H' F2 M2 ra
        exact q v H' F2 M2 ra.fh ra.nt ra.wr ra.tb ra.st ra.at_
      | nx e =>
        intro σ' H' F2 O2 M2 s2 _
        exact q .non H' F2 M2 s2.fh s2.nt s2.wr s2.tb s2.st .non
      | bk e => exact q.elim
      | ct e => exact q.elim
  · exact q.elim
end Dl
/-! DlS: sorted of texts. -/
namespace Dl
open PySem PySem.Spec PyProof.Rows L2 NdefX
def leS (a b : Str) : Bool := !ltCps b.cps.toList a.cps.toList
def sortS (l : List Str) : List Str := l.mergeSort leS
theorem leS_iff {a b : Str} : leS a b = true ↔ ¬ (b.cps.toList < a.cps.toList) := by
  unfold leS
  rw [ltCps_eq]
  simp
theorem leS_trans (a b c : Str) (h1 : leS a b = true) (h2 : leS b c = true) : leS a c = true := by
  rw [leS_iff] at *
  have h1 : a.cps.toList ≤ b.cps.toList := List.not_lt.mp h1
  have h2 : b.cps.toList ≤ c.cps.toList := List.not_lt.mp h2
  exact List.not_lt.mpr (List.le_trans h1 h2)
theorem leS_total (a b : Str) : (leS a b || leS b a) = true := by
  rw [Bool.or_eq_true, leS_iff, leS_iff]
  rcases List.le_total a.cps.toList b.cps.toList with h | h
  · exact .inl (List.not_lt.mpr h)
  · exact .inr (List.not_lt.mpr h)
theorem leS_anti (a b : Str) (h1 : leS a b = true) (h2 : leS b a = true) : a = b := by
  rw [leS_iff] at *
  have e := List.le_antisymm (List.not_lt.mp h1) (List.not_lt.mp h2)
  obtain ⟨⟨x⟩⟩ := a
  obtain ⟨⟨y⟩⟩ := b
  simp only at e
  rw [e]
theorem rising_pw : ∀ (r : List Str) (p : Str), risingS p r = true → (p :: r).Pairwise (fun a b => leS a b = true)
  | [], p, _ => by simp
  | x :: r, p, h => by
    have h : (!ltCps x.cps.toList p.cps.toList && risingS x r) = true := h
    rw [Bool.and_eq_true] at h
    have ih := rising_pw r x h.2
    have px : leS p x = true := h.1
    refine List.pairwise_cons.mpr ⟨fun y hy => ?_, ih⟩
    rcases List.mem_cons.mp hy with rfl | hy
    · exact px
    · exact leS_trans _ _ _ px ((List.pairwise_cons.mp ih).1 y hy)
theorem sortedS_pw {l : List Str} (h : sortedS l = true) : l.Pairwise (fun a b => leS a b = true) := by
  cases l with
  | nil => exact .nil
  | cons x r => exact rising_pw r x h
theorem sortS_of {ys xs : List Str} (p : ys.Perm xs) (h : sortedS ys = true) : ys = sortS xs := by
  refine List.Perm.eq_of_pairwise (le := fun a b => leS a b = true) (fun a b _ _ => leS_anti a b) (sortedS_pw h) ?_ (p.trans (List.mergeSort_perm xs leS).symm)
  exact List.pairwise_mergeSort leS_trans leS_total xs
def strsOf : List D → Option (List Str)
  | [] => some []
  | .str s :: l => (strsOf l).map (s :: ·)
  | _ :: _ => none
theorem strs_at {K : PySem.W.Frag} {F : Hp} : ∀ {vs : List V} {l : List D} {ss : List Str}, Paired (Rp K F) vs l → strsOf l = some ss → vs = ss.map V.str ∧ (∀ s ∈ ss, SOk s) ∧ l = ss.map D.str
  | _, _, _, .nil, e => by cases e; exact ⟨rfl, by simp, rfl⟩
  | v :: vs, d :: l, ss, .cons h t, e => by
    cases d <;> first | (simp only [strsOf] at e; cases e; done) | skip
    rename_i z
    simp only [strsOf] at e
    cases q : strsOf l with
    | none => rw [q] at e; cases e
    | some zs =>
      rw [q] at e
      simp only [Option.map_some, Option.some.injEq] at e; subst e
      obtain ⟨h1, h2, h3⟩ := strs_at t q
      cases h with
      | str _ ok =>
        rw [h1, h3]
        refine ⟨rfl, fun s hs => ?_, rfl⟩
        rcases List.mem_cons.mp hs with rfl | hs
        · exact ok
        · exact h2 s hs
theorem strs_rp {K : PySem.W.Frag} {F : Hp} : ∀ {ss : List Str}, (∀ s ∈ ss, SOk s) → Paired (Rp K F) (ss.map V.str) (ss.map D.str)
  | [], _ => .nil
  | s :: ss, h => .cons (.str s (h s (.head _))) (strs_rp fun z hz => h z (.tail _ hz))
def cSortS : List D → Option RV
  | [.lst l] => (match strsOf l with
    | some ss => if ss.length < 64 then some (.fresh ((sortS ss).map .str)) else none
    | none => none)
  | _ => none
section
variable {X : Cx}
theorem cs_sortS : CaS X (.builtin "sorted") cSortS := by
  refine ⟨_, cr_sortedS, fun xs ds rv H F fh nt p h Q q => ?_⟩
  cases p with
  | nil => cases h
  | @cons x d _ _ r t =>
    cases t with
    | cons _ _ => cases d <;> cases h
    | nil =>
      cases d <;> first | (cases h; done) | skip
      rename_i l
      simp only [cSortS] at h
      obtain ⟨hz, a, vs, rfl, hs, pp⟩ := r
      cases e : strsOf l with
      | none => rw [e] at h; cases h
      | some ss =>
        rw [e] at h
        simp only at h
        split at h
        · rename_i h64
          cases h
          obtain ⟨rfl, ok, _⟩ := strs_at pp e
          refine ⟨a, ss, rfl, hs, h64, fun ys p perm so hp => ?_⟩
          have ey := sortS_of perm so
          subst ey
          have pm : (sortS ss).Perm ss := perm
          refine new_lst fh nt q hp ?_ (strs_rp fun s hs => ok s (pm.mem_iff.mp hs))
          rw [List.length_map, pm.length_eq, sizeLine_eq]
          omega
        · cases h
end
end Dl
/-! DlU: list({key: True for ..}): the keys, each once. -/
namespace Dl
open PySem PySem.Spec PyProof.Rows L2 NdefX
def keysAdd (es : List Str) (k : Str) : List Str := if k ∈ es then es else es ++ [k]
def entsOf (ks : List Str) : List (Key × V) := ks.map fun k => (Sum.inr k, V.bl true)
theorem put_ents {ks : List Str} {k : Str} : putK (entsOf ks) (Sum.inr k) (V.bl true) = entsOf (keysAdd ks k) := by
  unfold putK keysAdd
  have e : ((entsOf ks).any fun kv => decide (kv.1 = Sum.inr k)) = decide (k ∈ ks) := by
    unfold entsOf
    rw [List.any_map]
    induction ks with
    | nil => simp
    | cons z zs ih =>
      rw [List.any_cons, ih]
      simp [eq_comm]
  rw [e]
  by_cases h : k ∈ ks
  · rw [if_pos h, if_pos (by simpa using h)]
    unfold entsOf
    rw [List.map_map]
    refine List.map_congr_left fun z hz => ?_
    show (if (Sum.inr z : Key) = Sum.inr k then ((Sum.inr z : Key), V.bl true) else (Sum.inr z, V.bl true)) = _
    split <;> rfl
  · rw [if_neg h, if_neg (by simpa using h)]
    unfold entsOf
    rw [List.map_append]
    rfl
theorem keysAdd_len {ks : List Str} {k : Str} : (keysAdd ks k).length ≤ ks.length + 1 := by
  unfold keysAdd
  split
  · omega
  · simp
theorem tab_updK {T : List NTab} {H : Hp} {D : Addr} {vs ws : List (Key × V)} (t : TabsN T H) (e : H D = some (.dK vs)) : TabsN T (upd H D (.dK ws)) := fun p hp => by
  obtain ⟨ps, h1, h2, h3⟩ := t p hp
  have n1 : p.1 ≠ D := ne_of h1 e (by simp)
  refine ⟨ps, by rw [upd_ne n1]; exact h1, h2, fun pos cv hc => ?_⟩
  obtain ⟨c, e1, e2⟩ := h3 pos cv hc
  have n2 : c ≠ D := ne_of e2 e (by unfold LamX.CodeO; simp)
  exact ⟨c, e1, by rw [upd_ne n2]; exact e2⟩
theorem keepE_updK {H : Hp} {p : Addr} {vs ws : List (Key × V)} (e : H p = some (.dK vs)) : KeepE H (upd H p (.dK ws)) := fun a φ q => by
  rw [upd_ne (fun z => by rw [z, e] at q; cases q)]
  exact q
theorem SR.updFreeK {X : Tx} {B : Base} {env : Ev} {w : World} {σ : St} {H F : Hp} {O : Nat → Addr} {M : List Addr} {D : Addr} {vs ws : List (Key × V)} (s : SR X B env w σ H F O M) (e : H D = some (.dK vs)) (hB : B.H D = none) (hF : F D = none) (hM : D ∉ M)
    (hO : ∀ i l, env[i]? = some (.own l) → O i ≠ D) : SR X B env w σ (upd H D (.dK ws)) F O M := by
  have ne : ∀ {a : Addr} {o : HO}, H a = some o → a ≠ D → upd H D (.dK ws) a = some o := fun h n => by rw [upd_ne n]; exact h
  refine ⟨s.len, fun b o q => ?_, s.nt, ⟨s.st.fg, fun a o hM' ht q => ?_, fun a h => ?_, s.st.nf, s.st.mw⟩, ⟨s.wr.nd, ?_⟩, tab_updK s.tb e, fun i sl e' => ?_, s.inj⟩
  · exact ne (s.fh _ _ q) (fun z => by subst z; rw [hF] at q; cases q)
  · exact ne (s.st.fr a o hM' ht q) (fun z => by subst z; rw [hB] at q; cases q)
  · by_cases z : a = D
    · subst z; rw [upd_same]; simp
    · rw [upd_ne z]; exact s.st.th a h
  · have go : ∀ {M : List Addr} {w : World}, D ∉ M → Paired (fun m o => F m = none ∧ WO.isAt X F H m o) M w → Paired (fun m o => F m = none ∧ WO.isAt X F (upd H D (.dK ws)) m o) M w := by
      intro M w hM h
      induction h with
      | nil => exact .nil
      | @cons m o _ _ h1 _ ih =>
        have nm : m ≠ D := fun z => hM (by rw [← z]; exact List.mem_cons_self)
        refine .cons ⟨h1.1, ?_⟩ (ih fun z => hM (List.mem_cons_of_mem _ z))
        cases o with
        | lst l => obtain ⟨_, ez, us, e1, e2⟩ := h1; exact ⟨ez, us, ne e1 nm, e2⟩
        | clo i caps => exact CloAt.keep h1.2 (keepE_updK e) (Same.refl _) (fun _ _ e => e)
    exact go hM s.wr.at_
  · have h := s.sl i sl e'
    cases sl with
    | un => trivial
    | dat d => exact h
    | own l =>
      obtain ⟨e1, e2, e3, e4, ez, us, e5, e6⟩ := h
      exact ⟨e1, e2, e3, e4, ez, us, ne e5 (hO i l e'), e6⟩
    | wref k => exact h
section
variable {X : Cx} {T : Tbs} {Wi : WX} {pos : Pos}
def dKeys (src : Src) (vs : List Nat) (g : Tgt) (tt : Tst) (kx : Ex) : Ex := fun env w => (src env w).bind fun l w1 => (compGo g tt kx (wipeE env vs) l w1).bind fun xs w2 => match strsOf xs with
  | some ks => .ok (.fresh ((ks.foldl keysAdd []).map .str)) w2
  | none => .stuck
theorem dk_read {src : Src} {g : Tgt} {tt : Tst} {elt : Ex} {vs us : List Nat} (hvs : ∀ i ∈ us, i ∈ vs) {σ : St} {H : Hp} {Q : VK} (q : tD (Cx.tx X T) Wi (dKeys src vs g tt elt) σ H Q) :
    tDc (tIt (Cx.tx X T) Wi src) (tG (Cx.tx X T) g us) (tT (Cx.tx X T) noW tt) (tD (Cx.tx X T) noW elt) (tC (.bl true)) vs σ H (fun x H1 => rListD [x] H1 Q) := by
  obtain ⟨B, env, w, F, O, M, s, q⟩ := q
  refine ⟨B, env, w, F, O, M, s, q.bind.imp fun l w1 q1 J H1 F1 M1 s1 st1 wk D hD => ?_⟩
  have q1 := q1.bind
  have hB : B.H D = none := by
    cases z : B.H D with
    | none => rfl
    | some o => exact absurd hD (s1.st.th D (by rw [z]; simp))
  have hH : H D = none := by
    cases z : H D with
    | none => rfl
    | some o => exact absurd hD (st1.th D (by rw [z]; simp))
  have hO : ∀ i k, env[i]? = some (.own k) → O i ≠ D := fun i k e z => by
    obtain ⟨_, _, _, _, _, ws, q', _⟩ := s.sl i _ e
    rw [z, hH] at q'; cases q'
  refine ⟨fun i m H' => m = l.length - i ∧ i ≤ l.length ∧ ∃ w' F' M' ks, ks.length ≤ i ∧ SR (Cx.tx X T) B env w' σ H' F' O M' ∧ Stp H F M H' F' M' ∧ Same F1 F' ∧ H' D = some (.dK (entsOf ks)) ∧ F' D = none ∧ D ∉ M' ∧ (∀ k ∈ ks, SOk k) ∧
      Pst (compGo g tt elt (wipeE env vs) (l.drop i) w') (fun rest w2 => ∃ zs, strsOf rest = some zs ∧ ∀ v H2 F2 M2, SR (Cx.tx X T) B env w2 σ H2 F2 O M2 → Stp H F M H2 F2 M2 → RV.isAt (Cx.tx X T) H env O H2 F2 M2 v (.fresh ((zs.foldl keysAdd ks).map .str)) → Q v H2) (fun _ _ _ => False), ⟨l.length, by simp, Nat.zero_le _, w1, F1, M1, [], Nat.le_refl _, ?_⟩, ?_⟩
  · have xt : Xt H1 F1 (upd H1 D (.dK [])) F1 := ⟨same_upd hD, Same.refl _, s1.fh.trans (same_upd hD), fun _ _ e => e, s1.nt⟩
    refine ⟨s1.xt xt, st1.trans xt.stp, Same.refl _, upd_same, s1.fh.free hD, fun z => s1.wr.there z hD, (by simp), ?_⟩
    rw [List.drop_zero]
    cases eg : compGo g tt elt (wipeE env vs) l w1 with
    | stuck => rw [eg] at q1; exact q1.elim
    | ok rest w2 =>
      rw [eg] at q1
      have q1 : Pst (match strsOf rest with
        | some ks => Out.ok (RV.fresh ((ks.foldl keysAdd []).map .str)) w2
        | none => .stuck) _ _ := q1
      cases ez : strsOf rest with
      | none => rw [ez] at q1; exact q1.elim
      | some zs => rw [ez] at q1; exact ⟨zs, ez, fun v H2 F2 M2 s2 st2 r2 => q1 v H2 F2 M2 s2 st2 r2⟩
    | exc x e' w2 =>
      exfalso
      have nx : ∀ (l : List Dl.D) (w : World) (x : Exn) (e : Ev) (w2 : World), compGo g tt elt (wipeE env vs) l w ≠ .exc x e w2 := by
        intro l
        induction l with
        | nil => intro w x e w2 z; cases z
        | cons d ds ih =>
          intro w x e w2 z
          unfold compGo at z
          split at z
          · cases z
          · rename_i env1 _
            cases h1 : tt env1 w with
            | stuck => rw [h1] at z; cases z
            | exc _ _ _ => rw [h1] at z; cases z
            | ok b w3 =>
              rw [h1] at z
              simp only [noX_ok, bind_ok] at z
              split at z
              · cases h2 : elt env1 w3 with
                | stuck => rw [h2] at z; cases z
                | exc _ _ _ => rw [h2] at z; cases z
                | ok r w4 =>
                  rw [h2] at z
                  simp only [noX_ok, bind_ok] at z
                  split at z
                  · cases h3 : compGo g tt elt (wipeE env vs) ds w4 with
                    | stuck => rw [h3] at z; cases z
                    | exc a b c => exact ih _ _ _ _ h3
                    | ok a b => rw [h3] at z; cases z
                  · cases z
              · exact ih _ _ _ _ z
      exact nx l w1 x e' w2 eg
  · rintro i m H' ⟨rfl, hi, w', F', M', ks, hes, sr, st, sf, hDl, hFD, hMD, pd, qq⟩
    by_cases hlt : i < l.length
    · refine .inr ⟨wk.go i H' F' sf sr.fh hlt, fun H'' => i + 1 ≤ l.length ∧ ∃ w' F' M' ks, ks.length ≤ i + 1 ∧ SR (Cx.tx X T) B env w' σ H'' F' O M' ∧ Stp H F M H'' F' M' ∧ Same F1 F' ∧ H'' D = some (.dK (entsOf ks)) ∧ F' D = none ∧ D ∉ M' ∧ (∀ k ∈ ks, SOk k) ∧
          Pst (compGo g tt elt (wipeE env vs) (l.drop (i + 1)) w') (fun rest w2 => ∃ zs, strsOf rest = some zs ∧ ∀ v H2 F2 M2, SR (Cx.tx X T) B env w2 σ H2 F2 O M2 → Stp H F M H2 F2 M2 → RV.isAt (Cx.tx X T) H env O H2 F2 M2 v (.fresh ((zs.foldl keysAdd ks).map .str)) → Q v H2) (fun _ _ _ => False), fun H'' ⟨z1, z2⟩ => ⟨l.length - (i + 1), by omega, rfl, z1, z2⟩, fun x H2 hy => ?_⟩
      obtain ⟨F2, xt2, rx⟩ := wk.yld i H' F' x H2 l[i] sf sr.fh sr.nt hy (List.getElem?_eq_getElem hlt)
      have sr2 := sr.xt xt2
      rw [List.drop_eq_getElem_cons hlt] at qq
      unfold compGo at qq
      split at qq
      · exact qq.elim
      · rename_i env1 eg
        refine ⟨B, wipeE env vs, w', F2, O, M', l[i], env1, sr2.wipe vs, rx, eg, fun σ2 s2 hw => ⟨?_, ?_⟩⟩
        · rw [hw vs hvs]
          have idem : ∀ us : List Nat, (∀ i ∈ us, i ∈ vs) → wipe (wipe σ vs) us = wipe σ vs := by
            intro us
            induction us with
            | nil => intro _; rfl
            | cons u us ih =>
              intro hu
              show (wipe (wipe σ vs) us).set u none = wipe σ vs
              rw [ih fun i hi => hu i (List.mem_cons_of_mem _ hi)]
              have hu' := hu u List.mem_cons_self
              have : ∀ {ws : List Nat}, u ∈ ws → (wipe σ ws).set u none = wipe σ ws := by
                intro ws
                induction ws with
                | nil => intro h; cases h
                | cons a ws ih2 =>
                  intro h
                  show ((wipe σ ws).set a none).set u none = (wipe σ ws).set a none
                  by_cases ha : a = u
                  · subst ha; rw [List.set_set]
                  · rcases List.mem_cons.mp h with z | z
                    · exact absurd z.symm ha
                    · rw [List.set_comm _ _ ha, ih2 z]
              exact this hu'
          exact idem vs fun _ h => h
        · have qt := qq.bind.noX (b' := badX (Cx.tx X T) B noW)
          refine ⟨B, env1, w', F2, O, M', s2, qt.imp fun b w3 q3 H3 F3 M3 s3 st3 => ?_⟩
          have sr3 := sr2.step st3 s3.fh s3.nt s3.wr s3.tb
          have hDl3 : H3 D = some (.dK (entsOf ks)) := st3.fr D _ (fun z => absurd z hMD) (fun _ z => by cases z) (xt2.hh _ _ hDl)
          have hMD3 : D ∉ M3 := notM' st3 hMD (by rw [xt2.hh _ _ hDl]; simp)
          have hFD2 : F2 D = none := xt2.nf D (by rw [hDl]; simp) hFD
          have hFD3 : F3 D = none := st3.nf D (by rw [xt2.hh _ _ hDl]; simp) hFD2
          have st03 := (st.trans xt2.stp).trans st3
          cases b with
          | false =>
            simp only [Bool.false_eq_true, if_false] at q3 ⊢
            exact ⟨hlt, w3, F3, M3, ks, by omega, sr3, st03, (sf.trans xt2.ff).trans st3.fg, hDl3, hFD3, hMD3, pd, q3⟩
          | true =>
            simp only [if_true] at q3 ⊢
            have qe := q3.bind.noX (b' := badX (Cx.tx X T) B noW)
            refine ⟨B, env1, w3, F3, O, M3, s3, qe.imp fun r w4 q4 y H4 F4 M4 s4 st4 r4 => ?_⟩
            split at q4
            · rename_i d ed
              obtain ⟨F5, s5, st5, a5⟩ := keep_arg s3 s4 st4 r4 (st_arg ed)
              have hDl4 : H4 D = some (.dK (entsOf ks)) := st5.fr D _ (fun z => absurd z hMD3) (fun _ z => by cases z) hDl3
              have hMD4 : D ∉ M4 := notM' st5 hMD3 (by rw [hDl3]; simp)
              have hFD5 : F5 D = none := st5.nf D (by rw [hDl3]; simp) hFD3
              have sr5 := sr3.step st5 s5.fh s5.nt s5.wr s5.tb
              have st05 := st03.trans st5
              cases eg2 : compGo g tt elt (wipeE env vs) (l.drop (i + 1)) w4 with
              | stuck => rw [eg2] at q4; exact q4.elim
              | exc a b c => rw [eg2] at q4; exact q4.elim
              | ok rest w5 =>
                rw [eg2] at q4
                obtain ⟨zs, ez, qv⟩ := q4
                cases d <;> first | (simp only [strsOf] at ez; cases ez; done) | skip
                rename_i k
                simp only [strsOf] at ez
                cases ez2 : strsOf rest with
                | none => rw [ez2] at ez; cases ez
                | some zs2 =>
                  rw [ez2] at ez
                  cases ez
                  have hyk : y = V.str k ∧ SOk k := by
                    cases a5 with
                    | str _ ok => exact ⟨rfl, ok⟩
                  have sr6 := sr5.updFreeK (ws := entsOf (keysAdd ks k)) hDl4 hB hFD5 hMD4 hO
                  have hbd := wk.bd
                  have hel : (entsOf ks).length ≤ i := by unfold entsOf; rw [List.length_map]; exact hes
                  refine ⟨entsOf ks, Sum.inr k, hyk.1, hDl4, by omega, ?_⟩
                  rw [put_ents]
                  refine ⟨hlt, w4, F5, M4, keysAdd ks k, Nat.le_trans keysAdd_len (by omega), sr6, ?_, ((sf.trans xt2.ff).trans st3.fg).trans st5.fg, upd_same, hFD5, hMD4, fun z hz => ?_, ?_⟩
                  · exact ⟨st05.fg, fun a o hM' ht q' => by
                      have := st05.fr a o hM' ht q'
                      have na : a ≠ D := fun z => by subst z; rw [hH] at q'; cases q'
                      rw [upd_ne na]; exact this, fun a h => by
                      by_cases z : a = D
                      · subst z; rw [upd_same]; simp
                      · rw [upd_ne z]; exact st05.th a h, st05.nf, st05.mw⟩
                  · unfold keysAdd at hz
                    split at hz
                    · exact pd z hz
                    · rcases List.mem_append.mp hz with h1 | h1
                      · exact pd z h1
                      · rw [List.mem_singleton.mp h1]; exact hyk.2
                  · rw [eg2]
                    exact ⟨zs2, ez2, qv⟩
            · exact q4.elim
    · have hil : i = l.length := by omega
      subst hil
      refine .inl ⟨wk.stop _ H' F' sf sr.fh (Nat.le_refl _), ?_⟩
      rw [List.drop_length] at qq
      obtain ⟨zs, ez, qq'⟩ := qq
      cases ez
      refine ⟨D, entsOf ks, rfl, hDl, fun p hp => ?_⟩
      have ek : (entsOf ks).map (fun kv => kV kv.1) = ks.map V.str := by unfold entsOf; rw [List.map_map]; rfl
      rw [ek]
      have xt := Xt.newL (vs := ks.map V.str) sr.fh sr.nt hp
      have hHp : H p = none := by
        cases z : H p with
        | none => rfl
        | some o => exact absurd hp (st.th p (by rw [z]; simp))
      have bd := wk.bd
      exact qq' _ _ F' M' (sr.xt xt) (st.trans xt.stp) ⟨by simpa using Nat.le_trans hes bd, p, ks.map V.str, rfl, hHp, sr.fh.free hp, fun z => sr.wr.there z hp, upd_same, strs_rp pd⟩
/-- list({key: True for target in iter if ..}) -/
theorem je_keys {kx tg iter : Expr} {ifs : List Expr} {scope : Scope} {own : List (Str × Nat)} {src : Src} {g : Tgt} {tt : Tst} {dk : Ex} {us vs : List Nat} {p dpos cpos : Pos} {j : Nat} (hc : X.calm = true) (hN : X.N.Nodup) (hgl : Gl X "list") (hml : X.mg "list" = none) (hi : JI X T Wi tg iter src) (ok : BlkOk X.N X.env.scope scope own)
    (hv : own.map (·.2) = vs) (hvs : ∀ i ∈ us, i ∈ vs)
    (hg : ∀ (s : Shared) (H : Hp) (C : Addr) (cl : List (Str × Addr)) (fp : List Addr), JG (X.blk s H scope (compEnvC scope cl C X.env) fp) T tg g us)
    (ht : ∀ (s : Shared) (H : Hp) (C : Addr) (cl : List (Str × Addr)) (fp : List Addr), JTs (X.blk s H scope (compEnvC scope cl C X.env) fp) T ifs tt)
    (hk : ∀ (s : Shared) (H : Hp) (C : Addr) (cl : List (Str × Addr)) (fp : List Addr), JE (X.blk s H scope (compEnvC scope cl C X.env) fp) T noW kx dk) (hs : ∀ x, foldedSetIterable iter X.env x = pure x := by intro _; rfl)
    (he : starEach [.DictComp kx (.Constant (.bool true) j cpos) [⟨tg, iter, ifs, 0⟩] scope dpos] X.env = (false, eval (.DictComp kx (.Constant (.bool true) j cpos) [⟨tg, iter, ifs, 0⟩] scope dpos) X.env) :: starEach [] X.env := by rfl) (hpl : (backTo pos (starEach [] X.env)).any (·.1) = false := by rfl) :
    JE X T Wi (.Call (.Name "list" p) [.DictComp kx (.Constant (.bool true) j cpos) [⟨tg, iter, ifs, 0⟩] scope dpos] [] pos) (dKeys src vs g tt dk) := by
  subst hv
  refine (pe_callTy (call_list_dK hc) hgl hml (by decide +kernel) (pa_cons (pe_dc (g := tG (Cx.tx X T) g us) (tt := tT (Cx.tx X T) noW tt) (tk := tD (Cx.tx X T) noW dk) (tv := tC (.bl true)) hc hN hi ok hg ht hk (fun _ _ _ _ _ => pe_bl) hs) pa_nil he) (by decide) (by decide) he hpl).impD fun σ H Q q => ?_
  exact dk_read hvs q
end
end Dl
namespace Dl
open PySem PySem.Spec PyProof.Rows L2 NdefX
def b__law_tape (C : Cs) : Sd := (sRet (dLst (aCons (dBlt cList (rCons (dName 0) rNil)) (aCons (dC (.int 0)) (aCons (dC (.int 0)) (aCons (dC (.int 1)) (aCons (dC (.int 0)) aNil)))))))
def b__law_pick (C : Cs) : Sd := (sSeq (sIf (dTst (dBin (gGt C.room) (dIxW 0 (dC (.int 2))) (dC (.int 1)))) (sSeq (sSet 2 (dBin gMod (dBlt cInt (rCons (dIxW 0 (dC (.int 2))) rNil)) (dName 1)))
  (sSeq (sSetIx 0 (dC (.int 2)) (dBin gFdiv (dIxW 0 (dC (.int 2))) (dName 1)))
  (sRet (dName 2)))) sNil)
  (sSeq (sSetIx 0 (dC (.int 4)) (dBin gAdd (dIxW 0 (dC (.int 4))) (dC (.int 1))))
  (sSeq (sSet 3 (dC (.int 0)))
  (sSeq (sIf (dTst (dBin (gLt C.room) (dIxW 0 (dC (.int 1))) (dBlt cLen (rCons (dIxW 0 (dC (.int 0))) rNil)))) (sSeq (sSet 3 (dBin gIx (dIxW 0 (dC (.int 0))) (dIxW 0 (dC (.int 1)))))
  (sSetIx 0 (dC (.int 1)) (dBin gAdd (dIxW 0 (dC (.int 1))) (dC (.int 1))))) sNil)
  (sSeq (sIf (dTst (dBin (gGe C.room) (dName 3) (dBin gPow (dC (.int 10)) (dC (.int 18))))) (sSeq (sSetIx 0 (dC (.int 2)) (dBin gFdiv (dName 3) (dName 1)))
  (sRet (dBin gMod (dBlt cInt (rCons (dName 3) rNil)) (dName 1)))) sNil)
  (sSeq (sSet 4 (dBin gMod (dBlt cInt (rCons (dBin gAdd (dBin gAdd (dBin gMul (dIxW 0 (dC (.int 3))) (dC (.int 48271))) (dBin gMod (dBlt cInt (rCons (dName 3) rNil)) (dC (.int 2147483629)))) (dBin gMul (dIxW 0 (dC (.int 4))) (dC (.int 69621)))) rNil)) (dC (.int 2147483647))))
  (sSeq (sSet 4 (dBin gMod (dBlt cInt (rCons (dBin gMul (dName 4) (dBin gAdd (dBin gFdiv (dName 4) (dC (.int 1009))) (dC (.int 40692)))) rNil)) (dC (.int 2147483399))))
  (sSeq (sSetIx 0 (dC (.int 3)) (dName 4))
  (sRet (dBin gMod (dBlt cInt (rCons (dBin gFdiv (dName 4) (dC (.int 16))) rNil)) (dName 1)))))))))))
end Dl
/-! DlP: the plain side: what the denotations compute. -/
namespace Dl
open PySem PySem.Spec PyProof.Rows L2 NdefX
section
variable {α β : Type} {env : Ev} {w : World} {i : Nat} {e : Ex} {a b : Sd}
@[simp] theorem bind_ite {c : Prop} [Decidable c] {x y : Out α} {f : α → World → Out β} : (if c then x else y).bind f = if c then x.bind f else y.bind f := by split <;> rfl
@[simp] theorem sNil_ap : sNil env w = .ok (.nx env) w := rfl
@[simp] theorem sPass_ap : sPass env w = .ok (.nx env) w := rfl
@[simp] theorem sBreak_ap : sBreak env w = .ok (.bk env) w := rfl
@[simp] theorem sCont_ap : sCont env w = .ok (.ct env) w := rfl
@[simp] theorem sRetN_ap : sRetN env w = .ok (.rt (.dat .non)) w := rfl
def seqK (b : Sd) : Fl → World → Out Fl := fun f w1 => match f with
  | .nx env1 => b env1 w1
  | f => .ok f w1
@[simp] theorem seqK_nx : seqK b (.nx env) w = b env w := rfl
@[simp] theorem seqK_rt {r : RV} : seqK b (.rt r) w = .ok (.rt r) w := rfl
@[simp] theorem seqK_bk : seqK b (.bk env) w = .ok (.bk env) w := rfl
@[simp] theorem seqK_ct : seqK b (.ct env) w = .ok (.ct env) w := rfl
@[simp] theorem sSeq_ap : sSeq a b env w = (a env w).bind (seqK b) := rfl
@[simp] theorem sIf_ap {c : Tst} : sIf c a b env w = (c env w).bind fun k w1 => if k = true then a env w1 else b env w1 := rfl
@[simp] theorem sExpr_ap : sExpr e env w = (e env w).bind fun _ w1 => .ok (.nx env) w1 := rfl
@[simp] theorem sRet_ap : sRet e env w = (e env w).bind fun r w1 => .ok (.rt r.ret) w1 := rfl
@[simp] theorem ret_dat {d : D} : (RV.dat d).ret = .dat d := rfl
@[simp] theorem ret_fresh {l : List D} : (RV.fresh l).ret = .fresh l := rfl
@[simp] theorem ret_bor {l : List D} : (RV.bor i l).ret = .fresh l := rfl
@[simp] theorem ret_wref {k : Nat} : (RV.wref k).ret = .wref k := rfl
def setK (i : Nat) (env : Ev) : RV → World → Out Fl := fun r w1 => match r with
  | .dat d => .ok (.nx (env.set i (.dat d))) w1
  | .fresh l => .ok (.nx (env.set i (.own l))) w1
  | .wref k => .ok (.nx (env.set i (.wref k))) w1
  | .bor _ _ => .stuck
@[simp] theorem setK_dat {d : D} : setK i env (.dat d) w = .ok (.nx (env.set i (.dat d))) w := rfl
@[simp] theorem setK_fresh {l : List D} : setK i env (.fresh l) w = .ok (.nx (env.set i (.own l))) w := rfl
@[simp] theorem setK_wref {k : Nat} : setK i env (.wref k) w = .ok (.nx (env.set i (.wref k))) w := rfl
@[simp] theorem sSet_ap : sSet i e env w = (e env w).bind (setK i env) := rfl
@[simp] theorem sSetW_ap : sSetW i e env w = (e env w).bind fun r w1 => match r with
  | .fresh l => .ok (.nx (env.set i (.wref w1.length))) (w1 ++ [.lst l])
  | _ => .stuck := rfl
@[simp] theorem sAsg_ap {g : Tgt} : sAsg g e env w = (e env w).bind fun r w1 => match r.arg with
  | some (.dat d) => (match g d env with
    | some env' => .ok (.nx env') w1
    | none => .stuck)
  | _ => .stuck := rfl
@[simp] theorem sAppend_ap : sAppend i e env w = (match env[i]? with
  | some (.own l) => (e env w).bind fun r w1 => (match r.st with
    | some d => if l.length < 16777216 then .ok (.nx (env.set i (.own (l ++ [d])))) w1 else .stuck
    | none => .stuck)
  | _ => .stuck) := rfl
@[simp] theorem sSetIx_ap {ix : Ex} : sSetIx i ix e env w = (e env w).bind fun r w1 => match env[i]?, r.st with
  | some (.own l), some d => (ix env w1).bind fun k w2 => (match k with
    | .dat (.int z) => (match ixN l.length z with
      | some j => .ok (.nx (env.set i (.own (l.set j d)))) w2
      | none => .stuck)
    | _ => .stuck)
  | some (.wref m), some d => (ix env w1).bind fun k w2 => (match k, w2[m]? with
    | .dat (.int z), some (.lst l) => (match ixN l.length z with
      | some j => .ok (.nx env) (w2.set m (.lst (l.set j d)))
      | none => .stuck)
    | _, _ => .stuck)
  | _, _ => .stuck := rfl
@[simp] theorem sFor_ap {src : Src} {g : Tgt} {body : Sd} : sFor src g body env w = (src env w).bind fun l w1 => forGo g body l env w1 := rfl
@[simp] theorem sAug_ap {g : D → D → Option RV} : sAug i g e env w = (match env[i]? with
  | some (.dat x) => (e env w).bind fun r w1 => (match r.val with
    | some y => (match g x y with
      | some (.dat z) => .ok (.nx (env.set i (.dat z))) w1
      | _ => .stuck)
    | none => .stuck)
  | _ => .stuck) := rfl
end
section
variable {env : Ev} {w : World} {i : Nat} {e a b c : Ex} {d : D} {l : List D}
@[simp] theorem dName_ap : dName i env w = (match env[i]? with
  | some (.dat d) => .ok (.dat d) w
  | some (.own l) => .ok (.bor i l) w
  | some (.wref k) => .ok (.wref k) w
  | _ => .stuck) := rfl
@[simp] theorem dC_ap : dC d env w = .ok (.dat d) w := rfl
@[simp] theorem arg_dat : (RV.dat d).arg = some (.dat d) := rfl
@[simp] theorem arg_fresh : (RV.fresh l).arg = some (.dat (.lst l)) := rfl
@[simp] theorem arg_wref {k : Nat} : (RV.wref k).arg = some (.wref k) := rfl
@[simp] theorem arg_bor : (RV.bor i l).arg = none := rfl
@[simp] theorem val_dat : (RV.dat d).val = some d := rfl
@[simp] theorem val_fresh : (RV.fresh l).val = some (.lst l) := rfl
@[simp] theorem val_bor : (RV.bor i l).val = some (.lst l) := rfl
@[simp] theorem st_dat : (RV.dat d).st = some d := rfl
@[simp] theorem st_fresh : (RV.fresh l).st = some (.lst l) := rfl
@[simp] theorem aNil_ap : aNil env w = .ok [] w := rfl
@[simp] theorem rNil_ap : rNil env w = .ok [] w := rfl
@[simp] theorem aCons_ap {r : Exs} : aCons e r env w = (e env w).bind fun x w1 => match x.arg with
  | some a => (r env w1).bind fun as w2 => .ok (a :: as) w2
  | none => .stuck := rfl
@[simp] theorem rCons_ap {r : Exs} : rCons e r env w = (e env w).bind fun x w1 => (r env w1).bind fun xs w2 => .ok (x :: xs) w2 := rfl
@[simp] theorem dats_nil : dats [] = some [] := rfl
@[simp] theorem dats_cons {rs : List RV} : dats (.dat d :: rs) = (dats rs).map (d :: ·) := by
  show (match some d, dats rs with
    | some d, some ds => some (d :: ds)
    | _, _ => none) = _
  cases dats rs <;> rfl
@[simp] theorem vals_nil : vals [] = some [] := rfl
@[simp] theorem vals_cons {r : RV} {rs : List RV} : vals (r :: rs) = (match r.val, vals rs with
    | some d, some ds => some (d :: ds)
    | _, _ => none) := rfl
@[simp] theorem dTup_ap {es : Exs} : dTup es env w = (es env w).bind fun rs w1 => match dats rs with
  | some ds => if ds.length ≤ 1000 then .ok (.dat (.tup ds)) w1 else .stuck
  | none => .stuck := rfl
@[simp] theorem dLst_ap {es : Exs} : dLst es env w = (es env w).bind fun rs w1 => match dats rs with
  | some ds => if ds.length ≤ 1000 then .ok (.fresh ds) w1 else .stuck
  | none => .stuck := rfl
@[simp] theorem dCall_ap {C : Cs} {es : Exs} : dCall C i es env w = (es env w).bind fun rs w1 => withEnv env (C.call i rs w1) := rfl
@[simp] theorem dBlt_ap {g : List D → Option RV} {es : Exs} : dBlt g es env w = (es env w).bind fun rs w1 => match vals rs with
  | some ds => lift (g ds) w1
  | none => .stuck := rfl
@[simp] theorem vals2_ap {g : D → D → Option RV} {x y : RV} : vals2 g x y = (match x.val, y.val with
  | some x, some y => g x y
  | _, _ => none) := rfl
@[simp] theorem vals1_ap {g : D → Option RV} {x : RV} : vals1 g x = (match x.val with
  | some x => g x
  | none => none) := rfl
@[simp] theorem dBin_ap {g : D → D → Option RV} : dBin g a b env w = (a env w).bind fun ra w1 => (b env w1).bind fun rb w2 => lift (vals2 g ra rb) w2 := rfl
@[simp] theorem dUn_ap {g : D → Option RV} : dUn g a env w = (a env w).bind fun ra w1 => lift (vals1 g ra) w1 := rfl
def andK (b : Ex) (env : Ev) : RV → World → Out RV := fun ra w1 => match ra with
  | .dat (.bl true) => b env w1
  | .dat (.bl false) => .ok (.dat (.bl false)) w1
  | _ => .stuck
@[simp] theorem andK_bl {k : Bool} : andK b env (.dat (.bl k)) w = if k = true then b env w else .ok (.dat (.bl false)) w := by cases k <;> rfl
@[simp] theorem dAnd_ap : dAnd a b env w = (a env w).bind (andK b env) := rfl
def orK (b : Ex) (env : Ev) : RV → World → Out RV := fun ra w1 => match ra with
  | .dat (.bl false) => b env w1
  | .dat (.bl true) => .ok (.dat (.bl true)) w1
  | _ => .stuck
@[simp] theorem orK_bl {k : Bool} : orK b env (.dat (.bl k)) w = if k = true then .ok (.dat (.bl true)) w else b env w := by cases k <;> rfl
@[simp] theorem dOr_ap : dOr a b env w = (a env w).bind (orK b env) := rfl
@[simp] theorem dIf_ap {t : Tst} : dIf t a b env w = (t env w).bind fun c w1 => if c = true then a env w1 else b env w1 := rfl
def chK (g' : D → D → Option RV) (c : Ex) (env : Ev) (rb : RV) (w2 : World) : Option RV → Out RV
  | some (.dat (.bl true)) => (c env w2).bind fun rc w3 => lift (vals2 g' rb rc) w3
  | some (.dat (.bl false)) => .ok (.dat (.bl false)) w2
  | _ => .stuck
@[simp] theorem chK_bl {g' : D → D → Option RV} {rb : RV} {k : Bool} : chK g' c env rb w (some (.dat (.bl k))) = if k = true then (c env w).bind fun rc w3 => lift (vals2 g' rb rc) w3 else .ok (.dat (.bl false)) w := by cases k <;> rfl
@[simp] theorem dChain_ap {g g' : D → D → Option RV} : dChain g g' a b c env w = (a env w).bind fun ra w1 => (b env w1).bind fun rb w2 => chK g' c env rb w2 (vals2 g ra rb) := by
  unfold dChain chK
  rfl
@[simp] theorem dTst_ap : dTst a env w = (a env w).bind fun ra w1 => match ra with
  | .dat (.bl b) => .ok b w1
  | _ => .stuck := rfl
@[simp] theorem dTru_ap : dTru a env w = (a env w).bind fun ra w1 => match ra.val with
  | some d => (match d.truth with
    | some b => .ok b w1
    | none => .stuck)
  | none => .stuck := rfl
@[simp] theorem truth_bl {k : Bool} : (D.bl k).truth = some k := rfl
@[simp] theorem truth_int {k : Int} : (D.int k).truth = some (k != 0) := rfl
@[simp] theorem truth_lst : (D.lst l).truth = some (!l.isEmpty) := rfl
@[simp] theorem truth_tup : (D.tup l).truth = some (!l.isEmpty) := rfl
@[simp] theorem truth_non : D.non.truth = some false := rfl
@[simp] theorem tNot_ap {t : Tst} : tNot' t env w = (t env w).bind fun b w1 => .ok (!b) w1 := rfl
@[simp] theorem tAnd_ap {t u : Tst} : tAnd' t u env w = (t env w).bind fun c w1 => if c = true then u env w1 else .ok false w1 := rfl
@[simp] theorem tOr_ap {t u : Tst} : tOr' t u env w = (t env w).bind fun c w1 => if c = true then .ok true w1 else u env w1 := rfl
@[simp] theorem tYes_ap : tYes' env w = .ok true w := rfl
@[simp] theorem optI_none : optI none env w = .ok none w := rfl
@[simp] theorem optI_some : optI (some a) env w = (a env w).bind fun r w1 => match r with
    | .dat (.int i) => .ok (some i) w1
    | _ => .stuck := rfl
@[simp] theorem dSl_ap {lo hi : Option Ex} : dSl a lo hi env w = (a env w).bind fun ra w1 => (optI lo env w1).bind fun l w2 => (optI hi env w2).bind fun u w3 => lift (vals1 (gSl l u) ra) w3 := rfl
@[simp] theorem dIxW_ap : dIxW i a env w = (match env[i]? with
  | some (.wref m) => (a env w).bind fun k w1 => (match k, w1[m]? with
    | .dat (.int z), some (.lst l) => lift ((atI l z).map .dat) w1
    | _, _ => .stuck)
  | _ => .stuck) := rfl
@[simp] theorem iSeq_ap : iSeq a env w = (a env w).bind fun r w1 => match r.its with
  | some l => .ok l w1
  | none => .stuck := rfl
@[simp] theorem its_lst : (RV.dat (.lst l)).its = some l := rfl
@[simp] theorem its_tup : (RV.dat (.tup l)).its = some l := rfl
@[simp] theorem its_fresh : (RV.fresh l).its = some l := rfl
@[simp] theorem iRange_ap {g : List D → Option (Int × Int)} {es : Exs} : iRange g es env w = (es env w).bind fun rs w1 => match vals rs with
  | some ds => (match g ds with
    | some (lo, hi) => if (hi - lo).toNat ≤ 16777216 ∧ -(2 ^ 62) ≤ lo ∧ lo < 2 ^ 62 ∧ -(2 ^ 62) ≤ hi ∧ hi < 2 ^ 62 then .ok (rngD lo hi) w1 else .stuck
    | none => .stuck)
  | none => .stuck := rfl
@[simp] theorem rg1_i {j : Int} : rg1 [.int j] = some (0, j) := rfl
@[simp] theorem rg2_i {j k : Int} : rg2 [.int j, .int k] = some (j, k) := rfl
@[simp] theorem dComp_ap {src : Src} {vs : List Nat} {g : Tgt} {tt : Tst} : dComp src vs g tt e env w = (src env w).bind fun l w1 => (compGo g tt e (wipeE env vs) l w1).bind fun xs w2 => .ok (.fresh xs) w2 := rfl
@[simp] theorem wipe_nil : wipeE env [] = env := rfl
@[simp] theorem wipe_cons {v : Nat} {vs : List Nat} : wipeE env (v :: vs) = (wipeE env vs).set v .un := rfl
@[simp] theorem gN_ap : gN i d env = some (env.set i (.dat d)) := rfl
@[simp] theorem gT_ap {n : Nat} {ts : Tgts} : gT n ts (.tup l) env = if l.length = n then ts l env else none := rfl
@[simp] theorem gsNil_ap : gsNil [] env = some env := rfl
@[simp] theorem gsCons_ap {t : Tgt} {ts : Tgts} : gsCons t ts (d :: l) env = (t d env).bind fun env' => ts l env' := rfl
@[simp] theorem go_nil {g : Tgt} {tt : Tst} : compGo g tt e env [] w = .ok [] w := rfl
@[simp] theorem for_nil {g : Tgt} {s : Sd} : forGo g s [] env w = .ok (.nx env) w := rfl
end
/-! values -/
section
variable {i j : Int} {s t : Str} {rm : Nat} {k l : List D} {b c : Bool} {d : D}
@[simp] theorem gAdd_i : gAdd (.int i) (.int j) = some (.dat (.int (i + j))) := rfl
@[simp] theorem gSub_i : gSub (.int i) (.int j) = some (.dat (.int (i - j))) := rfl
@[simp] theorem gMul_i : gMul (.int i) (.int j) = if mulOk i j then some (.dat (.int (i * j))) else none := rfl
@[simp] theorem gFdiv_i : gFdiv (.int i) (.int j) = if 0 < j ∧ (j < 1073741824 ∨ j.natAbs.log2 < 8990) then some (.dat (.int (i / j))) else none := rfl
@[simp] theorem gMod_i : gMod (.int i) (.int j) = if 0 < j then some (.dat (.int (i % j))) else none := rfl
@[simp] theorem gPow_i : gPow (.int i) (.int j) = if 0 ≤ j ∧ j ≤ 1000000 ∧ i.natAbs < 2 ^ 64 then some (.dat (.int (i ^ j.toNat))) else none := rfl
@[simp] theorem gAdd_t : gAdd (.tup k) (.tup l) = if k.length + l.length ≤ sizeLine then some (.dat (.tup (k ++ l))) else none := rfl
@[simp] theorem gAdd_l : gAdd (.lst k) (.lst l) = if k.length + l.length ≤ sizeLine then some (.fresh (k ++ l)) else none := rfl
@[simp] theorem gNeg_i : gNeg (.int i) = some (.dat (.int (-i))) := rfl
@[simp] theorem gNot_b : gNot (.bl b) = some (.dat (.bl (!b))) := rfl
@[simp] theorem dep_i : (D.int i).dep = 0 := rfl
@[simp] theorem dep_b : (D.bl b).dep = 0 := rfl
@[simp] theorem dep_s : (D.str s).dep = 0 := rfl
@[simp] theorem dep_n : D.non.dep = 0 := rfl
theorem eq_i : (D.int i).eq (.int j) = decide (i = j) := by rfl
@[simp] theorem gEq_i : gEq rm (.int i) (.int j) = some (.dat (.bl (decide (i = j)))) := by simp [gEq, eq_i]
@[simp] theorem gNe_i : gNe rm (.int i) (.int j) = some (.dat (.bl (!decide (i = j)))) := by simp [gNe, eq_i]
@[simp] theorem gLt_i : gLt rm (.int i) (.int j) = some (.dat (.bl (decide (i < j)))) := rfl
@[simp] theorem gGt_i : gGt rm (.int i) (.int j) = some (.dat (.bl (decide (j < i)))) := rfl
@[simp] theorem gLe_i : gLe rm (.int i) (.int j) = some (.dat (.bl (decide (i ≤ j)))) := rfl
@[simp] theorem gGe_i : gGe rm (.int i) (.int j) = some (.dat (.bl (decide (j ≤ i)))) := rfl
@[simp] theorem gIs_b : gIs (.bl b) (.bl c) = some (.dat (.bl (decide (b = c)))) := rfl
@[simp] theorem gIsNot_b : gIsNot (.bl b) (.bl c) = some (.dat (.bl (!decide (b = c)))) := rfl
@[simp] theorem gIs_n : gIs d .non = some (.dat (.bl d.isN)) := by cases d <;> rfl
@[simp] theorem gIsNot_n : gIsNot d .non = some (.dat (.bl (!d.isN))) := by cases d <;> rfl
@[simp] theorem isN_n : D.non.isN = true := rfl
@[simp] theorem isN_i : (D.int i).isN = false := rfl
@[simp] theorem isN_b : (D.bl b).isN = false := rfl
@[simp] theorem isN_s : (D.str s).isN = false := rfl
@[simp] theorem isN_l : (D.lst l).isN = false := rfl
@[simp] theorem isN_t : (D.tup l).isN = false := rfl
@[simp] theorem gIx_l : gIx (.lst l) (.int i) = (atI l i).map .dat := rfl
@[simp] theorem gIx_t : gIx (.tup l) (.int i) = (atI l i).map .dat := rfl
@[simp] theorem gSl_l {lo hi : Option Int} : gSl lo hi (.lst l) = some (.fresh (cutD l lo hi)) := rfl
@[simp] theorem gSl_t {lo hi : Option Int} : gSl lo hi (.tup l) = some (.dat (.tup (cutD l lo hi))) := rfl
@[simp] theorem cLen_l : cLen [.lst l] = some (.dat (.int l.length)) := rfl
@[simp] theorem cLen_t : cLen [.tup l] = some (.dat (.int l.length)) := rfl
@[simp] theorem cLen_s : cLen [.str s] = some (.dat (.int s.length)) := rfl
@[simp] theorem cInt_i : cInt [.int i] = some (.dat (.int i)) := rfl
@[simp] theorem cInt_b : cInt [.bl b] = some (.dat (.int (if b then 1 else 0))) := rfl
@[simp] theorem cTup_l : cTuple [.lst l] = some (.dat (.tup l)) := rfl
@[simp] theorem cTup_t : cTuple [.tup l] = some (.dat (.tup l)) := rfl
@[simp] theorem cLst_l : cList [.lst l] = some (.fresh l) := rfl
@[simp] theorem cLst_t : cList [.tup l] = some (.fresh l) := rfl
@[simp] theorem cMax_i : cMax2 [.int i, .int j] = some (.dat (.int (if j > i then j else i))) := rfl
@[simp] theorem cMin_i : cMin2 [.int i, .int j] = some (.dat (.int (if j < i then j else i))) := rfl
@[simp] theorem cAll_l : cAll [.lst l] = (bolsOf l).map fun ns => .dat (.bl (ns.all id)) := rfl
@[simp] theorem cAny_l : cAny [.lst l] = (bolsOf l).map fun ns => .dat (.bl (ns.any id)) := rfl
@[simp] theorem cSum_l : cSum [.lst l] = (intsOf l).map fun ns => .dat (.int ns.sum) := rfl
@[simp] theorem isi_ap {ts : List Ty} : gIsi ts d = some (.dat (.bl (ts.any d.isTy))) := rfl
@[simp] theorem bolsOf_mapF {α : Type} {f : α → Bool} (xs : List α) : bolsOf (xs.map fun x => D.bl (f x)) = some (xs.map f) := by
  induction xs with
  | nil => rfl
  | cons x xs ih => simp [bolsOf, ih]
theorem eq_s : (D.str s).eq (.str t) = decide (s = t) := by rfl
@[simp] theorem gEq_s : gEq rm (.str s) (.str t) = some (.dat (.bl (decide (s = t)))) := by simp [gEq, eq_s]
@[simp] theorem gNe_s : gNe rm (.str s) (.str t) = some (.dat (.bl (!decide (s = t)))) := by simp [gNe, eq_s]
theorem eq_b : (D.bl b).eq (.bl c) = decide (b = c) := by cases b <;> cases c <;> rfl
@[simp] theorem gEq_b : gEq rm (.bl b) (.bl c) = some (.dat (.bl (decide (b = c)))) := by simp [gEq, eq_b]
@[simp] theorem gNe_b : gNe rm (.bl b) (.bl c) = some (.dat (.bl (!decide (b = c)))) := by simp [gNe, eq_b]
end
/-! loops -/
/-- a comprehension whose element is a function of the item, the world left alone -/
theorem compGo_map {i : Nat} {e : Ex} {env : Ev} {w : World} {f : D → D} : ∀ {l : List D}, (∀ d ∈ l, e (env.set i (.dat d)) w = .ok (.dat (f d)) w) → compGo (gN i) tYes' e env l w = .ok (l.map f) w
  | [], _ => rfl
  | d :: l, h => by
    have h1 := h d (.head _)
    have h2 := compGo_map (l := l) (fun x hx => h x (.tail _ hx))
    unfold compGo
    simp only [gN_ap, tYes_ap, noX_ok, bind_ok, if_true, h1, st_dat, h2, List.map_cons]
/-- an element that works upon the world -/
theorem compGo_inv {i : Nat} {e : Ex} {env : Ev} {P : List D → World → Prop} : ∀ {l : List D} {w : World} {pre : List D}, P pre w → (∀ pre w d, P pre w → d ∈ l → ∃ x w', e (env.set i (.dat d)) w = .ok (.dat x) w' ∧ P (pre ++ [x]) w') →
    ∃ xs w', compGo (gN i) tYes' e env l w = .ok xs w' ∧ P (pre ++ xs) w' ∧ xs.length = l.length
  | [], w, pre, h, _ => ⟨[], w, rfl, by simpa using h, rfl⟩
  | d :: l, w, pre, h, s => by
    obtain ⟨x, w1, e1, h1⟩ := s pre w d h (.head _)
    obtain ⟨xs, w2, e2, h2, h3⟩ := compGo_inv h1 (fun pre w y hp hy => s pre w y hp (.tail _ hy))
    refine ⟨x :: xs, w2, ?_, by simpa using h2, by simp [h3]⟩
    unfold compGo
    simp only [gN_ap, tYes_ap, noX_ok, bind_ok, if_true, e1, st_dat, e2]
theorem for_cons {g : Tgt} {s : Sd} {d : D} {ds : List D} {env : Ev} {w : World} : forGo g s (d :: ds) env w = (match g d env with
    | some env1 => (s env1 w).bind fun f w1 => (match f with
      | .nx e => forGo g s ds e w1
      | .ct e => forGo g s ds e w1
      | .bk e => .ok (.nx e) w1
      | .rt r => .ok (.rt r) w1)
    | none => .stuck) := rfl
/-- a loop without break or return, by an invariant -/
theorem for_inv {i : Nat} {s : Sd} {P : Nat → Ev → World → Prop} : ∀ {l : List D} {k : Nat} {env : Ev} {w : World}, P k env w → (∀ j d env w, P (k + j) env w → l[j]? = some d → ∃ env' w', s (env.set i (.dat d)) w = .ok (.nx env') w' ∧ P (k + j + 1) env' w') →
    ∃ env' w', forGo (gN i) s l env w = .ok (.nx env') w' ∧ P (k + l.length) env' w'
  | [], k, env, w, h, _ => ⟨env, w, rfl, by simpa using h⟩
  | d :: l, k, env, w, h, st => by
    obtain ⟨e1, w1, q1, h1⟩ := st 0 d env w (by simpa using h) rfl
    obtain ⟨e2, w2, q2, h2⟩ := for_inv (l := l) (k := k + 1) h1 (fun j x e w hp hx => by
      obtain ⟨a, b, c, d⟩ := st (j + 1) x e w (by rw [show k + (j + 1) = k + 1 + j by omega]; exact hp) hx
      exact ⟨a, b, c, by rw [show k + 1 + j + 1 = k + (j + 1) + 1 by omega]; exact d⟩)
    refine ⟨e2, w2, ?_, by rw [List.length_cons, show k + (l.length + 1) = k + 1 + l.length by omega]; exact h2⟩
    rw [for_cons]
    simp only [gN_ap, q1, bind_ok, q2]
end Dl
/-! DlT: the tape. -/
namespace Dl
open PySem PySem.Spec PyProof.Rows L2 NdefX
theorem atI_nat {α : Type} {l : List α} {i : Int} (h0 : 0 ≤ i) (h1 : i < l.length) : atI l i = l[i.toNat]? := by
  unfold atI ixN
  rw [if_pos h0, if_pos h1]
  rfl
def tapeD (ns : List Int) (pos c2 c3 c4 : Int) : WO := .lst [.lst (ns.map .int), .int pos, .int c2, .int c3, .int c4]
/-- the world's first object is a tape -/
def TapeOk (rest w : World) : Prop := ∃ ns pos c2 c3 c4, w = tapeD ns pos c2 c3 c4 :: rest ∧ 0 ≤ pos
theorem at0 {a b c d e : D} : atI [a, b, c, d, e] 0 = some a := rfl
theorem at1 {a b c d e : D} : atI [a, b, c, d, e] 1 = some b := rfl
theorem at2 {a b c d e : D} : atI [a, b, c, d, e] 2 = some c := rfl
theorem at3 {a b c d e : D} : atI [a, b, c, d, e] 3 = some d := rfl
theorem at4 {a b c d e : D} : atI [a, b, c, d, e] 4 = some e := rfl
theorem ix5 {i : Int} (h : 0 ≤ i) (h1 : i < 5) : ixN 5 i = some i.toNat := by
  unfold ixN
  rw [if_pos h, if_pos (by simpa using h1)]
@[simp] theorem endR_rt' (r : RV) (w : World) : endR (.ok (.rt r) w) = .ok r w := rfl
theorem tape_run {C : Cs} {l : List Int} {w : World} : runB ⟨1, 1, b__law_tape⟩ C [.dat (.lst (l.map .int))] w = .ok (.fresh [.lst (l.map .int), .int 0, .int 0, .int 1, .int 0]) w := by
  simp [runB, initE, toSl, b__law_tape]
theorem pick_run {C : Cs} {rest w : World} {m : Int} (h : TapeOk rest w) (hm : 0 < m) (hb : m < 1073741824) :
    ∃ r w', runB ⟨2, 5, b__law_pick⟩ C [.wref 0, .dat (.int m)] w = .ok (.dat (.int r)) w' ∧ TapeOk rest w' ∧ 0 ≤ r ∧ r < m := by
  obtain ⟨ns, pos, c2, c3, c4, rfl, hp⟩ := h
  have hmod : ∀ z : Int, 0 ≤ z % m ∧ z % m < m := fun z => ⟨Int.emod_nonneg _ (by omega), Int.emod_lt_of_pos _ hm⟩
  simp only [runB, initE, toSl, b__law_pick, tapeD, List.length_cons, List.length_nil, Nat.reduceAdd, if_true, List.map_cons, List.map_nil, Nat.reduceSub, List.replicate]
  by_cases h2 : 1 < c2
  · refine ⟨c2 % m, tapeD ns pos (c2 / m) c3 c4 :: rest, ?_, ⟨ns, pos, c2 / m, c3, c4, rfl, hp⟩, hmod c2⟩
    simp [at0, at1, at2, at3, at4, h2, hm, hb, ix5, tapeD]
  · have mk : ∀ i j : Int, i.natAbs < 2 ^ 64 → mulOk i j = true := fun i j h => by simp [mulOk, h]
    have mk' : ∀ i j : Int, j.natAbs < 2 ^ 64 → mulOk i j = true := fun i j h => by simp [mulOk, h]
    have fin : ∀ cell pos' : Int, 0 ≤ pos' → ∃ r w', endR
        ((if 1000000000000000000 ≤ cell then Out.ok (Fl.rt (.dat (.int (cell % m)))) (tapeD ns pos' (cell / m) c3 (c4 + 1) :: rest) else
          (Out.ok (Fl.rt (.dat (.int ((c3 * 48271 + cell % 2147483629 + (c4 + 1) * 69621) % 2147483647 * ((c3 * 48271 + cell % 2147483629 + (c4 + 1) * 69621) % 2147483647 / 1009 + 40692) % 2147483399 / 16 % m)))) (tapeD ns pos' c2 ((c3 * 48271 + cell % 2147483629 + (c4 + 1) * 69621) % 2147483647 * ((c3 * 48271 + cell % 2147483629 + (c4 + 1) * 69621) % 2147483647 / 1009 + 40692) % 2147483399) (c4 + 1) :: rest)))) = .ok (.dat (.int r)) w' ∧ TapeOk rest w' ∧ 0 ≤ r ∧ r < m := fun cell pos' hp' => by
      split
      · exact ⟨_, _, rfl, ⟨_, _, _, _, _, rfl, hp'⟩, hmod _⟩
      · exact ⟨_, _, rfl, ⟨_, _, _, _, _, rfl, hp'⟩, hmod _⟩
    by_cases hlt : pos < ns.length
    · obtain ⟨k, rfl⟩ : ∃ k : Nat, pos = k := ⟨pos.toNat, by omega⟩
      have hk : k < ns.length := by omega
      have hc : atI (ns.map D.int) (k : Int) = some (.int ns[k]) := by
        rw [atI_nat (by omega) (by simpa using hlt)]
        simp [hk]
      have mo := mk ((c3 * 48271 + ns[k] % 2147483629 + (c4 + 1) * 69621) % 2147483647) ((c3 * 48271 + ns[k] % 2147483629 + (c4 + 1) * 69621) % 2147483647 / 1009 + 40692) (by omega)
      have := fin ns[k] (k + 1) (by omega)
      revert this
      simp [at0, at1, at2, at3, at4, h2, hm, hb, ix5, tapeD, hlt, hc, mk', mo, hk]
    · have mo := mk ((c3 * 48271 + (c4 + 1) * 69621) % 2147483647) ((c3 * 48271 + (c4 + 1) * 69621) % 2147483647 / 1009 + 40692) (by omega)
      have := fin 0 pos hp
      revert this
      simp [at0, at1, at2, at3, at4, h2, hm, hb, ix5, tapeD, hlt, mk', mo]
end Dl
/-! DlQ: lists. -/
namespace Dl
open PySem PySem.Spec PyProof.Rows L2 NdefX
section
variable {α : Type} {l : List α}
theorem atI_get {k : Nat} (h : k < l.length) : atI l (k : Int) = some l[k] := by
  rw [atI_nat (by omega) (by omega)]
  simp [h]
theorem ixN_get {n k : Nat} (h : k < n) : ixN n (k : Int) = some k := by
  unfold ixN
  rw [if_pos (by omega), if_pos (by omega)]
  rfl
theorem cutD_to {k : Nat} : cutD l none (some (k : Int)) = l.take k := by
  unfold cutD
  rw [HT.sIx_none, HT.sIx_nat]
  simp only [List.drop_zero, Nat.sub_zero]
  by_cases h : k ≤ l.length
  · rw [Nat.min_eq_left h]
  · rw [Nat.min_eq_right (by omega), List.take_of_length_le (Nat.le_refl _), List.take_of_length_le (by omega)]
theorem cutD_from {k : Nat} : cutD l (some (k : Int)) none = l.drop k := by
  unfold cutD
  rw [HT.sIx_none, HT.sIx_nat]
  by_cases h : k ≤ l.length
  · rw [Nat.min_eq_left h, List.take_of_length_le (by simp)]
  · rw [Nat.min_eq_right (by omega), List.drop_of_length_le (Nat.le_refl _), List.drop_of_length_le (by omega)]
    simp
theorem rngD_nat (n : Nat) : rngD 0 (n : Int) = (List.range n).map fun (i : Nat) => D.int (i : Int) := by
  unfold rngD
  simp
end
end Dl
/-! DlV: tables of code objects: what the walk with closures needs. -/
namespace Dl
open PySem PySem.Spec PyProof.Rows L2 NdefX
/-- code object, its table, the closure's qualified name -/
abbrev Cts : Type := List (Addr × Addr × Str)
abbrev TT (nd : Nat → Option ND) (cts : Cts) : Tbs := ⟨(cts.map (·.2)).map fun p => (p.1, fun _ _ => p.2), nd⟩
theorem tt_tabs {nd : Nat → Option ND} (cts : Cts) : (TT nd cts).tabs = (cts.map (·.2)).map fun p => (p.1, fun _ _ => p.2) := rfl
theorem tt_mem {nd : Nat → Option ND} {cts : Cts} {P : Addr} {q : Str} (h : (P, q) ∈ cts.map (·.2)) : ((P, fun _ _ => q) : NTab) ∈ (TT nd cts).tabs := List.mem_map.mpr ⟨(P, q), h, rfl⟩
theorem tt_uni {nd : Nat → Option ND} {cts : Cts} {P : Addr} {q : Str} (h : ∀ p ∈ cts.map (·.2), p.1 = P → p.2 = q) : ∀ p ∈ (TT nd cts).tabs, p.1 = P → p.2 = fun _ _ => q := fun p hp e => by
  obtain ⟨z, hz, rfl⟩ := List.mem_map.mp hp
  funext a b
  exact h z hz e
structure Makes (base : Heap) (mg : Str → Option Value) (cts : Cts) : Prop where
  tb : ∀ p ∈ cts, LamX.TabB base mg p.1 p.2.1
  un : ∀ p ∈ cts, ∀ q ∈ cts, p.2.1 = q.2.1 → p.2.2 = q.2.2
theorem Makes.mem {base : Heap} {mg : Str → Option Value} {cts : Cts} {c P : Addr} {q : Str} (_ : Makes base mg cts) (h : (c, P, q) ∈ cts) : (P, q) ∈ cts.map (·.2) := List.mem_map.mpr ⟨_, h, rfl⟩
theorem Makes.uni {base : Heap} {mg : Str → Option Value} {cts : Cts} {c P : Addr} {q : Str} (B : Makes base mg cts) (h : (c, P, q) ∈ cts) : ∀ p ∈ cts.map (·.2), p.1 = P → p.2 = q := fun p hp e => by
  obtain ⟨z, hz, rfl⟩ := List.mem_map.mp hp
  exact B.un z hz _ h e
theorem lasts_tt : Lasts (fun _ _ _ _ => True) := fun _ _ _ _ _ _ _ _ _ => trivial
theorem fr_of {fr : List Str} {ns : List (Str × NameKind)} (h : (ns.all fun y => !decide (y.2 = .free) || decide (y.1 ∈ fr)) = true) {y : Str} (hy : (y, NameKind.free) ∈ ns) : y ∈ fr := by
  have q := List.all_eq_true.mp h _ hy
  simp only [decide_true, Bool.not_true, Bool.false_or, decide_eq_true_eq] at q
  exact q
theorem own_of {l : List Str} {f : Str → Bool} (h : (l.all f) = true) {y : Str} (hy : y ∈ l) : f y = true := List.all_eq_true.mp h _ hy
theorem clos_zero {P : Program} {w : PySem.World} {K : PySem.W.Frag} {mg : Str → Option Value} {base : Heap} {T : Tbs} {tbl : Nat → Option DefB} : Clos P w K mg base T (Den tbl 0) 0 := fun i nd caps _ _ => by
  have no : ∀ ws vs H Q E, ¬ spC ⟨K, mg, T⟩ ((Den tbl 0).call i) caps ws vs H Q E := fun ws vs H Q E h => by
    obtain ⟨_, _, _, _, _, _, _, _, _, _, q⟩ := h
    exact q
  exact ⟨fun ws vs H Q E h => absurd h (no ws vs H Q E), fun f cl c' A outer s H us vs ws Q E _ _ _ _ _ _ h => absurd h (no ws vs H Q E)⟩
def stAt (i : Nat) (b : List Stmt) : Stmt := b.getD i (.Pass ⟨0, 0, 0, 0⟩)
/-- the first lambda in an expression, in the calls and tuples of it -/
def lamE : Nat → Expr → Option Expr
  | 0, _ => none
  | n + 1, e => match e with
    | .Lambda a b s p => some (.Lambda a b s p)
    | .Call f es _ _ => (f :: es).findSome? (lamE n)
    | .Tuple es _ _ => es.findSome? (lamE n)
    | _ => none
def lamIn (b : List Stmt) : Option Expr := b.findSome? fun st => match st with
  | .Return (some e) _ => lamE 8 e
  | _ => none
def ndLam (o : Option Expr) (q : Str) (ps fr : List Str) : ND := match o with
  | some (.Lambda a b s _) => ⟨"<lambda>", q, a, .inr b, s, ps, fr⟩
  | _ => ⟨"<lambda>", q, defArgs (.Pass ⟨0, 0, 0, 0⟩), .inl [], defScope (.Pass ⟨0, 0, 0, 0⟩), ps, fr⟩
end Dl
/-! DlX: max and min of a list. -/
namespace Dl
open PySem PySem.Spec PyProof.Rows L2 NdefX
def maxI : Int → List Int → Int
  | x, [] => x
  | x, y :: l => maxI (if y > x then y else x) l
def minI : Int → List Int → Int
  | x, [] => x
  | x, y :: l => minI (if y < x then y else x) l
theorem maxI_ge : ∀ (l : List Int) (x : Int), x ≤ maxI x l ∧ (∀ y ∈ l, y ≤ maxI x l) ∧ (maxI x l = x ∨ maxI x l ∈ l)
  | [], x => ⟨Int.le_refl _, by simp, .inl rfl⟩
  | y :: l, x => by
    obtain ⟨h1, h2, h3⟩ := maxI_ge l (if y > x then y else x)
    simp only [maxI]
    have a : x ≤ (if y > x then y else x) ∧ y ≤ (if y > x then y else x) ∧ ((if y > x then y else x) = x ∨ (if y > x then y else x) = y) := by
      split <;> omega
    refine ⟨by omega, fun z hz => ?_, ?_⟩
    · rcases List.mem_cons.mp hz with rfl | hz
      · omega
      · exact h2 z hz
    · rcases h3 with h | h
      · rcases a.2.2 with q | q
        · left; omega
        · right; rw [h, q]; exact .head _
      · exact .inr (.tail _ h)
theorem minI_le : ∀ (l : List Int) (x : Int), minI x l ≤ x ∧ (∀ y ∈ l, minI x l ≤ y) ∧ (minI x l = x ∨ minI x l ∈ l)
  | [], x => ⟨Int.le_refl _, by simp, .inl rfl⟩
  | y :: l, x => by
    obtain ⟨h1, h2, h3⟩ := minI_le l (if y < x then y else x)
    simp only [minI]
    have a : (if y < x then y else x) ≤ x ∧ (if y < x then y else x) ≤ y ∧ ((if y < x then y else x) = x ∨ (if y < x then y else x) = y) := by
      split <;> omega
    refine ⟨by omega, fun z hz => ?_, ?_⟩
    · rcases List.mem_cons.mp hz with rfl | hz
      · omega
      · exact h2 z hz
    · rcases h3 with h | h
      · rcases a.2.2 with q | q
        · left; omega
        · right; rw [h, q]; exact .head _
      · exact .inr (.tail _ h)
theorem max_is {x m : Int} {l : List Int} (hm : m ∈ x :: l) (h : ∀ y ∈ x :: l, y ≤ m) : m = maxI x l := by
  obtain ⟨h1, h2, h3⟩ := maxI_ge l x
  have a : maxI x l ≤ m := by
    rcases h3 with q | q
    · rw [q]; exact h x (.head _)
    · exact h _ (.tail _ q)
  have b : m ≤ maxI x l := by
    rcases List.mem_cons.mp hm with rfl | q
    · exact h1
    · exact h2 m q
  omega
theorem min_is {x m : Int} {l : List Int} (hm : m ∈ x :: l) (h : ∀ y ∈ x :: l, m ≤ y) : m = minI x l := by
  obtain ⟨h1, h2, h3⟩ := minI_le l x
  have a : m ≤ minI x l := by
    rcases h3 with q | q
    · rw [q]; exact h x (.head _)
    · exact h _ (.tail _ q)
  have b : minI x l ≤ m := by
    rcases List.mem_cons.mp hm with rfl | q
    · exact h1
    · exact h2 m q
  omega
def cMax1 : List D → Option RV
  | [.lst l] => (match intsOf l with
    | some (x :: r) => some (.dat (.int (maxI x r)))
    | _ => none)
  | _ => none
def cMin1 : List D → Option RV
  | [.lst l] => (match intsOf l with
    | some (x :: r) => some (.dat (.int (minI x r)))
    | _ => none)
  | _ => none
section
variable {X : Cx}
theorem cs_max1 (hc : X.calm = true) : CaS X (.builtin "max") cMax1 := by
  refine ⟨_, cr_max hc, fun xs ds rv H F fh nt p h Q q => ?_⟩
  unfold cMax1 at h
  split at h
  · rename_i l
    split at h
    · rename_i x r e
      simp only [Option.some.injEq] at h; subst h
      cases p with
      | cons h1 h2 =>
        cases h2
        obtain ⟨hz, a, vs, e1, h3, h4⟩ := h1
        subst e1
        rw [ints_at h4 e] at h3
        exact ⟨a, x :: r, rfl, h3, by simp, fun m hm hy => by rw [max_is hm hy]; exact new_val fh nt q (.int _)⟩
    · cases h
  · cases h
theorem cs_min1 (hc : X.calm = true) : CaS X (.builtin "min") cMin1 := by
  refine ⟨_, cr_min hc, fun xs ds rv H F fh nt p h Q q => ?_⟩
  unfold cMin1 at h
  split at h
  · rename_i l
    split at h
    · rename_i x r e
      simp only [Option.some.injEq] at h; subst h
      cases p with
      | cons h1 h2 =>
        cases h2
        obtain ⟨hz, a, vs, e1, h3, h4⟩ := h1
        subst e1
        rw [ints_at h4 e] at h3
        exact ⟨a, x :: r, rfl, h3, by simp, fun m hm hy => by rw [min_is hm hy]; exact new_val fh nt q (.int _)⟩
    · cases h
  · cases h
end
/-! ### a list that is not changed any more -/
def dFrz (e : Ex) : Ex := fun env w => (e env w).bind fun r w1 => match r.arg with
  | some (.dat d) => .ok (.dat d) w1
  | _ => .stuck
section
variable {X : Cx} {T : Tbs} {Wi : WX} {e : Expr} {d : Ex}
theorem frz_read {σ : St} {H : Hp} {Q : VK} (q : tD (Cx.tx X T) Wi (dFrz d) σ H Q) : tD (Cx.tx X T) Wi d σ H Q := by
  obtain ⟨B, env, w, F, O, M, s, q⟩ := q
  refine ⟨B, env, w, F, O, M, s, q.bind.imp fun r w1 q1 v H1 F1 M1 s1 st1 r1 => ?_⟩
  split at q1
  · rename_i x ex
    obtain ⟨F2, s2, st2, a2⟩ := keep_arg s s1 st1 r1 ex
    exact q1 v H1 F2 M1 s2 st2 a2
  · exact q1.elim
theorem je_frz (h : JE X T Wi e d) : JE X T Wi e (dFrz d) := h.impD fun σ H Q q => frz_read q
@[simp] theorem dFrz_ap {env : Ev} {w : World} : dFrz d env w = (d env w).bind fun r w1 => match r.arg with
  | some (.dat d) => .ok (.dat d) w1
  | _ => .stuck := rfl
end
section
variable {X : Cx} {T : Tbs} {Wi : WX} {pos : Pos}
theorem js_setCF {i : Nat} {y : Str} {py spos : Pos} {elt tg iter : Expr} {ifs : List Expr} {scope : Scope} {own : List (Str × Nat)} {src : Src} {g : Tgt} {tt : Tst} {de : Ex} {us vs : List Nat} (hc : X.calm = true) (hN : X.N.Nodup) (hy : X.N[i]? = some y) (hyl : X.env.scope.names.lookup y = some .local)
    (hsw : swapsWith (.ListComp elt [⟨tg, iter, ifs, 0⟩] scope pos) (some (.Name y py)) spos.line X.env = pure true) (hi : JI X T Wi tg iter src) (ok : BlkOk X.N X.env.scope scope own) (hv : own.map (·.2) = vs) (hvs : ∀ i ∈ us, i ∈ vs)
    (hg : ∀ (s : Shared) (H : Hp) (C : Addr) (cl : List (Str × Addr)) (fp : List Addr), JG (X.blk s H scope (compEnvC scope cl C X.env) fp) T tg g us)
    (ht : ∀ (s : Shared) (H : Hp) (C : Addr) (cl : List (Str × Addr)) (fp : List Addr), JTs (X.blk s H scope (compEnvC scope cl C X.env) fp) T ifs tt)
    (he : ∀ (s : Shared) (H : Hp) (C : Addr) (cl : List (Str × Addr)) (fp : List Addr), JE (X.blk s H scope (compEnvC scope cl C X.env) fp) T noW elt de) (hs : ∀ x, foldedSetIterable iter X.env x = pure x := by intro _; rfl) :
    JS X T Wi (.Assign [.Name y py] (.ListComp elt [⟨tg, iter, ifs, 0⟩] scope pos) spos) (sSet i (dFrz (dComp src vs g tt de))) := by
  subst hv
  exact (js_setComp hc hN hy hyl hsw hi ok hvs hg ht he hs).impD fun D σ H q => frz_read (set_read q)
end
end Dl
/-! DlY: get with a default, two names at once. -/
namespace Dl
open PySem PySem.Spec PyProof.Rows L2 NdefX
section
variable {X : Cx} {T : Tbs} {Wi : WX} {a f : Expr} {da : Ex} {pos : Pos}
theorem je_getK2 {x : Str} {t : List (Str × D)} {c : V} {p0 apos : Pos} (D : TabAt X.K X.w X.mg x t) (hg : Gl X x) (ha : JE X T Wi a da) (hf : PE X f (tC c)) (m : M2 X (.Name x p0) "get" apos a f pos := by exact ⟨rfl, rfl, rfl, rfl⟩) (hd : (x == ("__debug__" : Str)) = false := by decide) :
    JE X T Wi (.Call (.Attribute (.Name x p0) "get" apos) [a, f] [] pos) (dUn (gGetK t) da) := by
  obtain ⟨l, es, n, hx, kd, hv⟩ := D.ex
  refine ⟨fun pins s σ H Q I q => ?_⟩
  have q := un_read (r := fun x H1 Q => ∃ z v u, x = .str z ∧ PySem.W.nsIn X.K l z = some (some u) ∧ RelV v u ∧ Q v H1) (fun x d rv H F fh nt rx h Q q => ?_) q
  · refine wpAny_Call_method m.base m.few m.line PySem.F.plainAttrs_dict PySem.F.slot_dict_get PySem.F.type_dict_get (thn ((pe_glob (v := .ref l) hg hx rfl hd).run pins s σ H (fun v H' => v = .ref l ∧ H' = H) I ⟨rfl, rfl⟩) fun u s1 ⟨x, H1, I1, rx, ex, eh⟩ => ?_)
    subst ex eh
    obtain rfl : u = Value.ref l := rx
    have mo := PySem.W.mapOf_K (prog := X.prog) (w := X.w) I1.kIn kd.at_ kd.lit
    refine ⟨mo.typeIs, fun b e => ?_, ?_⟩
    · cases e
      exact ⟨_, I1.kIn _ _ kd.at_, rfl⟩
    rw [m.trees]
    refine Calls.callWith_builtin rfl (Calls.evalArgs_plain (Calls.spliced_cons (thn (ha.run pins s1 σ H1 _ I1 q) fun iv s2 ⟨y, H2, I2, ry, z, v, u, ez, en, rv, q2⟩ =>
      Calls.spliced_cons (thn (hf.run pins s2 σ H2 (fun _ H3 => Q v H3) I2 q2) fun fv s3 ⟨c', H3, I3, rc, q3⟩ => Calls.spliced_nil ?_))))
    subst ez
    obtain ⟨t, rfl⟩ := (show ∃ t, iv = Value.str z t from ry)
    have mo2 := PySem.W.mapOf_K (prog := X.prog) (w := X.w) I3.kIn kd.at_ kd.lit
    refine call_meetsIn PySem.F.slot_dict_get mo2.typeIs PySem.F.entry_dict_get (PySem.F.args_dict_get_3 _ _ _) (meets_dict_get_default (PySem.strKind X.prog X.w) l (PySem.strKind_is X.prog X.w z t) kd.low fv) ⟨_, mo2, ?_⟩
    rw [PySem.W.find_K kd.at_ en]
    exact ⟨v, H3, I3.tok _, rv, q3⟩
  · cases d <;> first | (simp only [gGetK] at h; cases h; done) | skip
    rename_i z
    cases rx
    simp only [gGetK] at h
    split at h
    · rename_i i e
      cases h
      obtain ⟨u, e1, e2⟩ := hv _ (lookup_mem e)
      exact ⟨z, .int i, u, rfl, e1, e2, new_val fh nt q (.int i)⟩
    · rename_i i e
      cases h
      obtain ⟨u, e1, e2⟩ := hv _ (lookup_mem e)
      exact ⟨z, .bl i, u, rfl, e1, e2, new_val fh nt q (.bl i)⟩
    · cases h
/-- x, y = a, b -/
def sPar (i j : Nat) (es : Exs) : Sd := fun env w => (es env w).bind fun rs w1 => match rs with
  | [.dat x, .dat y] => .ok (.nx ((env.set i (.dat x)).set j (.dat y))) w1
  | _ => .stuck
theorem js_par {i j : Nat} {x y : Str} {a b : Expr} {es : Exs} {px py pt : Pos} {kt k2 pt2} (hc : X.calm = true) (hN : X.N.Nodup) (hi : X.N[i]? = some x) (hj : X.N[j]? = some y) (hij : i ≠ j)
    (hx : X.env.scope.names.lookup x = some .local) (hy : X.env.scope.names.lookup y = some .local) (ha : JA X T Wi [a, b] es)
    (hw : swappedStores [.Tuple [.Name x px, .Name y py] kt pt] (.Tuple [a, b] k2 pt2) X.env = pure (some [x, y]))
    (hs : swapsWithSole [.Tuple [.Name x px, .Name y py] kt pt] (.Tuple [a, b] k2 pt2) pos.line X.env = pure false := by rfl) :
    JS X T Wi (.Assign [.Tuple [.Name x px, .Name y py] kt pt] (.Tuple [a, b] k2 pt2) pos) (sPar i j es) := by
  refine (ps_par hc hN hi hj hij hx hy ha hw hs).impD fun D σ H q => ?_
  obtain ⟨B, env, w, F, O, M, s, q⟩ := q
  refine ⟨B, env, w, F, O, M, s, q.bind.imp fun rs w1 q1 vs H1 F1 M1 s1 st1 pa => ?_⟩
  split at q1
  · rename_i d1 d2
    cases pa with
    | cons h1 t =>
      cases t with
      | cons h2 t =>
        cases t
        exact ⟨_, _, rfl, q1 _ H1 F1 O M1 ((s1.setDat h1).setDat h2) st1.fg⟩
  · exact q1.elim
@[simp] theorem sPar_ap {i j : Nat} {es : Exs} {env : Ev} {w : World} : sPar i j es env w = (es env w).bind fun rs w1 => match rs with
  | [.dat x, .dat y] => .ok (.nx ((env.set i (.dat x)).set j (.dat y))) w1
  | _ => .stuck := rfl
end
end Dl
/-! DlH2: the head: a hook with facts of one's own, the law's end at any world. -/
namespace Dl
open PySem PySem.Spec PyProof.Rows L2 NdefX He
abbrev AlX : Type := AlT × Bool
def obsX (fa : List Fa) (fn : List DefD) (ts : List Tab) (ex : PySem.W.Frag → Bool) (K : PySem.W.Frag) : AlX := (obsT fa fn ts K, ex K)
def valX (fn : List DefD) (ts : List Tab) (w : PySem.World) : AlX := (valT fn ts w, true)
def obsXG (n : Nat) (fa : List Fa) (fn : List DefD) (ts : List Tab) (ex : PySem.W.Frag → Bool) (g : Addr → Option Obj) : AlX := obsX fa fn ts ex (frG g (asD g n))
def SaysX (fa : List Fa) (fn : List DefD) (ts : List Tab) (ex : PySem.W.Frag → Bool) (w : PySem.World) (K : PySem.W.Frag) : Prop := obsX fa fn ts ex K = valX fn ts w
def hookX (n : Nat) (fa : List Fa) (fn : List DefD) (ts : List Tab) (ex : PySem.W.Frag → Bool) : PySem.W.Hook where
  α := AlX
  obs := fun s => obsXG n fa fn ts ex s.heap.get?
  val := fun w => valX fn ts w
  says := fun w h => ∃ K : PySem.W.Frag, K.In h ∧ SaysX fa fn ts ex w K
  of := fun _ _ e => ⟨_, frG_in, e⟩
  keeps := fun _ _ _ ⟨K, hK, c⟩ k => ⟨K, PySem.W.Frag.In.keeps hK k, c⟩
theorem obsXG_eq {n : Nat} {fa : List Fa} {fn : List DefD} {ts : List Tab} {ex : PySem.W.Frag → Bool} {g : Addr → Option Obj} {s : Shared} (h : ∀ a, g a = s.heap.get? a) : obsXG n fa fn ts ex g = (hookX n fa fn ts ex).obs s := by
  have e : g = s.heap.get? := funext h
  rw [e] <;> rfl
section
variable {fa : List Fa} {fn : List DefD} {ts : List Tab} {ex : PySem.W.Frag → Bool} {w : PySem.World} {K : PySem.W.Frag}
theorem SaysX.t (c : SaysX fa fn ts ex w K) : SaysT fa fn ts w K := congrArg (fun z : AlX => z.1) c
theorem SaysX.x (c : SaysX fa fn ts ex w K) : ex K = true := congrArg (fun z : AlX => z.2) c
/-- a table of ints by text keys -/
theorem tabAt_of {mg : Str → Option Value} {h : Heap} {x : Str} {t : List (Str × D)} {kvs : List (Str × Dv)} {es : Array DictEntry} {n : Nat} (X : K.In h) (G : h.Ns mainGlobals mg) (c : (Fa.glo x).ok K = true) (kd : KDict K w (ga K x) es n) (hv : valsB K (ga K x) kvs = true)
    (he : t.map (fun q => (q.1, sV q.2)) = kvs.map fun q => (q.1, q.2.v K)) : TabAt K w mg x t := by
  refine ⟨ga K x, es, n, glo_ok X G c, kd, fun q hq => ?_⟩
  have m : (q.1, sV q.2) ∈ kvs.map fun q => (q.1, q.2.v K) := by rw [← he]; exact List.mem_map.mpr ⟨q, hq, rfl⟩
  obtain ⟨r, hr, er⟩ := List.mem_map.mp m
  obtain ⟨u, e1, e2⟩ := valsB_ok hv hr
  have e3 : r.1 = q.1 := congrArg Prod.fst er
  have e4 : r.2.v K = sV q.2 := congrArg Prod.snd er
  rw [e3] at e1
  rw [e4] at e2
  exact ⟨u, e1, e2⟩
end
theorem noCX {P : Program} {w : PySem.World} (H : Hp) (s : Shared) (e : Value) (s' : Shared) (h : L2.CX P w [] H s (fun _ _ _ => False) e s') : False := by
  obtain ⟨_, _, _, _, _, _, _, _, _, _, _, _, f⟩ := h
  exact f
/-- walk_ofE, with what is behind a call at the world -/
theorem walk_ofW {l : PySem.W.OpenLaw} {n k : Nat} {q : Program} {loose : List Str} {XP : (Str → Option Value) → Heap → Prop} {YP : PySem.World → Heap → Prop} {d : DefRec} {x : Str}
    (hn : l.most = some n) (hn2 : n ≤ sizeLine) (hdf : d.params.defaults = []) (hr : Room k callerA)
    (F : ∀ (w : PySem.World) (mg : Str → Option Value) (fa : Addr) (h : Heap), YP w h → h.Ns mainGlobals mg → mg d.name = some (.ref fa) →
      ∃ (K : PySem.W.Frag) (fd : FuncData) (sp : Sp), K.In h ∧ (∀ (s : Shared) (u : Value), BindsTo s fd ⟨[u], []⟩ [(x, u)]) ∧
        (∀ (H : Hp) (a : Addr) (ns : List Int), ns.length ≤ n → Only H → SqL K H a (ns.map V.int) → sp [.ref a] H (fun v _ => v = .bl true) fun _ _ _ => False) ∧
        ∀ base : Heap, K.In base → base.Ns mainGlobals mg → FnOk l.prog w K mg base (L2.CX l.prog w) k fa fd [x] sp) :
    PySem.W.WalkO q loose XP YP l.row.toRowW d [] (fun f vs => PySem.call f vs) := by
  refine Att.attach_call hn hdf fun w s₀ s₁ mg mb fa o pm cd doc a vs ns G Y ho hd hcd hmg hobj hints hlen hg => ?_
  obtain ⟨K, fd, sp, KX, hb, hsp, hF⟩ := F w mg fa _ Y G.T.g hmg
  exact law_call KX G.T.g G.T.b G.T.builtins G.T.nolimit hg hobj hints (Nat.le_trans hlen hn2) hr hF hb (fun H hO hS => hsp H a ns hlen hO hS) fun H e s' => noCX H s₁ e s'
theorem ref_inj {f g : Addr} (h : some (Value.ref f) = some (Value.ref g)) : f = g := by
  cases h
  rfl
end Dl
/-! DlH4: the head of a law with closures: the tables of the defs that make them. -/
namespace Dl
open PySem PySem.Spec PyProof.Rows L2 NdefX
def ctsOf (K : PySem.W.Frag) (tq : List (He.Defn × Str)) : Cts := tq.map fun p => ((He.cT K p.1).1, (He.cT K p.1).2, p.2)
/-- the tables are different ones -/
def apart (K : PySem.W.Frag) (tf : List He.Defn) : Bool := decide ((tf.map fun p => (He.cT K p).2).Nodup)
theorem cts_un {K : PySem.W.Frag} {tq : List (He.Defn × Str)} (h : apart K (tq.map (·.1)) = true) : ∀ p ∈ ctsOf K tq, ∀ q ∈ ctsOf K tq, p.2.1 = q.2.1 → p.2.2 = q.2.2 := by
  have h := of_decide_eq_true h
  rw [List.map_map] at h
  intro p hp q hq e
  obtain ⟨a, ha, rfl⟩ := List.mem_map.mp hp
  obtain ⟨b, hb, rfl⟩ := List.mem_map.mp hq
  have key : ∀ (l : List (He.Defn × Str)), (l.map ((fun p => (He.cT K p).2) ∘ (·.1))).Nodup → a ∈ l → b ∈ l → (He.cT K a.1).2 = (He.cT K b.1).2 → a = b := by
    intro l
    induction l with
    | nil => intro _ h; cases h
    | cons x l ih =>
      intro nd h1 h2 e
      rw [List.map_cons, List.nodup_cons] at nd
      rcases List.mem_cons.mp h1 with e1 | k1
      · rcases List.mem_cons.mp h2 with e2 | k2
        · rw [e1, e2]
        · exact absurd (List.mem_map.mpr ⟨b, k2, by rw [← e1]; exact e.symm⟩) nd.1
      · rcases List.mem_cons.mp h2 with e2 | k2
        · exact absurd (List.mem_map.mpr ⟨a, k1, by rw [← e2]; exact e⟩) nd.1
        · exact ih nd.2 k1 k2 e
  rw [key tq h ha hb e]
theorem maker_of {K : PySem.W.Frag} {x qual : Str} {params : Arguments} {body : List Stmt} {scope : Scope} {fd : FuncData} {tq : List (He.Defn × Str)} {p : He.Defn} {q : Str} (F : FunD K x qual params body scope [] [] (He.fAd K p) fd) (h : (p, q) ∈ tq) :
    ∃ c Pt, fd.code = .ref c ∧ ((c, Pt, q) : Addr × Addr × Str) ∈ ctsOf K tq := by
  obtain ⟨oc, od, dV, kV, doc, pm, an, cdv, ct, osl, rfl, lk, hcd, _, _⟩ := F.ex
  obtain ⟨c, e⟩ := He.codeIn_ref hcd
  have e2 := He.codeOf_eq lk (show _ = Value.ref c from e)
  refine ⟨c, (He.cT K p).2, e, List.mem_map.mpr ⟨(p, q), h, ?_⟩⟩
  show ((He.cT K p).1, (He.cT K p).2, q) = _
  rw [show (He.cT K p).1 = c from e2]
theorem tabs_nil {nd : Nat → Option ND} {cts : Cts} {H : Hp} (h : ∀ p ∈ cts, H p.2.1 = some (.tbl #[])) : TabsN (TT nd cts).tabs H := fun pT hp => by
  obtain ⟨z, hz, rfl⟩ := List.mem_map.mp hp
  obtain ⟨y, hy, rfl⟩ := List.mem_map.mp hz
  exact TabN.nil (h y hy)
theorem walk_ofM {l : PySem.W.OpenLaw} {n k : Nat} {q : Program} {loose : List Str} {XP : (Str → Option Value) → Heap → Prop} {fa : List He.Fa} {fn : List He.DefD} {ts : List He.Tab} {tq : List (He.Defn × Str)} {ex : PySem.W.Frag → Bool} {d : DefRec} {x : Str}
    (hn : l.most = some n) (hn2 : n ≤ sizeLine) (hdf : d.params.defaults = []) (hr : Room k callerA)
    (F : ∀ (w : PySem.World) (K : PySem.W.Frag) (mg : Str → Option Value) (fa' : Addr) (h : Heap), K.In h → He.SaysX fa fn ts (tq.map (·.1)) ex w h K → h.Ns mainGlobals mg → mg d.name = some (.ref fa') →
      ∃ (fd : FuncData) (sp : Sp), (∀ (s : Shared) (u : Value), BindsTo s fd ⟨[u], []⟩ [(x, u)]) ∧
        (∀ (H : Hp) (a : Addr) (ns : List Int), ns.length ≤ n → (∀ p ∈ ctsOf K tq, H p.2.1 = some (.tbl #[])) → SqL K H a (ns.map V.int) → sp [.ref a] H (fun v _ => v = .bl true) fun _ _ _ => False) ∧
        ∀ base : Heap, K.In base → base.Ns mainGlobals mg → (∀ p ∈ ctsOf K tq, LamX.TabB base mg p.1 p.2.1) → FnOk l.prog w K mg base (L2.CX l.prog w) k fa' fd [x] sp) :
    PySem.W.WalkO q loose XP (fun w h => ∃ K : PySem.W.Frag, K.In h ∧ He.SaysX fa fn ts (tq.map (·.1)) ex w h K) l.row.toRowW d [] (fun f vs => PySem.call f vs) := by
  refine LamX.walk_ofTsE (x := x) (CX := fun w => L2.CX l.prog w) hn hn2 hdf hr (fun w mg fa' h Y G hmg => ?_) fun w H s e s' h => noCX H s e s' h
  obtain ⟨K, KX, c⟩ := Y
  obtain ⟨fd, sp, h1, h2, h3⟩ := F w K mg fa' h KX c G hmg
  have mem : ∀ p ∈ (ctsOf K tq).map (fun p => (p.1, p.2.1)), ∃ t ∈ tq.map (·.1), p = He.cT K t := fun p hp => by
    obtain ⟨z, hz, rfl⟩ := List.mem_map.mp hp
    obtain ⟨y, hy, rfl⟩ := List.mem_map.mp hz
    exact ⟨y.1, List.mem_map.mpr ⟨y, hy, rfl⟩, rfl⟩
  refine ⟨K, KX, fd, (ctsOf K tq).map fun p => (p.1, p.2.1), sp, fun p hp => ?_, fun p hp => ?_, fun p hp => ?_, h1, fun H a ns hl _ hT hS => ?_, fun base hK hN hB => ?_⟩
  · obtain ⟨t, ht, rfl⟩ := mem p hp
    exact c.empty t ht
  · obtain ⟨t, ht, rfl⟩ := mem p hp
    exact c.out t ht
  · obtain ⟨t, ht, rfl⟩ := mem p hp
    exact PySem.W.codeHd_of_K KX (c.hd t ht)
  · exact h2 H a ns hl (fun p hp => hT (p.1, p.2.1) (List.mem_map.mpr ⟨p, hp, rfl⟩)) hS
  · exact h3 base hK hN fun p hp => hB (p.1, p.2.1) (List.mem_map.mpr ⟨p, hp, rfl⟩)
end Dl
namespace Dl
open PySem PySem.Spec PyProof.Rows L2 NdefX
def b_is_integer (C : Cs) : Sd := (sRet (dAnd (dUn (gIsi [.int]) (dName 0)) (dUn gNot (dUn (gIsi [.bool]) (dName 0)))))
def b_is_within (C : Cs) : Sd := (sRet (dAnd (dCall C 1 (aCons (dName 0) aNil)) (dChain (gLe C.room) (gLe C.room) (dName 1) (dName 0) (dName 2))))
def b_is_pair (C : Cs) : Sd := (sRet (dAnd (dUn (gIsi [.tuple]) (dName 0)) (dBin (gEq C.room) (dBlt cLen (rCons (dName 0) rNil)) (dC (.int 2)))))
def b_is_triple (C : Cs) : Sd := (sRet (dAnd (dUn (gIsi [.tuple]) (dName 0)) (dBin (gEq C.room) (dBlt cLen (rCons (dName 0) rNil)) (dC (.int 3)))))
def b_is_word (C : Cs) : Sd := (sSeq (sIf (tOr' (tNot' (dTru (dUn (gIsi [.str]) (dName 0)))) (tNot' (dTst (dChain (gLe C.room) (gLe C.room) (dC (.int 1)) (dBlt cLen (rCons (dName 0) rNil)) (dC (.int 8)))))) (sRet (dC (.bl false))) sNil)
  (sRet (dBlt cAll (rCons (dComp (iTxt (dName 0)) [1] (gN 1) tYes' (dBin (inD false C.room) (dName 1) (dC (.str "abcdefghijklmnopqrstuvwxyz")))) rNil))))
def b_is_door (C : Cs) : Sd := (sRet (dAnd (dCall C 24 (aCons (dName 0) aNil)) (dBin (gEq C.room) (dBlt cLen (rCons (dName 0) rNil)) (dC (.int 1)))))
def b_is_part (C : Cs) : Sd := (sSeq (sIf (dTru (dCall C 4 (aCons (dName 0) aNil))) (sSeq (sIf (dTst (dBin (gEq C.room) (dBin gIx (dName 0) (dC (.int 0))) (dC (.str "name")))) (sRet (dCall C 24 (aCons (dBin gIx (dName 0) (dC (.int 1))) aNil))) sNil)
  (sSeq (sIf (dTst (dBin (gEq C.room) (dBin gIx (dName 0) (dC (.int 0))) (dC (.str "mark")))) (sRet (dAnd (dCall C 1 (aCons (dBin gIx (dName 0) (dC (.int 1))) aNil)) (dBin (gGe C.room) (dBin gIx (dName 0) (dC (.int 1))) (dC (.int 0))))) sNil)
  (sRet (dAnd (dBin (gEq C.room) (dBin gIx (dName 0) (dC (.int 0))) (dC (.str "got"))) (dCall C 2 (aCons (dBin gIx (dName 0) (dC (.int 1))) (aCons (dC (.int 0)) (aCons (dBin gSub (dName 1) (dC (.int 1))) aNil)))))))) sNil)
  (sSeq (sIf (tOr' (tNot' (dTru (dCall C 27 (aCons (dName 0) aNil)))) (tOr' (dTst (dBin (inD true C.room) (dBin gIx (dName 0) (dC (.int 0))) (dTup (aCons (dC (.str "letter")) (aCons (dC (.str "wait")) aNil))))) (tNot' (dTru (dCall C 26 (aCons (dBin gIx (dName 0) (dC (.int 1))) aNil)))))) (sRet (dC (.bl false))) sNil)
  (sRet (dCall C 25 (aCons (dBin gIx (dName 0) (dC (.int 2))) (aCons (dIf (dTst (dBin (gEq C.room) (dBin gIx (dName 0) (dC (.int 0))) (dC (.str "wait")))) (dBin gAdd (dName 1) (dC (.int 1))) (dName 1)) aNil))))))
def b_is_plan_in (C : Cs) : Sd := (sSeq (sIf (tNot' (dTru (dUn (gIsi [.tuple]) (dName 0)))) (sRet (dC (.bl false))) sNil)
  (sSeq (sFor (iSeq (dName 0)) (gN 2) (sIf (tOr' (tNot' (dTru (dCall C 4 (aCons (dName 2) aNil)))) (tOr' (tNot' (dTru (dCall C 1 (aCons (dBin gIx (dName 2) (dC (.int 0))) aNil)))) (tOr' (dTst (dBin (gLt C.room) (dBin gIx (dName 2) (dC (.int 0))) (dC (.int 1)))) (tNot' (dTru (dCall C 28 (aCons (dBin gIx (dName 2) (dC (.int 1))) (aCons (dName 1) aNil)))))))) (sRet (dC (.bl false))) sNil))
  (sRet (dC (.bl true)))))
def b_check_plan (C : Cs) : Sd := (sIf (tNot' (dTru (dCall C 25 (aCons (dName 0) (aCons (dC (.int 0)) aNil))))) sNever sNil)
def b_check_door (C : Cs) : Sd := (sIf (tNot' (dTru (dCall C 26 (aCons (dName 0) aNil)))) sNever sNil)
def b_check_word (C : Cs) : Sd := (sIf (tNot' (dTru (dCall C 24 (aCons (dName 0) aNil)))) sNever sNil)
def b_is_plan (C : Cs) : Sd := (sRet (dCall C 25 (aCons (dName 0) (aCons (dC (.int 0)) aNil))))
def b_part_size (C : Cs) : Sd := (sRet (dIf (dTst (dBin (gEq C.room) (dBlt cLen (rCons (dName 0) rNil)) (dC (.int 3)))) (dBin gAdd (dC (.int 1)) (dCall C 29 (aCons (dBin gIx (dName 0) (dC (.int 2))) aNil))) (dC (.int 1))))
def b_size_of (C : Cs) : Sd := (sRet (dBlt cSum (rCons (dComp (iSeq (dName 0)) [1, 2] (gT 2 (gsCons (gN 1) (gsCons (gN 2) gsNil))) tYes' (dBin gMul (dName 1) (dCall C 30 (aCons (dName 2) aNil)))) rNil)))
def b_size (C : Cs) : Sd := (sSeq (sExpr (dCall C 31 (aCons (dName 0) aNil)))
  (sRet (dCall C 29 (aCons (dName 0) aNil))))
def b_parts_within (C : Cs) : Sd := (sSeq (sSet 1 (dLst aNil))
  (sSeq (sFor (iSeq (dName 0)) (gT 2 (gsCons (gN 2) (gsCons (gN 3) gsNil))) (sSeq (sAppend 1 (dName 3))
  (sIf (dTst (dBin (gEq C.room) (dBlt cLen (rCons (dName 3) rNil)) (dC (.int 3)))) (sExtend 1 (dCall C 32 (aCons (dBin gIx (dName 3) (dC (.int 2))) aNil))) sNil)))
  (sRet (dName 1))))
def b_labels_of (C : Cs) : Sd := (sRet (dBlt cSortS (rCons (dKeys (iSeq (dCall C 32 (aCons (dName 0) aNil))) [2] (gN 2) (dTst (dBin (gEq C.room) (dBin gIx (dName 2) (dC (.int 0))) (dName 1))) (dBin gIx (dName 2) (dC (.int 1)))) rNil)))
def b_names (C : Cs) : Sd := (sSeq (sExpr (dCall C 31 (aCons (dName 0) aNil)))
  (sRet (dCall C 33 (aCons (dName 0) (aCons (dC (.str "name")) aNil)))))
def b_mapped (C : Cs) : Sd := (sSeq (sSet 3 (dLst aNil))
  (sSeq (sFor (iSeq (dName 0)) (gT 2 (gsCons (gN 4) (gsCons (gN 5) gsNil))) (sIf (dTst (dBin (gEq C.room) (dBin gIx (dName 5) (dC (.int 0))) (dC (.str "letter")))) (sAppend 3 (dTup (aCons (dName 4) (aCons (dTup (aCons (dC (.str "letter")) (aCons (dBin gIx (dName 5) (dC (.int 1))) (aCons (dCall C 34 (aCons (dBin gIx (dName 5) (dC (.int 2))) (aCons (dName 1) (aCons (dName 2) aNil)))) aNil)))) aNil)))) (sIf (dTst (dBin (gEq C.room) (dBin gIx (dName 5) (dC (.int 0))) (dC (.str "wait")))) (sAppend 3 (dTup (aCons (dName 4) (aCons (dTup (aCons (dC (.str "wait")) (aCons (dBin gIx (dName 5) (dC (.int 1))) (aCons (dCall C 34 (aCons (dBin gIx (dName 5) (dC (.int 2))) (aCons (dBin gAdd (dName 1) (dC (.int 1))) (aCons (dName 2) aNil)))) aNil)))) aNil)))) (sExtend 3 (dComp (iSeq (dAct C 2 (aCons (dName 5) (aCons (dName 1) aNil)))) [6, 7] (gT 2 (gsCons (gN 6) (gsCons (gN 7) gsNil))) tYes' (dTup (aCons (dBin gMul (dName 4) (dName 6)) (aCons (dName 7) aNil))))))))
  (sRet (dBlt cTuple (rCons (dName 3) rNil)))))
def b_bound_to'clo (C : Cs) : Ex := (dTup (aCons (dTup (aCons (dC (.int 1)) (aCons (dIf (dTst (dBin (gEq C.room) (dName 0) (dName 2))) (dTup (aCons (dC (.str "got")) (aCons (dName 1) aNil))) (dName 0)) aNil))) aNil))
def b_bound_to (C : Cs) : Sd := (sRet (dTup (aCons (dC (.str "wait")) (aCons (dName 0) (aCons (dClo C 34 50 [1] (aCons (dName 2) (aCons (dC (.int 0)) aNil))) aNil)))))
def b_letter (C : Cs) : Sd := (sSeq (sExpr (dCall C 35 (aCons (dName 0) aNil)))
  (sSeq (sExpr (dCall C 31 (aCons (dName 1) aNil)))
  (sRet (dTup (aCons (dTup (aCons (dC (.int 1)) (aCons (dTup (aCons (dC (.str "letter")) (aCons (dName 0) (aCons (dName 1) aNil)))) aNil))) aNil)))))
def b_wait (C : Cs) : Sd := (sSeq (sExpr (dCall C 35 (aCons (dName 0) aNil)))
  (sSeq (sExpr (dCall C 37 (aCons (dName 1) aNil)))
  (sSeq (sExpr (dCall C 31 (aCons (dName 2) aNil)))
  (sRet (dTup (aCons (dTup (aCons (dC (.int 1)) (aCons (dCall C 36 (aCons (dName 0) (aCons (dTup (aCons (dC (.str "name")) (aCons (dName 1) aNil))) (aCons (dName 2) aNil)))) aNil))) aNil))))))
def b__law_plan (C : Cs) : Sd := (sSeq (sSet 5 (dLst aNil))
  (sSeq (sFor (iRange rg1 (rCons (dC (.int 6)) rNil)) (gN 6) (sSeq (sIf (tOr' (dTst (dBin (gLt C.room) (dName 1) (dC (.int 1)))) (dTst (dBin (gEq C.room) (dCall C 11 (aCons (dName 0) (aCons (dC (.int 5)) aNil))) (dC (.int 0))))) sBreak sNil)
  (sSeq (sSet 7 (dBin gIx (dLst (aCons (dC (.int 1)) (aCons (dC (.int 1)) (aCons (dC (.int 1)) (aCons (dC (.int 2)) (aCons (dC (.int 3)) aNil)))))) (dCall C 11 (aCons (dName 0) (aCons (dC (.int 5)) aNil)))))
  (sSeq (sIf (dTst (dBin (gGt C.room) (dName 7) (dName 1))) (sSet 7 (dC (.int 1))) sNil)
  (sSeq (sSet 8 (dCall C 39 (aCons (dName 0) (aCons (dBin gFdiv (dName 1) (dName 7)) (aCons (dName 2) (aCons (dName 3) (aCons (dName 4) aNil)))))))
  (sSeq (sAppend 5 (dTup (aCons (dName 7) (aCons (dName 8) aNil))))
  (sSet 1 (dBin gSub (dName 1) (dBin gMul (dName 7) (dCall C 38 (aCons (dName 8) aNil)))))))))))
  (sRet (dBlt cTuple (rCons (dName 5) rNil)))))
def b__law_part (C : Cs) : Sd := (sSeq (sSet 5 (dCall C 11 (aCons (dName 0) (aCons (dC (.int 6)) aNil))))
  (sSeq (sIf (tAnd' (dTst (dBin (gLt C.room) (dName 1) (dC (.int 2)))) (dTst (dBin (gGt C.room) (dName 5) (dC (.int 3))))) (sSet 5 (dCall C 11 (aCons (dName 0) (aCons (dC (.int 4)) aNil)))) sNil)
  (sSeq (sSet 6 (dBin gIx (dName 3) (dCall C 11 (aCons (dName 0) (aCons (dBlt cLen (rCons (dName 3) rNil)) aNil)))))
  (sSeq (sIf (tAnd' (dTst (dBin (gEq C.room) (dName 5) (dC (.int 0)))) (dTst (dBin (gGt C.room) (dBlt cLen (rCons (dName 4) rNil)) (dC (.int 0))))) (sRet (dTup (aCons (dC (.str "name")) (aCons (dBin gIx (dName 4) (dCall C 11 (aCons (dName 0) (aCons (dBlt cLen (rCons (dName 4) rNil)) aNil)))) aNil)))) sNil)
  (sSeq (sIf (tAnd' (dTst (dBin (gLt C.room) (dName 5) (dC (.int 2)))) (dTst (dBin (gGt C.room) (dName 2) (dC (.int 0))))) (sRet (dTup (aCons (dC (.str "got")) (aCons (dBin gIx (dLst (aCons (dC (.int 0)) (aCons (dC (.int 0)) (aCons (dCall C 11 (aCons (dName 0) (aCons (dName 2) aNil))) aNil)))) (dCall C 11 (aCons (dName 0) (aCons (dC (.int 3)) aNil)))) aNil)))) sNil)
  (sSeq (sIf (tOr' (dTst (dBin (gEq C.room) (dName 5) (dC (.int 2)))) (dTst (dBin (gEq C.room) (dName 5) (dC (.int 4))))) (sRet (dTup (aCons (dC (.str "letter")) (aCons (dName 6) (aCons (dCall C 40 (aCons (dName 0) (aCons (dBin gSub (dName 1) (dC (.int 1))) (aCons (dName 2) (aCons (dName 3) (aCons (dName 4) aNil)))))) aNil))))) sNil)
  (sRet (dTup (aCons (dC (.str "wait")) (aCons (dName 6) (aCons (dCall C 40 (aCons (dName 0) (aCons (dBin gSub (dName 1) (dC (.int 1))) (aCons (dBin gAdd (dName 2) (dC (.int 1))) (aCons (dName 3) (aCons (dName 4) aNil)))))) aNil)))))))))))
def b__law_part_size (C : Cs) : Sd := (sSeq (sIf (dTst (dBin (gEq C.room) (dBlt cLen (rCons (dName 0) rNil)) (dC (.int 3)))) (sRet (dBin gAdd (dC (.int 1)) (dCall C 41 (aCons (dBin gIx (dName 0) (dC (.int 2))) aNil)))) sNil)
  (sRet (dC (.int 1))))
def b__law_size (C : Cs) : Sd := (sRet (dBlt cSum (rCons (dComp (iSeq (dName 0)) [1, 2] (gT 2 (gsCons (gN 1) (gsCons (gN 2) gsNil))) tYes' (dBin gMul (dName 1) (dCall C 38 (aCons (dName 2) aNil)))) rNil)))
def b__law_caught (C : Cs) : Sd := (sSeq (sSet 3 (dLst aNil))
  (sSeq (sFor (iSeq (dName 0)) (gT 2 (gsCons (gN 4) (gsCons (gN 5) gsNil))) (sSeq (sIf (dTst (dBin (gEq C.room) (dName 5) (dTup (aCons (dC (.str "name")) (aCons (dName 1) aNil))))) (sSet 5 (dTup (aCons (dC (.str "got")) (aCons (dName 2) aNil)))) sNil)
  (sSeq (sIf (dTst (dBin (gEq C.room) (dBin gIx (dName 5) (dC (.int 0))) (dC (.str "letter")))) (sSet 5 (dTup (aCons (dC (.str "letter")) (aCons (dBin gIx (dName 5) (dC (.int 1))) (aCons (dCall C 42 (aCons (dBin gIx (dName 5) (dC (.int 2))) (aCons (dName 1) (aCons (dName 2) aNil)))) aNil))))) sNil)
  (sSeq (sIf (dTst (dBin (gEq C.room) (dBin gIx (dName 5) (dC (.int 0))) (dC (.str "wait")))) (sSet 5 (dTup (aCons (dC (.str "wait")) (aCons (dBin gIx (dName 5) (dC (.int 1))) (aCons (dCall C 42 (aCons (dBin gIx (dName 5) (dC (.int 2))) (aCons (dName 1) (aCons (dBin gAdd (dName 2) (dC (.int 1))) aNil)))) aNil))))) sNil)
  (sAppend 3 (dTup (aCons (dName 4) (aCons (dName 5) aNil))))))))
  (sRet (dBlt cTuple (rCons (dName 3) rNil)))))
def b__law_freed (C : Cs) : Sd := (sSeq (sSet 3 (dLst aNil))
  (sSeq (sFor (iSeq (dName 0)) (gT 2 (gsCons (gN 4) (gsCons (gN 5) gsNil))) (sSeq (sIf (dTst (dBin (gEq C.room) (dName 5) (dTup (aCons (dC (.str "got")) (aCons (dName 2) aNil))))) (sSet 5 (dTup (aCons (dC (.str "name")) (aCons (dName 1) aNil)))) sNil)
  (sSeq (sIf (dTst (dBin (gEq C.room) (dBin gIx (dName 5) (dC (.int 0))) (dC (.str "letter")))) (sSet 5 (dTup (aCons (dC (.str "letter")) (aCons (dBin gIx (dName 5) (dC (.int 1))) (aCons (dCall C 43 (aCons (dBin gIx (dName 5) (dC (.int 2))) (aCons (dName 1) (aCons (dName 2) aNil)))) aNil))))) sNil)
  (sSeq (sIf (dTst (dBin (gEq C.room) (dBin gIx (dName 5) (dC (.int 0))) (dC (.str "wait")))) (sSet 5 (dTup (aCons (dC (.str "wait")) (aCons (dBin gIx (dName 5) (dC (.int 1))) (aCons (dCall C 43 (aCons (dBin gIx (dName 5) (dC (.int 2))) (aCons (dName 1) (aCons (dBin gAdd (dName 2) (dC (.int 1))) aNil)))) aNil))))) sNil)
  (sAppend 3 (dTup (aCons (dName 4) (aCons (dName 5) aNil))))))))
  (sRet (dBlt cTuple (rCons (dName 3) rNil)))))
def b_law_49 (C : Cs) : Sd := (sSeq (sSetW 1 (dCall C 22 (aCons (dName 0) aNil)))
  (sSeq (sFor (iRange rg1 (rCons (dC (.int 4)) rNil)) (gN 2) (sSeq (sSet 3 (dCall C 40 (aCons (dName 1) (aCons (dBin gAdd (dC (.int 1)) (dCall C 11 (aCons (dName 1) (aCons (dC (.int 14)) aNil)))) (aCons (dC (.int 0)) (aCons (dC (.str "abz")) (aCons (dLst (aCons (dC (.str "x")) (aCons (dC (.str "yy")) (aCons (dC (.str "z")) aNil)))) aNil)))))))
  (sSeq (sSet 4 (dBin gIx (dC (.str "abc")) (dCall C 11 (aCons (dName 1) (aCons (dC (.int 3)) aNil)))))
  (sSeq (sSet 5 (dBin gIx (dLst (aCons (dC (.str "x")) (aCons (dC (.str "yy")) (aCons (dC (.str "z")) (aCons (dC (.str "unknown")) aNil))))) (dCall C 11 (aCons (dName 1) (aCons (dC (.int 4)) aNil)))))
  (sSeq (sIf (tOr' (dTst (dBin (gNe C.room) (dCall C 45 (aCons (dName 4) (aCons (dName 3) aNil))) (dTup (aCons (dTup (aCons (dC (.int 1)) (aCons (dTup (aCons (dC (.str "letter")) (aCons (dName 4) (aCons (dName 3) aNil)))) aNil))) aNil)))) (dTst (dBin (gNe C.room) (dCall C 47 (aCons (dCall C 45 (aCons (dName 4) (aCons (dName 3) aNil))) aNil)) (dBin gAdd (dCall C 47 (aCons (dName 3) aNil)) (dC (.int 1)))))) (sRet (dC (.bl false))) sNil)
  (sSeq (sSet 6 (dCall C 44 (aCons (dName 4) (aCons (dName 5) (aCons (dName 3) aNil)))))
  (sSeq (sIf (tOr' (dTst (dBin (gNe C.room) (dName 6) (dTup (aCons (dTup (aCons (dC (.int 1)) (aCons (dTup (aCons (dC (.str "wait")) (aCons (dName 4) (aCons (dCall C 42 (aCons (dName 3) (aCons (dName 5) (aCons (dC (.int 0)) aNil)))) aNil)))) aNil))) aNil)))) (tNot' (dTru (dCall C 48 (aCons (dName 6) aNil))))) (sRet (dC (.bl false))) sNil)
  (sSeq (sIf (tOr' (dTst (dBin (gNe C.room) (dCall C 47 (aCons (dName 6) aNil)) (dBin gAdd (dCall C 47 (aCons (dName 3) aNil)) (dC (.int 1))))) (dTst (dBin (gNe C.room) (dCall C 46 (aCons (dName 6) aNil)) (dComp (iSeq (dCall C 46 (aCons (dName 3) aNil))) [7] (gN 7) (dTst (dBin (gNe C.room) (dName 7) (dName 5))) (dName 7))))) (sRet (dC (.bl false))) sNil)
  (sSeq (sIf (dTst (dBin (gNe C.room) (dCall C 43 (aCons (dBin gIx (dBin gIx (dBin gIx (dName 6) (dC (.int 0))) (dC (.int 1))) (dC (.int 2))) (aCons (dName 5) (aCons (dC (.int 0)) aNil)))) (dName 3))) (sRet (dC (.bl false))) sNil)
  (sSeq (sSet 8 (dCall C 44 (aCons (dC (.str "b")) (aCons (dC (.str "x")) (aCons (dCall C 45 (aCons (dName 4) (aCons (dName 6) aNil))) aNil)))))
  (sIf (dTst (dBin (gNe C.room) (dBin gIx (dBin gIx (dBin gIx (dName 8) (dC (.int 0))) (dC (.int 1))) (dC (.int 2))) (dCall C 42 (aCons (dCall C 45 (aCons (dName 4) (aCons (dName 6) aNil))) (aCons (dC (.str "x")) (aCons (dC (.int 0)) aNil)))))) (sRet (dC (.bl false))) sNil)))))))))))
  (sRet (dAnd (dBin (gEq C.room) (dCall C 45 (aCons (dC (.str "z")) (aCons (dTup aNil) aNil))) (dTup (aCons (dTup (aCons (dC (.int 1)) (aCons (dTup (aCons (dC (.str "letter")) (aCons (dC (.str "z")) (aCons (dTup aNil) aNil)))) aNil))) aNil))) (dBin (gEq C.room) (dCall C 44 (aCons (dC (.str "a")) (aCons (dC (.str "x")) (aCons (dTup aNil) aNil)))) (dTup (aCons (dTup (aCons (dC (.int 1)) (aCons (dTup (aCons (dC (.str "wait")) (aCons (dC (.str "a")) (aCons (dTup aNil) aNil)))) aNil))) aNil)))))))
end Dl
namespace Dl
open PySem PySem.Spec PyProof.Rows L2 NdefX
def b_items_in (C : Cs) : Sd := (sRet (dBlt cLen (rCons (dCall C 32 (aCons (dName 0) aNil)) rNil)))
def b_nesting (C : Cs) : Sd := (sRet (dBlt cMax1 (rCons (dBin gAdd (dLst (aCons (dC (.int 0)) aNil)) (dComp (iSeq (dName 0)) [1, 2] (gT 2 (gsCons (gN 1) (gsCons (gN 2) gsNil))) (dTst (dBin (gEq C.room) (dBlt cLen (rCons (dName 2) rNil)) (dC (.int 3)))) (dBin gAdd (dC (.int 1)) (dCall C 51 (aCons (dBin gIx (dName 2) (dC (.int 2))) aNil))))) rNil)))
def b_check_room (C : Cs) : Sd := (sIf (dTst (dBin (gGt C.room) (dName 0) (dC (.int 5000)))) sNever sNil)
def b_roomy (C : Cs) : Sd := (sSeq (sExpr (dCall C 53 (aCons (dCall C 52 (aCons (dName 0) aNil)) aNil)))
  (sSeq (sIf (dTst (dBin (gGt C.room) (dCall C 51 (aCons (dName 0) aNil)) (dC (.int 120)))) sNever sNil)
  (sRet (dName 0))))
def b_raised'clo (C : Cs) : Sd := (sSeq (sIf (tAnd' (dTst (dBin (gEq C.room) (dBin gIx (dName 0) (dC (.int 0))) (dC (.str "got")))) (dTst (dBin (gGe C.room) (dBin gIx (dName 0) (dC (.int 1))) (dBin gAdd (dName 1) (dName 2))))) (sRet (dTup (aCons (dTup (aCons (dC (.int 1)) (aCons (dTup (aCons (dC (.str "got")) (aCons (dBin gAdd (dBin gIx (dName 0) (dC (.int 1))) (dName 3)) aNil))) aNil))) aNil))) sNil)
  (sRet (dTup (aCons (dTup (aCons (dC (.int 1)) (aCons (dName 0) aNil))) aNil))))
def b_raised (C : Cs) : Sd := (sDefRet 3 (dClo C 34 55 [2, 1] (aCons (dName 0) (aCons (dC (.int 0)) aNil))))
def b_replaced'clo (C : Cs) : Ex := (dIf (dTst (dBin (gEq C.room) (dName 0) (dName 2))) (dCall C 57 (aCons (dName 3) (aCons (dName 1) (aCons (dC (.int 0)) aNil)))) (dTup (aCons (dTup (aCons (dC (.int 1)) (aCons (dName 0) aNil))) aNil)))
def b_replaced (C : Cs) : Sd := (sRet (dClo C 34 56 [1, 2] (aCons (dName 0) (aCons (dC (.int 0)) aNil))))
def b_roomy_replaced (C : Cs) : Sd := (sSeq (sSet 3 (dBlt cLen (rCons (dComp (iSeq (dCall C 32 (aCons (dName 0) aNil))) [4] (gN 4) (dTst (dBin (gEq C.room) (dName 4) (dName 1))) (dName 4)) rNil)))
  (sSeq (sExpr (dCall C 53 (aCons (dBin gAdd (dCall C 52 (aCons (dName 0) aNil)) (dBin gMul (dName 3) (dBin gSub (dCall C 52 (aCons (dName 2) aNil)) (dC (.int 1))))) aNil)))
  (sRet (dCall C 59 (aCons (dCall C 58 (aCons (dName 0) (aCons (dName 1) (aCons (dName 2) aNil)))) aNil)))))
def b_put (C : Cs) : Sd := (sSeq (sExpr (dCall C 31 (aCons (dName 0) aNil)))
  (sSeq (sExpr (dCall C 37 (aCons (dName 1) aNil)))
  (sSeq (sExpr (dCall C 31 (aCons (dName 2) aNil)))
  (sRet (dCall C 61 (aCons (dName 0) (aCons (dTup (aCons (dC (.str "name")) (aCons (dName 1) aNil))) (aCons (dName 2) aNil))))))))
def b_check_mark (C : Cs) : Sd := (sIf (tOr' (tNot' (dTru (dCall C 1 (aCons (dName 0) aNil)))) (dTst (dBin (gLt C.room) (dName 0) (dC (.int 0))))) sNever sNil)
def b_mark_put (C : Cs) : Sd := (sSeq (sExpr (dCall C 31 (aCons (dName 0) aNil)))
  (sSeq (sExpr (dCall C 62 (aCons (dName 1) aNil)))
  (sSeq (sExpr (dCall C 31 (aCons (dName 2) aNil)))
  (sRet (dCall C 61 (aCons (dName 0) (aCons (dTup (aCons (dC (.str "mark")) (aCons (dName 1) aNil))) (aCons (dName 2) aNil))))))))
def b__law_replaced (C : Cs) : Sd := (sSeq (sSet 3 (dLst aNil))
  (sSeq (sFor (iSeq (dName 0)) (gT 2 (gsCons (gN 4) (gsCons (gN 5) gsNil))) (sIf (dTst (dBin (gEq C.room) (dName 5) (dName 1))) (sSet 3 (dBin gAdd (dName 3) (dComp (iSeq (dName 2)) [6, 7] (gT 2 (gsCons (gN 6) (gsCons (gN 7) gsNil))) tYes' (dTup (aCons (dBin gMul (dName 4) (dName 6)) (aCons (dName 7) aNil)))))) (sIf (dTst (dBin (gEq C.room) (dBlt cLen (rCons (dName 5) rNil)) (dC (.int 3)))) (sAppend 3 (dTup (aCons (dName 4) (aCons (dTup (aCons (dBin gIx (dName 5) (dC (.int 0))) (aCons (dBin gIx (dName 5) (dC (.int 1))) (aCons (dCall C 75 (aCons (dBin gIx (dName 5) (dC (.int 2))) (aCons (dName 1) (aCons (dName 2) aNil)))) aNil)))) aNil)))) (sAppend 3 (dTup (aCons (dName 4) (aCons (dName 5) aNil)))))))
  (sRet (dBlt cTuple (rCons (dName 3) rNil)))))
def b__law_copies (C : Cs) : Sd := (sSeq (sSet 2 (dC (.int 0)))
  (sSeq (sFor (iSeq (dName 0)) (gT 2 (gsCons (gN 3) (gsCons (gN 4) gsNil))) (sSeq (sIf (dTst (dBin (gEq C.room) (dName 4) (dName 1))) (sSet 2 (dBin gAdd (dName 2) (dName 3))) sNil)
  (sIf (dTst (dBin (gEq C.room) (dBlt cLen (rCons (dName 4) rNil)) (dC (.int 3)))) (sSet 2 (dBin gAdd (dName 2) (dBin gMul (dName 3) (dCall C 76 (aCons (dBin gIx (dName 4) (dC (.int 2))) (aCons (dName 1) aNil)))))) sNil)))
  (sRet (dName 2))))
def b_law_77 (C : Cs) : Sd := (sSeq (sSetW 1 (dCall C 22 (aCons (dName 0) aNil)))
  (sSeq (sSet 2 (dBin (gEq C.room) (dCall C 11 (aCons (dName 1) (aCons (dC (.int 4)) aNil))) (dC (.int 0))))
  (sSeq (sSet 3 (dFrz (dLst (aCons (dC (.str "x")) (aCons (dC (.str "yy")) (aCons (dC (.str "z")) aNil))))))
  (sSeq (sSet 4 (dCall C 40 (aCons (dName 1) (aCons (dBin gAdd (dC (.int 1)) (dCall C 11 (aCons (dName 1) (aCons (dC (.int 12)) aNil)))) (aCons (dC (.int 0)) (aCons (dC (.str "ab")) (aCons (dName 3) aNil)))))))
  (sSeq (sSet 5 (dCall C 40 (aCons (dName 1) (aCons (dCall C 11 (aCons (dName 1) (aCons (dC (.int 7)) aNil))) (aCons (dC (.int 0)) (aCons (dC (.str "bc")) (aCons (dName 3) aNil)))))))
  (sSeq (sIf (dTru (dName 2)) (sSet 5 (dBin gAdd (dName 5) (dTup (aCons (dTup (aCons (dBin gPow (dC (.int 10)) (dC (.int 30))) (aCons (dTup (aCons (dC (.str "name")) (aCons (dC (.str "z")) aNil))) aNil))) (aCons (dTup (aCons (dC (.int 3)) (aCons (dTup (aCons (dC (.str "letter")) (aCons (dC (.str "c")) (aCons (dTup aNil) aNil)))) aNil))) aNil))))) sNil)
  (sSeq (sFor (iSeq (dLst (aCons (dC (.str "x")) (aCons (dC (.str "yy")) (aCons (dC (.str "unknown")) aNil))))) (gN 6) (sSeq (sSet 7 (dCall C 73 (aCons (dName 4) (aCons (dName 6) (aCons (dName 5) aNil)))))
  (sSeq (sIf (tOr' (dTst (dBin (gNe C.room) (dName 7) (dCall C 75 (aCons (dName 4) (aCons (dTup (aCons (dC (.str "name")) (aCons (dName 6) aNil))) (aCons (dName 5) aNil)))))) (dTst (dBin gIsNot (dCall C 48 (aCons (dName 7) aNil)) (dC (.bl true))))) (sRet (dC (.bl false))) sNil)
  (sSeq (sSet 8 (dCall C 76 (aCons (dName 4) (aCons (dTup (aCons (dC (.str "name")) (aCons (dName 6) aNil))) aNil))))
  (sSeq (sIf (dTst (dBin (gNe C.room) (dCall C 47 (aCons (dName 7) aNil)) (dBin gAdd (dBin gSub (dCall C 47 (aCons (dName 4) aNil)) (dName 8)) (dBin gMul (dName 8) (dCall C 47 (aCons (dName 5) aNil)))))) (sRet (dC (.bl false))) sNil)
  (sIf (dTst (dBin (gNe C.room) (dCall C 73 (aCons (dName 4) (aCons (dName 6) (aCons (dTup (aCons (dTup (aCons (dC (.int 1)) (aCons (dTup (aCons (dC (.str "name")) (aCons (dName 6) aNil))) aNil))) aNil)) aNil)))) (dName 4))) (sRet (dC (.bl false))) sNil))))))
  (sSeq (sSet 9 (dCall C 73 (aCons (dName 5) (aCons (dC (.str "yy")) (aCons (dTup aNil) aNil)))))
  (sSeq (sIf (tAnd' (dTst (dBin (gNe C.room) (dCall C 73 (aCons (dCall C 73 (aCons (dName 4) (aCons (dC (.str "x")) (aCons (dName 9) aNil)))) (aCons (dC (.str "yy")) (aCons (dName 5) aNil)))) (dCall C 73 (aCons (dCall C 73 (aCons (dName 4) (aCons (dC (.str "yy")) (aCons (dName 5) aNil)))) (aCons (dC (.str "x")) (aCons (dName 9) aNil)))))) (dTst (dBin (inD true C.room) (dC (.str "x")) (dCall C 46 (aCons (dName 5) aNil))))) (sRet (dC (.bl false))) sNil)
  (sSeq (sSet 10 (dCall C 73 (aCons (dName 4) (aCons (dC (.str "x")) (aCons (dTup (aCons (dTup (aCons (dC (.int 2)) (aCons (dTup (aCons (dC (.str "mark")) (aCons (dC (.int 3)) aNil))) aNil))) aNil)) aNil)))))
  (sSeq (sIf (dTst (dBin (gNe C.room) (dName 10) (dCall C 75 (aCons (dName 4) (aCons (dTup (aCons (dC (.str "name")) (aCons (dC (.str "x")) aNil))) (aCons (dTup (aCons (dTup (aCons (dC (.int 2)) (aCons (dTup (aCons (dC (.str "mark")) (aCons (dC (.int 3)) aNil))) aNil))) aNil)) aNil)))))) (sRet (dC (.bl false))) sNil)
  (sSeq (sIf (tOr' (dTst (dBin (gNe C.room) (dCall C 65 (aCons (dName 10) (aCons (dC (.int 3)) (aCons (dName 5) aNil)))) (dCall C 75 (aCons (dName 10) (aCons (dTup (aCons (dC (.str "mark")) (aCons (dC (.int 3)) aNil))) (aCons (dName 5) aNil)))))) (dTst (dBin (gNe C.room) (dCall C 65 (aCons (dName 10) (aCons (dC (.int 4)) (aCons (dName 5) aNil)))) (dName 10)))) (sRet (dC (.bl false))) sNil)
  (sRet (dAnd (dBin (gEq C.room) (dCall C 73 (aCons (dTup aNil) (aCons (dC (.str "x")) (aCons (dName 5) aNil)))) (dTup aNil)) (dBin (gEq C.room) (dCall C 73 (aCons (dTup (aCons (dTup (aCons (dC (.int 1)) (aCons (dTup (aCons (dC (.str "name")) (aCons (dC (.str "x")) aNil))) aNil))) aNil)) (aCons (dC (.str "x")) (aCons (dName 5) aNil)))) (dName 5))))))))))))))))
end Dl
namespace Dl
open PySem PySem.Spec PyProof.Rows L2 NdefX
def t_LENGTHS : List (Str × D) := [("swap", .int 3), ("join", .int 3), ("split", .int 4), ("fold", .int 3), ("unfold", .int 4)]
def b_has_step_form (C : Cs) : Sd := (sSeq (sIf (tOr' (tNot' (dTru (dUn (gIsi [.tuple]) (dName 0)))) (tOr' (dTst (dBin (gLt C.room) (dBlt cLen (rCons (dName 0) rNil)) (dC (.int 3)))) (tNot' (dTru (dUn (gIsi [.str]) (dBin gIx (dName 0) (dC (.int 0)))))))) (sRet (dC (.bl false))) sNil)
  (sSeq (sIf (tOr' (dTst (dBin (gNe C.room) (dUn (gGetK t_LENGTHS) (dBin gIx (dName 0) (dC (.int 0)))) (dBlt cLen (rCons (dName 0) rNil)))) (tNot' (dTru (dUn (gIsi [.tuple]) (dBin gIx (dName 0) (dC (.int 1))))))) (sRet (dC (.bl false))) sNil)
  (sRet (dBlt cAll (rCons (dComp (iSeq (dBin gAdd (dBin gIx (dName 0) (dC (.int 1))) (dSl (dName 0) (some (dC (.int 2))) none))) [1] (gN 1) tYes' (dCall C 1 (aCons (dName 1) aNil))) rNil)))))
def b_joined_pair (C : Cs) : Sd := (sSeq (sIf (dTst (dBin (gNe C.room) (dBin gIx (dName 0) (dC (.int 1))) (dBin gIx (dName 1) (dC (.int 1))))) (sRet (dC .non)) sNil)
  (sRet (dTup (aCons (dTup (aCons (dBin gAdd (dBin gIx (dName 0) (dC (.int 0))) (dBin gIx (dName 1) (dC (.int 0)))) (aCons (dBin gIx (dName 0) (dC (.int 1))) aNil))) aNil))))
def b_split_item (C : Cs) : Sd := (sSeq (sAsg (gT 2 (gsCons (gN 2) (gsCons (gN 3) gsNil))) (dName 0))
  (sSeq (sIf (tNot' (dTru (dCall C 2 (aCons (dName 1) (aCons (dC (.int 1)) (aCons (dBin gSub (dName 2) (dC (.int 1))) aNil)))))) (sRet (dC .non)) sNil)
  (sRet (dTup (aCons (dTup (aCons (dName 1) (aCons (dName 3) aNil))) (aCons (dTup (aCons (dBin gSub (dName 2) (dName 1)) (aCons (dName 3) aNil))) aNil))))))
def b_folded_item (C : Cs) : Sd := (sSeq (sAsg (gT 2 (gsCons (gN 1) (gsCons (gN 2) gsNil))) (dName 0))
  (sSeq (sIf (tOr' (dTst (dBin (gNe C.room) (dBin gIx (dName 2) (dC (.int 0))) (dC (.str "wait")))) (tNot' (dTru (dBin gIx (dName 2) (dC (.int 2)))))) (sRet (dC .non)) sNil)
  (sSeq (sSet 3 (dSl (dBin gIx (dName 2) (dC (.int 2))) none (some (dUn gNeg (dC (.int 1))))))
  (sSeq (sAsg (gT 2 (gsCons (gN 4) (gsCons (gN 5) gsNil))) (dBin gIx (dBin gIx (dName 2) (dC (.int 2))) (dUn gNeg (dC (.int 1)))))
  (sSeq (sIf (dTst (dBin (gNe C.room) (dName 5) (dTup (aCons (dC (.str "wait")) (aCons (dBin gIx (dName 2) (dC (.int 1))) (aCons (dCall C 57 (aCons (dName 3) (aCons (dC (.int 1)) (aCons (dC (.int 1)) aNil)))) aNil)))))) (sRet (dC .non)) sNil)
  (sRet (dTup (aCons (dTup (aCons (dBin gMul (dName 1) (dBin gAdd (dName 4) (dC (.int 1)))) (aCons (dTup (aCons (dC (.str "wait")) (aCons (dBin gIx (dName 2) (dC (.int 1))) (aCons (dName 3) aNil)))) aNil))) aNil))))))))
def b_unfolded_item (C : Cs) : Sd := (sSeq (sAsg (gT 2 (gsCons (gN 2) (gsCons (gN 3) gsNil))) (dName 0))
  (sSeq (sIf (tOr' (dTst (dBin (gNe C.room) (dBin gIx (dName 3) (dC (.int 0))) (dC (.str "wait")))) (tOr' (dTst (dBin (gLt C.room) (dName 1) (dC (.int 2)))) (dTst (dBin (gNe C.room) (dBin gMod (dName 2) (dName 1)) (dC (.int 0)))))) (sRet (dC .non)) sNil)
  (sSeq (sSet 4 (dTup (aCons (dBin gSub (dName 1) (dC (.int 1))) (aCons (dTup (aCons (dC (.str "wait")) (aCons (dBin gIx (dName 3) (dC (.int 1))) (aCons (dCall C 57 (aCons (dBin gIx (dName 3) (dC (.int 2))) (aCons (dC (.int 1)) (aCons (dC (.int 1)) aNil)))) aNil)))) aNil))))
  (sRet (dTup (aCons (dTup (aCons (dBin gFdiv (dName 2) (dName 1)) (aCons (dTup (aCons (dC (.str "wait")) (aCons (dBin gIx (dName 3) (dC (.int 1))) (aCons (dBin gAdd (dBin gIx (dName 3) (dC (.int 2))) (dTup (aCons (dName 4) aNil))) aNil)))) aNil))) aNil))))))
def b_done_here (C : Cs) : Sd := (sSeq (sPar 2 3 (aCons (dBin gIx (dName 1) (dC (.int 0))) (aCons (dBin gIx (dName 1) (dC (.int 2))) aNil)))
  (sSeq (sSet 4 (dIf (dTst (dBin (inD false C.room) (dName 2) (dTup (aCons (dC (.str "swap")) (aCons (dC (.str "join")) aNil))))) (dC (.int 2)) (dC (.int 1))))
  (sSeq (sIf (tNot' (dTru (dCall C 2 (aCons (dName 3) (aCons (dC (.int 0)) (aCons (dBin gSub (dBlt cLen (rCons (dName 0) rNil)) (dName 4)) aNil)))))) (sRet (dC .non)) sNil)
  (sSeq (sIf (dTst (dBin (gEq C.room) (dName 2) (dC (.str "swap")))) (sSet 5 (dTup (aCons (dBin gIx (dName 0) (dBin gAdd (dName 3) (dC (.int 1)))) (aCons (dBin gIx (dName 0) (dName 3)) aNil)))) (sIf (dTst (dBin (gEq C.room) (dName 2) (dC (.str "join")))) (sSet 5 (dCall C 78 (aCons (dBin gIx (dName 0) (dName 3)) (aCons (dBin gIx (dName 0) (dBin gAdd (dName 3) (dC (.int 1)))) aNil)))) (sIf (dTst (dBin (gEq C.room) (dName 2) (dC (.str "split")))) (sSet 5 (dCall C 79 (aCons (dBin gIx (dName 0) (dName 3)) (aCons (dBin gIx (dName 1) (dC (.int 3))) aNil)))) (sIf (dTst (dBin (gEq C.room) (dName 2) (dC (.str "fold")))) (sSet 5 (dCall C 80 (aCons (dBin gIx (dName 0) (dName 3)) aNil))) (sSet 5 (dCall C 81 (aCons (dBin gIx (dName 0) (dName 3)) (aCons (dBin gIx (dName 1) (dC (.int 3))) aNil))))))))
  (sRet (dIf (dTst (dBin gIs (dName 5) (dC .non))) (dC .non) (dBin gAdd (dBin gAdd (dSl (dName 0) none (some (dName 3))) (dName 5)) (dSl (dName 0) (some (dBin gAdd (dName 3) (dName 4))) none))))))))
def b_done_at (C : Cs) : Sd := (sSeq (sIf (tNot' (dTru (dName 1))) (sRet (dCall C 83 (aCons (dName 0) (aCons (dName 2) aNil)))) sNil)
  (sSeq (sSet 3 (dBin gIx (dName 1) (dC (.int 0))))
  (sSeq (sIf (tOr' (tNot' (dTru (dCall C 2 (aCons (dName 3) (aCons (dC (.int 0)) (aCons (dBin gSub (dBlt cLen (rCons (dName 0) rNil)) (dC (.int 1))) aNil)))))) (dTst (dBin (gNe C.room) (dBlt cLen (rCons (dBin gIx (dBin gIx (dName 0) (dName 3)) (dC (.int 1))) rNil)) (dC (.int 3))))) (sRet (dC .non)) sNil)
  (sSeq (sAsg (gT 2 (gsCons (gN 4) (gsCons (gN 5) gsNil))) (dBin gIx (dName 0) (dName 3)))
  (sSeq (sSet 6 (dCall C 82 (aCons (dBin gIx (dName 5) (dC (.int 2))) (aCons (dSl (dName 1) (some (dC (.int 1))) none) (aCons (dName 2) aNil)))))
  (sSeq (sIf (dTst (dBin gIs (dName 6) (dC .non))) (sRet (dC .non)) sNil)
  (sRet (dBin gAdd (dBin gAdd (dSl (dName 0) none (some (dName 3))) (dTup (aCons (dTup (aCons (dName 4) (aCons (dTup (aCons (dBin gIx (dName 5) (dC (.int 0))) (aCons (dBin gIx (dName 5) (dC (.int 1))) (aCons (dName 6) aNil)))) aNil))) aNil))) (dSl (dName 0) (some (dBin gAdd (dName 3) (dC (.int 1)))) none)))))))))
def b_step_done (C : Cs) : Sd := (sSeq (sIf (tNot' (dTru (dCall C 84 (aCons (dName 1) aNil)))) (sRet (dC .non)) sNil)
  (sSeq (sSet 2 (dCall C 82 (aCons (dName 0) (aCons (dBin gIx (dName 1) (dC (.int 1))) (aCons (dName 1) aNil)))))
  (sSeq (sIf (tOr' (dTst (dBin gIs (dName 2) (dC .non))) (tOr' (dTst (dBin (gGt C.room) (dCall C 52 (aCons (dName 2) aNil)) (dC (.int 5000)))) (dTst (dBin (gGt C.room) (dCall C 51 (aCons (dName 2) aNil)) (dC (.int 120)))))) (sRet (dC .non)) sNil)
  (sRet (dName 2)))))
def b_stepped (C : Cs) : Sd := (sSeq (sExpr (dCall C 31 (aCons (dName 0) aNil)))
  (sSeq (sSet 2 (dCall C 85 (aCons (dName 0) (aCons (dName 1) aNil))))
  (sSeq (sIf (dTst (dBin gIs (dName 2) (dC .non))) sNever sNil)
  (sRet (dName 2)))))
def b__law_plan_87 (C : Cs) : Sd := (sSeq (sSet 5 (dLst aNil))
  (sSeq (sFor (iRange rg1 (rCons (dC (.int 6)) rNil)) (gN 6) (sSeq (sIf (tOr' (dTst (dBin (gLt C.room) (dName 1) (dC (.int 1)))) (dTst (dBin (gEq C.room) (dCall C 11 (aCons (dName 0) (aCons (dC (.int 5)) aNil))) (dC (.int 0))))) sBreak sNil)
  (sSeq (sSet 7 (dBin gIx (dLst (aCons (dC (.int 1)) (aCons (dC (.int 1)) (aCons (dC (.int 1)) (aCons (dC (.int 2)) (aCons (dC (.int 3)) aNil)))))) (dCall C 11 (aCons (dName 0) (aCons (dC (.int 5)) aNil)))))
  (sSeq (sIf (dTst (dBin (gGt C.room) (dName 7) (dName 1))) (sSet 7 (dC (.int 1))) sNil)
  (sSeq (sSet 8 (dCall C 86 (aCons (dName 0) (aCons (dBin gFdiv (dName 1) (dName 7)) (aCons (dName 2) (aCons (dName 3) (aCons (dName 4) aNil)))))))
  (sSeq (sAppend 5 (dTup (aCons (dName 7) (aCons (dName 8) aNil))))
  (sSet 1 (dBin gSub (dName 1) (dBin gMul (dName 7) (dCall C 38 (aCons (dName 8) aNil)))))))))))
  (sRet (dBlt cTuple (rCons (dName 5) rNil)))))
def b__law_part_86 (C : Cs) : Sd := (sSeq (sSet 5 (dCall C 11 (aCons (dName 0) (aCons (dC (.int 6)) aNil))))
  (sSeq (sIf (tAnd' (dTst (dBin (gLt C.room) (dName 1) (dC (.int 2)))) (dTst (dBin (gGt C.room) (dName 5) (dC (.int 3))))) (sSet 5 (dCall C 11 (aCons (dName 0) (aCons (dC (.int 4)) aNil)))) sNil)
  (sSeq (sSet 6 (dBin gIx (dName 3) (dCall C 11 (aCons (dName 0) (aCons (dBlt cLen (rCons (dName 3) rNil)) aNil)))))
  (sSeq (sIf (tAnd' (dTst (dBin (gEq C.room) (dName 5) (dC (.int 0)))) (dTst (dBin (gGt C.room) (dBlt cLen (rCons (dName 4) rNil)) (dC (.int 0))))) (sSeq (sSet 7 (dBin gIx (dName 4) (dCall C 11 (aCons (dName 0) (aCons (dBlt cLen (rCons (dName 4) rNil)) aNil)))))
  (sRet (dTup (aCons (dBin gIx (dLst (aCons (dC (.str "name")) (aCons (dC (.str "mark")) aNil))) (dBlt cInt (rCons (dUn (gIsi [.int]) (dName 7)) rNil))) (aCons (dName 7) aNil))))) sNil)
  (sSeq (sIf (tAnd' (dTst (dBin (gLt C.room) (dName 5) (dC (.int 2)))) (dTst (dBin (gGt C.room) (dName 2) (dC (.int 0))))) (sRet (dTup (aCons (dC (.str "got")) (aCons (dBin gIx (dLst (aCons (dC (.int 0)) (aCons (dC (.int 0)) (aCons (dCall C 11 (aCons (dName 0) (aCons (dName 2) aNil))) aNil)))) (dCall C 11 (aCons (dName 0) (aCons (dC (.int 3)) aNil)))) aNil)))) sNil)
  (sSeq (sIf (tOr' (dTst (dBin (gEq C.room) (dName 5) (dC (.int 2)))) (dTst (dBin (gEq C.room) (dName 5) (dC (.int 4))))) (sRet (dTup (aCons (dC (.str "letter")) (aCons (dName 6) (aCons (dCall C 87 (aCons (dName 0) (aCons (dBin gSub (dName 1) (dC (.int 1))) (aCons (dName 2) (aCons (dName 3) (aCons (dName 4) aNil)))))) aNil))))) sNil)
  (sRet (dTup (aCons (dC (.str "wait")) (aCons (dName 6) (aCons (dCall C 87 (aCons (dName 0) (aCons (dBin gSub (dName 1) (dC (.int 1))) (aCons (dBin gAdd (dName 2) (dC (.int 1))) (aCons (dName 3) (aCons (dName 4) aNil)))))) aNil)))))))))))
def b__law_raise (C : Cs) : Sd := (sSeq (sSet 3 (dLst aNil))
  (sSeq (sFor (iSeq (dName 0)) (gT 2 (gsCons (gN 4) (gsCons (gN 5) gsNil))) (sSeq (sIf (tAnd' (dTst (dBin (gEq C.room) (dBin gIx (dName 5) (dC (.int 0))) (dC (.str "got")))) (dTst (dBin (gGe C.room) (dBin gIx (dName 5) (dC (.int 1))) (dName 2)))) (sSet 5 (dTup (aCons (dC (.str "got")) (aCons (dBin gAdd (dBin gIx (dName 5) (dC (.int 1))) (dName 1)) aNil)))) sNil)
  (sSeq (sIf (dTst (dBin (gEq C.room) (dBin gIx (dName 5) (dC (.int 0))) (dC (.str "letter")))) (sSet 5 (dTup (aCons (dC (.str "letter")) (aCons (dBin gIx (dName 5) (dC (.int 1))) (aCons (dCall C 88 (aCons (dBin gIx (dName 5) (dC (.int 2))) (aCons (dName 1) (aCons (dName 2) aNil)))) aNil))))) sNil)
  (sSeq (sIf (dTst (dBin (gEq C.room) (dBin gIx (dName 5) (dC (.int 0))) (dC (.str "wait")))) (sSet 5 (dTup (aCons (dC (.str "wait")) (aCons (dBin gIx (dName 5) (dC (.int 1))) (aCons (dCall C 88 (aCons (dBin gIx (dName 5) (dC (.int 2))) (aCons (dName 1) (aCons (dBin gAdd (dName 2) (dC (.int 1))) aNil)))) aNil))))) sNil)
  (sAppend 3 (dTup (aCons (dName 4) (aCons (dName 5) aNil))))))))
  (sRet (dBlt cTuple (rCons (dName 3) rNil)))))
def b__law_step (C : Cs) : Sd := (sSeq (sSet 2 (dBin gIx (dName 1) (dC (.int 1))))
  (sSeq (sIf (dTst (dBin (gGt C.room) (dBlt cLen (rCons (dName 2) rNil)) (dC (.int 0)))) (sSeq (sIf (tOr' (dTst (dBin (gLt C.room) (dBin gIx (dName 2) (dC (.int 0))) (dC (.int 0)))) (tOr' (dTst (dBin (gGe C.room) (dBin gIx (dName 2) (dC (.int 0))) (dBlt cLen (rCons (dName 0) rNil)))) (dTst (dBin (gEq C.room) (dBlt cLen (rCons (dBin gIx (dBin gIx (dName 0) (dBin gIx (dName 2) (dC (.int 0)))) (dC (.int 1))) rNil)) (dC (.int 2)))))) (sRet (dC .non)) sNil)
  (sSeq (sAsg (gT 2 (gsCons (gN 3) (gsCons (gN 4) gsNil))) (dBin gIx (dName 0) (dBin gIx (dName 2) (dC (.int 0)))))
  (sSeq (sSet 5 (dCall C 89 (aCons (dBin gIx (dName 4) (dC (.int 2))) (aCons (dBin gAdd (dTup (aCons (dBin gIx (dName 1) (dC (.int 0))) (aCons (dSl (dName 2) (some (dC (.int 1))) none) aNil))) (dSl (dName 1) (some (dC (.int 2))) none)) aNil))))
  (sSeq (sIf (dTst (dBin gIs (dName 5) (dC .non))) (sRet (dC .non)) sNil)
  (sRet (dBin gAdd (dBin gAdd (dSl (dName 0) none (some (dBin gIx (dName 2) (dC (.int 0))))) (dTup (aCons (dTup (aCons (dName 3) (aCons (dTup (aCons (dBin gIx (dName 4) (dC (.int 0))) (aCons (dBin gIx (dName 4) (dC (.int 1))) (aCons (dName 5) aNil)))) aNil))) aNil))) (dSl (dName 0) (some (dBin gAdd (dBin gIx (dName 2) (dC (.int 0))) (dC (.int 1)))) none))))))) sNil)
  (sSeq (sSet 6 (dBin gIx (dName 1) (dC (.int 2))))
  (sSeq (sIf (tOr' (dTst (dBin (gLt C.room) (dName 6) (dC (.int 0)))) (dTst (dBin (gGe C.room) (dName 6) (dBlt cLen (rCons (dName 0) rNil))))) (sRet (dC .non)) sNil)
  (sSeq (sAsg (gT 2 (gsCons (gN 3) (gsCons (gN 4) gsNil))) (dBin gIx (dName 0) (dName 6)))
  (sSeq (sIf (tOr' (dTst (dBin (gEq C.room) (dBin gIx (dName 1) (dC (.int 0))) (dC (.str "swap")))) (dTst (dBin (gEq C.room) (dBin gIx (dName 1) (dC (.int 0))) (dC (.str "join"))))) (sSeq (sIf (tOr' (dTst (dBin (gEq C.room) (dBin gAdd (dName 6) (dC (.int 1))) (dBlt cLen (rCons (dName 0) rNil)))) (tAnd' (dTst (dBin (gEq C.room) (dBin gIx (dName 1) (dC (.int 0))) (dC (.str "join")))) (dTst (dBin (gNe C.room) (dBin gIx (dBin gIx (dName 0) (dBin gAdd (dName 6) (dC (.int 1)))) (dC (.int 1))) (dName 4))))) (sRet (dC .non)) sNil)
  (sSeq (sIf (dTst (dBin (gEq C.room) (dBin gIx (dName 1) (dC (.int 0))) (dC (.str "swap")))) (sRet (dBin gAdd (dBin gAdd (dSl (dName 0) none (some (dName 6))) (dTup (aCons (dBin gIx (dName 0) (dBin gAdd (dName 6) (dC (.int 1)))) (aCons (dBin gIx (dName 0) (dName 6)) aNil)))) (dSl (dName 0) (some (dBin gAdd (dName 6) (dC (.int 2)))) none))) sNil)
  (sRet (dBin gAdd (dBin gAdd (dSl (dName 0) none (some (dName 6))) (dTup (aCons (dTup (aCons (dBin gAdd (dName 3) (dBin gIx (dBin gIx (dName 0) (dBin gAdd (dName 6) (dC (.int 1)))) (dC (.int 0)))) (aCons (dName 4) aNil))) aNil))) (dSl (dName 0) (some (dBin gAdd (dName 6) (dC (.int 2)))) none))))) sNil)
  (sSeq (sIf (dTst (dBin (gEq C.room) (dBin gIx (dName 1) (dC (.int 0))) (dC (.str "split")))) (sSeq (sIf (tOr' (dTst (dBin (gLt C.room) (dBin gIx (dName 1) (dC (.int 3))) (dC (.int 1)))) (dTst (dBin (gGe C.room) (dBin gIx (dName 1) (dC (.int 3))) (dName 3)))) (sRet (dC .non)) sNil)
  (sRet (dBin gAdd (dBin gAdd (dSl (dName 0) none (some (dName 6))) (dTup (aCons (dTup (aCons (dBin gIx (dName 1) (dC (.int 3))) (aCons (dName 4) aNil))) (aCons (dTup (aCons (dBin gSub (dName 3) (dBin gIx (dName 1) (dC (.int 3)))) (aCons (dName 4) aNil))) aNil)))) (dSl (dName 0) (some (dBin gAdd (dName 6) (dC (.int 1)))) none)))) sNil)
  (sSeq (sIf (dTst (dBin (gNe C.room) (dBin gIx (dName 4) (dC (.int 0))) (dC (.str "wait")))) (sRet (dC .non)) sNil)
  (sSeq (sIf (dTst (dBin (gEq C.room) (dBin gIx (dName 1) (dC (.int 0))) (dC (.str "unfold")))) (sSeq (sIf (tOr' (dTst (dBin (gLt C.room) (dBin gIx (dName 1) (dC (.int 3))) (dC (.int 2)))) (dTst (dBin (gGt C.room) (dBin gMod (dBlt cInt (rCons (dName 3) rNil)) (dBin gIx (dName 1) (dC (.int 3)))) (dC (.int 0))))) (sRet (dC .non)) sNil)
  (sSeq (sSet 5 (dBin gAdd (dBin gIx (dName 4) (dC (.int 2))) (dTup (aCons (dTup (aCons (dBin gSub (dBin gIx (dName 1) (dC (.int 3))) (dC (.int 1))) (aCons (dTup (aCons (dC (.str "wait")) (aCons (dBin gIx (dName 4) (dC (.int 1))) (aCons (dCall C 88 (aCons (dBin gIx (dName 4) (dC (.int 2))) (aCons (dC (.int 1)) (aCons (dC (.int 1)) aNil)))) aNil)))) aNil))) aNil))))
  (sRet (dBin gAdd (dBin gAdd (dSl (dName 0) none (some (dName 6))) (dTup (aCons (dTup (aCons (dBin gFdiv (dName 3) (dBin gIx (dName 1) (dC (.int 3)))) (aCons (dTup (aCons (dC (.str "wait")) (aCons (dBin gIx (dName 4) (dC (.int 1))) (aCons (dName 5) aNil)))) aNil))) aNil))) (dSl (dName 0) (some (dBin gAdd (dName 6) (dC (.int 1)))) none))))) sNil)
  (sSeq (sIf (dTst (dBin (gEq C.room) (dBlt cLen (rCons (dBin gIx (dName 4) (dC (.int 2))) rNil)) (dC (.int 0)))) (sRet (dC .non)) sNil)
  (sSeq (sSet 7 (dSl (dBin gIx (dName 4) (dC (.int 2))) none (some (dBin gSub (dBlt cLen (rCons (dBin gIx (dName 4) (dC (.int 2))) rNil)) (dC (.int 1))))))
  (sSeq (sAsg (gT 2 (gsCons (gN 8) (gsCons (gN 9) gsNil))) (dBin gIx (dBin gIx (dName 4) (dC (.int 2))) (dBin gSub (dBlt cLen (rCons (dBin gIx (dName 4) (dC (.int 2))) rNil)) (dC (.int 1)))))
  (sSeq (sIf (dTst (dBin (gNe C.room) (dName 9) (dTup (aCons (dC (.str "wait")) (aCons (dBin gIx (dName 4) (dC (.int 1))) (aCons (dCall C 88 (aCons (dName 7) (aCons (dC (.int 1)) (aCons (dC (.int 1)) aNil)))) aNil)))))) (sRet (dC .non)) sNil)
  (sRet (dBin gAdd (dBin gAdd (dSl (dName 0) none (some (dName 6))) (dTup (aCons (dTup (aCons (dBin gMul (dName 3) (dBin gAdd (dName 8) (dC (.int 1)))) (aCons (dTup (aCons (dC (.str "wait")) (aCons (dBin gIx (dName 4) (dC (.int 1))) (aCons (dName 7) aNil)))) aNil))) aNil))) (dSl (dName 0) (some (dBin gAdd (dName 6) (dC (.int 1)))) none))))))))))))))))
def b__law_rich (C : Cs) : Sd := (sSeq (sSet 1 (dFrz (dLst (aCons (dC (.str "x")) (aCons (dC (.str "y")) (aCons (dC (.int 0)) aNil))))))
  (sSeq (sSet 2 (dCall C 87 (aCons (dName 0) (aCons (dBin gAdd (dC (.int 1)) (dCall C 11 (aCons (dName 0) (aCons (dC (.int 3)) aNil)))) (aCons (dC (.int 2)) (aCons (dC (.str "ab")) (aCons (dName 1) aNil)))))))
  (sSeq (sSet 3 (dBin gIx (dLst (aCons (dC (.int 2)) (aCons (dC (.int 3)) (aCons (dC (.int 4)) (aCons (dC (.int 6)) aNil))))) (dCall C 11 (aCons (dName 0) (aCons (dC (.int 4)) aNil)))))
  (sSeq (sSet 4 (dBin gAdd (dCall C 87 (aCons (dName 0) (aCons (dCall C 11 (aCons (dName 0) (aCons (dC (.int 3)) aNil))) (aCons (dC (.int 1)) (aCons (dC (.str "ab")) (aCons (dName 1) aNil)))))) (dTup (aCons (dTup (aCons (dName 3) (aCons (dTup (aCons (dC (.str "wait")) (aCons (dC (.str "a")) (aCons (dName 2) aNil)))) aNil))) aNil))))
  (sSeq (sSet 5 (dCall C 87 (aCons (dName 0) (aCons (dCall C 11 (aCons (dName 0) (aCons (dC (.int 4)) aNil))) (aCons (dC (.int 0)) (aCons (dC (.str "ab")) (aCons (dName 1) aNil)))))))
  (sRet (dBin gAdd (dName 5) (dTup (aCons (dTup (aCons (dBin gAdd (dC (.int 1)) (dCall C 11 (aCons (dName 0) (aCons (dC (.int 2)) aNil)))) (aCons (dTup (aCons (dC (.str "wait")) (aCons (dBin gIx (dC (.str "ab")) (dCall C 11 (aCons (dName 0) (aCons (dC (.int 2)) aNil)))) (aCons (dName 4) aNil)))) aNil))) aNil)))))))))
def b__law_great_90 (C : Cs) : Sd := (sSeq (sSet 2 (dLst aNil))
  (sSeq (sFor (iSeq (dName 1)) (gT 2 (gsCons (gN 3) (gsCons (gN 4) gsNil))) (sSeq (sIf (dTst (dBin (gEq C.room) (dBlt cLen (rCons (dName 4) rNil)) (dC (.int 3)))) (sSet 4 (dTup (aCons (dBin gIx (dName 4) (dC (.int 0))) (aCons (dBin gIx (dName 4) (dC (.int 1))) (aCons (dCall C 90 (aCons (dName 0) (aCons (dBin gIx (dName 4) (dC (.int 2))) aNil))) aNil))))) sNil)
  (sAppend 2 (dTup (aCons (dBin gMul (dName 3) (dBin gIx (dLst (aCons (dC (.int 1)) (aCons (dC (.int 1)) (aCons (dC (.int 1)) (aCons (dBin gAdd (dBin gPow (dC (.int 10)) (dC (.int 9))) (dC (.int 7))) (aCons (dBin gPow (dC (.int 10)) (dC (.int 8))) aNil)))))) (dCall C 11 (aCons (dName 0) (aCons (dC (.int 5)) aNil))))) (aCons (dName 4) aNil))))))
  (sRet (dBlt cTuple (rCons (dName 2) rNil)))))
def b__law_some_step (C : Cs) : Sd := (sSeq (sSet 2 (dTup aNil))
  (sSeq (sSet 3 (dName 1))
  (sSeq (sFor (iRange rg1 (rCons (dC (.int 4)) rNil)) (gN 4) (sSeq (sSet 5 (dComp (iRange rg1 (rCons (dBlt cLen (rCons (dName 3) rNil)) rNil)) [6] (gN 6) (dTst (dBin (gEq C.room) (dBlt cLen (rCons (dBin gIx (dBin gIx (dName 3) (dName 6)) (dC (.int 1))) rNil)) (dC (.int 3)))) (dName 6)))
  (sSeq (sIf (tOr' (dTst (dBin (gEq C.room) (dBlt cLen (rCons (dName 5) rNil)) (dC (.int 0)))) (dTst (dBin (gEq C.room) (dCall C 11 (aCons (dName 0) (aCons (dC (.int 3)) aNil))) (dC (.int 0))))) sBreak sNil)
  (sSeq (sSet 7 (dBin gIx (dName 5) (dCall C 11 (aCons (dName 0) (aCons (dBlt cLen (rCons (dName 5) rNil)) aNil)))))
  (sSeq (sSet 2 (dBin gAdd (dName 2) (dTup (aCons (dName 7) aNil))))
  (sSet 3 (dBin gIx (dBin gIx (dBin gIx (dName 3) (dName 7)) (dC (.int 1))) (dC (.int 2)))))))))
  (sSeq (sSet 8 (dFrz (dLst aNil)))
  (sSeq (sFor (iRange rg1 (rCons (dBlt cLen (rCons (dName 3) rNil)) rNil)) (gN 7) (sSeq (sAsg (gT 2 (gsCons (gN 9) (gsCons (gN 10) gsNil))) (dBin gIx (dName 3) (dName 7)))
  (sSeq (sSet 8 (dFrz (dBin gAdd (dName 8) (dLst (aCons (dTup (aCons (dC (.str "swap")) (aCons (dTup aNil) (aCons (dName 7) aNil)))) (aCons (dTup (aCons (dC (.str "join")) (aCons (dTup aNil) (aCons (dName 7) aNil)))) (aCons (dTup (aCons (dC (.str "join")) (aCons (dTup aNil) (aCons (dName 7) aNil)))) (aCons (dTup (aCons (dC (.str "fold")) (aCons (dTup aNil) (aCons (dName 7) aNil)))) (aCons (dTup (aCons (dC (.str "fold")) (aCons (dTup aNil) (aCons (dName 7) aNil)))) aNil)))))))))
  (sSeq (sSet 8 (dFrz (dBin gAdd (dName 8) (dLst (aCons (dTup (aCons (dC (.str "split")) (aCons (dTup aNil) (aCons (dName 7) (aCons (dBin gAdd (dC (.int 1)) (dCall C 11 (aCons (dName 0) (aCons (dBlt cMin2 (rCons (dName 9) (rCons (dC (.int 5)) rNil))) aNil)))) aNil))))) aNil)))))
  (sSet 8 (dFrz (dBin gAdd (dName 8) (dComp (iSeq (dLst (aCons (dC (.int 2)) (aCons (dC (.int 3)) (aCons (dName 9) aNil))))) [6] (gN 6) (dTst (dBin (gEq C.room) (dBin gIx (dName 10) (dC (.int 0))) (dC (.str "wait")))) (dTup (aCons (dC (.str "unfold")) (aCons (dTup aNil) (aCons (dName 7) (aCons (dName 6) aNil)))))))))))))
  (sSeq (sSet 8 (dFrz (dComp (iSeq (dName 8)) [11] (gN 11) (dTst (dBin gIsNot (dCall C 89 (aCons (dName 3) (aCons (dName 11) aNil))) (dC .non))) (dName 11))))
  (sSeq (sIf (dTst (dBin (gEq C.room) (dBlt cLen (rCons (dName 8) rNil)) (dC (.int 0)))) (sRet (dC .non)) sNil)
  (sSeq (sSet 11 (dBin gIx (dName 8) (dCall C 11 (aCons (dName 0) (aCons (dBlt cLen (rCons (dName 8) rNil)) aNil)))))
  (sRet (dBin gAdd (dTup (aCons (dBin gIx (dName 11) (dC (.int 0))) (aCons (dName 2) aNil))) (dSl (dName 11) (some (dC (.int 2))) none)))))))))))
def b__law_walk (C : Cs) : Sd := (sSeq (sSet 3 (dLst aNil))
  (sSeq (sSet 4 (dLst (aCons (dName 1) aNil)))
  (sSeq (sFor (iRange rg1 (rCons (dName 2) rNil)) (gN 5) (sSeq (sSet 6 (dCall C 91 (aCons (dName 0) (aCons (dName 1) aNil))))
  (sIf (dTst (dBin gIsNot (dName 6) (dC .non))) (sSeq (sSet 1 (dCall C 89 (aCons (dName 1) (aCons (dName 6) aNil))))
  (sSeq (sAppend 3 (dName 6))
  (sAppend 4 (dName 1)))) sNil)))
  (sRet (dTup (aCons (dBlt cTuple (rCons (dName 3) rNil)) (aCons (dName 4) aNil)))))))
def b__law_undoing (C : Cs) : Sd := (sSeq (sSet 2 (dName 0))
  (sSeq (sFor (iSeq (dBin gIx (dName 1) (dC (.int 1)))) (gN 3) (sSet 2 (dBin gIx (dBin gIx (dBin gIx (dName 2) (dName 3)) (dC (.int 1))) (dC (.int 2)))))
  (sSeq (sSet 3 (dBin gIx (dName 1) (dC (.int 2))))
  (sSeq (sIf (dTst (dBin (gEq C.room) (dBin gIx (dName 1) (dC (.int 0))) (dC (.str "swap")))) (sRet (dName 1)) sNil)
  (sSeq (sIf (dTst (dBin (gEq C.room) (dBin gIx (dName 1) (dC (.int 0))) (dC (.str "join")))) (sRet (dTup (aCons (dC (.str "split")) (aCons (dBin gIx (dName 1) (dC (.int 1))) (aCons (dName 3) (aCons (dBin gIx (dBin gIx (dName 2) (dName 3)) (dC (.int 0))) aNil)))))) sNil)
  (sSeq (sIf (dTst (dBin (gEq C.room) (dBin gIx (dName 1) (dC (.int 0))) (dC (.str "split")))) (sRet (dTup (aCons (dC (.str "join")) (aCons (dBin gIx (dName 1) (dC (.int 1))) (aCons (dName 3) aNil))))) sNil)
  (sSeq (sIf (dTst (dBin (gEq C.room) (dBin gIx (dName 1) (dC (.int 0))) (dC (.str "unfold")))) (sRet (dTup (aCons (dC (.str "fold")) (aCons (dBin gIx (dName 1) (dC (.int 1))) (aCons (dName 3) aNil))))) sNil)
  (sSeq (sSet 4 (dBin gIx (dBin gIx (dBin gIx (dName 2) (dName 3)) (dC (.int 1))) (dC (.int 2))))
  (sRet (dTup (aCons (dC (.str "unfold")) (aCons (dBin gIx (dName 1) (dC (.int 1))) (aCons (dName 3) (aCons (dBin gAdd (dC (.int 1)) (dBin gIx (dBin gIx (dName 4) (dBin gSub (dBlt cLen (rCons (dName 4) rNil)) (dC (.int 1)))) (dC (.int 0)))) aNil))))))))))))))
def b__law_is_int (C : Cs) : Sd := (sRet (dAnd (dUn (gIsi [.int]) (dName 0)) (dUn gNot (dUn (gIsi [.bool]) (dName 0)))))
def b__law_is_word (C : Cs) : Sd := (sSeq (sIf (tOr' (tNot' (dTru (dUn (gIsi [.str]) (dName 0)))) (tOr' (dTst (dBin (gLt C.room) (dBlt cLen (rCons (dName 0) rNil)) (dC (.int 1)))) (dTst (dBin (gGt C.room) (dBlt cLen (rCons (dName 0) rNil)) (dName 1))))) (sRet (dC (.bl false))) sNil)
  (sRet (dBin (gEq C.room) (dBlt cLen (rCons (dComp (iTxt (dName 0)) [2] (gN 2) (tOr' (dTst (dBin (gLt C.room) (dName 2) (dC (.str "a")))) (dTst (dBin (gGt C.room) (dName 2) (dC (.str "z"))))) (dName 2)) rNil)) (dC (.int 0)))))
def b__law_is_part (C : Cs) : Sd := (sSeq (sIf (tOr' (tNot' (dTru (dUn (gIsi [.tuple]) (dName 0)))) (tOr' (dTst (dBin (gLt C.room) (dBlt cLen (rCons (dName 0) rNil)) (dC (.int 2)))) (tOr' (dTst (dBin (gGt C.room) (dBlt cLen (rCons (dName 0) rNil)) (dC (.int 3)))) (tNot' (dTru (dUn (gIsi [.str]) (dBin gIx (dName 0) (dC (.int 0))))))))) (sRet (dC (.bl false))) sNil)
  (sSeq (sIf (dTst (dBin (gEq C.room) (dBlt cLen (rCons (dName 0) rNil)) (dC (.int 3)))) (sSeq (sIf (tOr' (dTst (dBin (inD true C.room) (dBin gIx (dName 0) (dC (.int 0))) (dLst (aCons (dC (.str "letter")) (aCons (dC (.str "wait")) aNil))))) (tNot' (dTru (dCall C 93 (aCons (dBin gIx (dName 0) (dC (.int 1))) (aCons (dC (.int 1)) aNil)))))) (sRet (dC (.bl false))) sNil)
  (sRet (dCall C 94 (aCons (dBin gIx (dName 0) (dC (.int 2))) (aCons (dBin gAdd (dName 1) (dBlt cInt (rCons (dBin (gEq C.room) (dBin gIx (dName 0) (dC (.int 0))) (dC (.str "wait"))) rNil))) aNil))))) sNil)
  (sSeq (sIf (dTst (dBin (gEq C.room) (dBin gIx (dName 0) (dC (.int 0))) (dC (.str "name")))) (sRet (dCall C 93 (aCons (dBin gIx (dName 0) (dC (.int 1))) (aCons (dC (.int 8)) aNil)))) sNil)
  (sSeq (sIf (tOr' (tNot' (dTru (dCall C 92 (aCons (dBin gIx (dName 0) (dC (.int 1))) aNil)))) (dTst (dBin (gLt C.room) (dBin gIx (dName 0) (dC (.int 1))) (dC (.int 0))))) (sRet (dC (.bl false))) sNil)
  (sRet (dOr (dBin (gEq C.room) (dBin gIx (dName 0) (dC (.int 0))) (dC (.str "mark"))) (dAnd (dBin (gEq C.room) (dBin gIx (dName 0) (dC (.int 0))) (dC (.str "got"))) (dBin (gLt C.room) (dBin gIx (dName 0) (dC (.int 1))) (dName 1)))))))))
def b__law_is_plan (C : Cs) : Sd := (sSeq (sIf (tNot' (dTru (dUn (gIsi [.tuple]) (dName 0)))) (sRet (dC (.bl false))) sNil)
  (sSeq (sFor (iSeq (dName 0)) (gN 2) (sSeq (sIf (tOr' (tNot' (dTru (dUn (gIsi [.tuple]) (dName 2)))) (tOr' (dTst (dBin (gNe C.room) (dBlt cLen (rCons (dName 2) rNil)) (dC (.int 2)))) (tOr' (tNot' (dTru (dCall C 92 (aCons (dBin gIx (dName 2) (dC (.int 0))) aNil)))) (dTst (dBin (gLt C.room) (dBin gIx (dName 2) (dC (.int 0))) (dC (.int 1))))))) (sRet (dC (.bl false))) sNil)
  (sIf (tNot' (dTru (dCall C 95 (aCons (dBin gIx (dName 2) (dC (.int 1))) (aCons (dName 1) aNil))))) (sRet (dC (.bl false))) sNil)))
  (sRet (dC (.bl true)))))
def b_law_100 (C : Cs) : Sd := (sSeq (sSetW 1 (dCall C 22 (aCons (dName 0) aNil)))
  (sSeq (sSet 2 (dBin (gEq C.room) (dCall C 11 (aCons (dName 1) (aCons (dC (.int 4)) aNil))) (dC (.int 0))))
  (sSeq (sSet 3 (dCall C 98 (aCons (dName 1) aNil)))
  (sSeq (sIf (dTru (dName 2)) (sSet 3 (dCall C 90 (aCons (dName 1) (aCons (dName 3) aNil)))) sNil)
  (sSeq (sSet 4 (dCall C 47 (aCons (dName 3) aNil)))
  (sSeq (sFor (iRange rg1 (rCons (dBin gSub (dC (.int 8)) (dBin gMul (dC (.int 3)) (dBlt cInt (rCons (dName 2) rNil)))) rNil)) (gN 5) (sSeq (sSet 6 (dCall C 91 (aCons (dName 1) (aCons (dName 3) aNil))))
  (sIf (dTst (dBin gIsNot (dName 6) (dC .non))) (sSeq (sSet 7 (dCall C 89 (aCons (dName 3) (aCons (dName 6) aNil))))
  (sSeq (sSet 8 (dCall C 96 (aCons (dName 3) (aCons (dName 6) aNil))))
  (sSeq (sIf (tOr' (tNot' (dTru (dCall C 94 (aCons (dName 8) (aCons (dC (.int 0)) aNil))))) (tOr' (dTst (dBin (gNe C.room) (dName 8) (dName 7))) (dTst (dBin (gNe C.room) (dCall C 47 (aCons (dName 8) aNil)) (dName 4))))) (sRet (dC (.bl false))) sNil)
  (sSeq (sIf (tOr' (dTst (dBin (gNe C.room) (dCall C 96 (aCons (dName 8) (aCons (dCall C 97 (aCons (dName 3) (aCons (dName 6) aNil))) aNil))) (dName 3))) (dTst (dBin (gNe C.room) (dCall C 96 (aCons (dName 3) (aCons (dName 6) aNil))) (dName 7)))) (sRet (dC (.bl false))) sNil)
  (sSet 3 (dName 7)))))) sNil)))
  (sRet (dC (.bl true)))))))))
end Dl
/-! Pl1: plans as an inductive type; the program's tests of plans. -/
namespace Dl
open PySem PySem.Spec PyProof.Rows L2 NdefX
mutual
inductive Pa where
  | name (x : Str) | mark (n : Nat) | got (n : Nat) | letter (x : Str) (b : Pl) | wait (x : Str) (b : Pl)
inductive Pl where
  | nil | cons (c : Nat) (p : Pa) (r : Pl)
end
mutual
def Pa.d : Pa → D
  | .name x => .tup [.str "name", .str x]
  | .mark n => .tup [.str "mark", .int n]
  | .got n => .tup [.str "got", .int n]
  | .letter x b => .tup [.str "letter", .str x, .tup b.ds]
  | .wait x b => .tup [.str "wait", .str x, .tup b.ds]
def Pl.ds : Pl → List D
  | .nil => []
  | .cons c p r => .tup [.int c, p.d] :: r.ds
end
abbrev Pl.d (p : Pl) : D := .tup p.ds
mutual
/-- how deep letters and waits stand in one another -/
def Pa.dep : Pa → Nat
  | .letter _ b => b.dep + 1
  | .wait _ b => b.dep + 1
  | _ => 0
def Pl.dep : Pl → Nat
  | .nil => 0
  | .cons _ p r => max p.dep r.dep
end
def smallS : Str := "abcdefghijklmnopqrstuvwxyz"
def wordB (x : Str) : Bool := decide (1 ≤ x.length) && decide (x.length ≤ 8) && x.cps.toList.all (fun c => decide (c ∈ smallS.cps.toList))
def doorB (x : Str) : Bool := wordB x && decide (x.length = 1)
mutual
def Pa.ok : Pa → Nat → Bool
  | .name x, _ => wordB x
  | .mark _, _ => true
  | .got n, k => decide (n < k)
  | .letter x b, k => doorB x && b.ok k
  | .wait x b, k => doorB x && b.ok (k + 1)
def Pl.ok : Pl → Nat → Bool
  | .nil, _ => true
  | .cons c p r, k => decide (1 ≤ c) && p.ok k && r.ok k
end
/-! equality of data -/
section
variable {a b : D} {l k : List D} {s t : Str} {i j : Int}
@[simp] theorem eqt_cc : (D.tup (a :: l)).eq (.tup (b :: k)) = (a.eq b && (D.tup l).eq (.tup k)) := rfl
@[simp] theorem eqt_nn : (D.tup []).eq (.tup []) = true := rfl
@[simp] theorem eqt_nc : (D.tup []).eq (.tup (b :: k)) = false := rfl
@[simp] theorem eqt_cn : (D.tup (a :: l)).eq (.tup []) = false := rfl
@[simp] theorem eq_ss : (D.str s).eq (.str t) = decide (s = t) := by rfl
@[simp] theorem eq_ii : (D.int i).eq (.int j) = decide (i = j) := by rfl
@[simp] theorem eq_is : (D.int i).eq (.str t) = false := rfl
@[simp] theorem eq_si : (D.str t).eq (.int i) = false := rfl
@[simp] theorem eq_it : (D.int i).eq (.tup k) = false := rfl
@[simp] theorem eq_st : (D.str t).eq (.tup k) = false := rfl
@[simp] theorem eq_ti : (D.tup k).eq (.int i) = false := rfl
@[simp] theorem eq_ts : (D.tup k).eq (.str t) = false := rfl
@[simp] theorem dept_c : (D.tup (a :: l)).dep = max (a.dep + 1) (D.tup l).dep := by
  show max a.py.depth (PyData.depthAll (D.pyAll l)) + 1 = max (a.py.depth + 1) (PyData.depthAll (D.pyAll l) + 1)
  omega
@[simp] theorem dept_n : (D.tup []).dep = 1 := rfl
end
mutual
theorem D.eq_refl : ∀ d : D, d.eq d = true
  | .non => rfl
  | .bl b => by rw [eq_b]; simp
  | .int i => by simp
  | .str s => by simp
  | .lst l => D.eq_reflL l
  | .tup l => D.eq_reflL l
theorem D.eq_reflL : ∀ l : List D, PyData.eqvAll (D.pyAll l) (D.pyAll l) = true
  | [] => rfl
  | d :: l => by
    show (PyData.eqv d.py d.py && PyData.eqvAll (D.pyAll l) (D.pyAll l)) = true
    rw [D.eq_reflL l, Bool.and_true]
    exact D.eq_refl d
end
theorem gEq_self {rm : Nat} {d : D} (h : d.dep ≤ rm) : gEq rm d d = some (.dat (.bl true)) := by
  unfold gEq
  rw [if_pos (by omega), D.eq_refl]
theorem gNe_self {rm : Nat} {d : D} (h : d.dep ≤ rm) : gNe rm d d = some (.dat (.bl false)) := by
  unfold gNe
  rw [if_pos (by omega), D.eq_refl]
  rfl
theorem gEq_t {rm : Nat} {k l : List D} (h : (D.tup l).dep ≤ rm) : gEq rm (.tup k) (.tup l) = some (.dat (.bl ((D.tup k).eq (.tup l)))) := by
  unfold gEq
  rw [if_pos (by omega)]
mutual
theorem Pa.dep_le : ∀ p : Pa, p.d.dep ≤ 3 * p.dep + 2
  | .name x => by simp [Pa.d]
  | .mark n => by simp [Pa.d]
  | .got n => by simp [Pa.d]
  | .letter x b => by have := Pl.dep_le b; simp only [Pa.d, Pa.dep, dept_c, dept_n, dep_s, Pl.d] at *; omega
  | .wait x b => by have := Pl.dep_le b; simp only [Pa.d, Pa.dep, dept_c, dept_n, dep_s, Pl.d] at *; omega
theorem Pl.dep_le : ∀ p : Pl, p.d.dep ≤ 3 * p.dep + 4
  | .nil => by simp [Pl.d, Pl.ds]
  | .cons c p r => by have h1 := Pa.dep_le p; have h2 := Pl.dep_le r; simp only [Pl.d, Pl.ds, Pl.dep, dept_c, dept_n, dep_i] at *; omega
end
theorem len2 {a b : D} : ([a, b] : List D).length = 2 := rfl
theorem at_0 {α : Type} {a : α} {l : List α} : atI (a :: l) 0 = some a := by
  have := atI_get (l := a :: l) (k := 0) (by simp)
  simpa using this
theorem at_1 {α : Type} {a b : α} {l : List α} : atI (a :: b :: l) 1 = some b := by
  have := atI_get (l := a :: b :: l) (k := 1) (by simp)
  simpa using this
theorem at_2 {α : Type} {a b c : α} {l : List α} : atI (a :: b :: c :: l) 2 = some c := by
  have := atI_get (l := a :: b :: c :: l) (k := 2) (by simp)
  simpa using this
/-! ### the program's tests -/
def isI : D → Bool
  | .int _ => true
  | _ => false
def sgnF : D → D
  | .str z => .bl (decide (z.cps.toList.headD 0 ∈ smallS.cps.toList))
  | _ => .non
/-- the tests stand in the table -/
structure HasC (tbl : Nat → Option DefB) : Prop where
  t1 : tbl 1 = some ⟨1, 1, b_is_integer⟩
  t2 : tbl 2 = some ⟨3, 3, b_is_within⟩
  t4 : tbl 4 = some ⟨1, 1, b_is_pair⟩
  t27 : tbl 27 = some ⟨1, 1, b_is_triple⟩
  t24 : tbl 24 = some ⟨1, 2, b_is_word⟩
  t26 : tbl 26 = some ⟨1, 1, b_is_door⟩
  t28 : tbl 28 = some ⟨2, 2, b_is_part⟩
  t25 : tbl 25 = some ⟨2, 3, b_is_plan_in⟩
theorem succ_of {n k : Nat} (h : k + 1 ≤ n) : ∃ m, n = m + 1 ∧ k ≤ m := ⟨n - 1, by omega, by omega⟩
section
variable {tbl : Nat → Option DefB} (T : HasC tbl)
include T
theorem c_integer {n : Nat} (hn : 1 ≤ n) (d : D) (w : World) : (Den tbl n).call 1 [.dat d] w = .ok (.dat (.bl (isI d))) w := by
  obtain ⟨m, rfl, _⟩ := succ_of (k := 0) hn
  rw [den_succ T.t1]
  cases d <;> simp [runB, initE, toSl, b_is_integer, D.isTy, isI]
theorem c_within {n : Nat} (hn : 2 ≤ n) (i l m : Int) (w : World) : (Den tbl n).call 2 [.dat (.int i), .dat (.int l), .dat (.int m)] w = .ok (.dat (.bl (decide (l ≤ i) && decide (i ≤ m)))) w := by
  obtain ⟨k, rfl, hk⟩ := succ_of (k := 1) hn
  rw [den_succ T.t2]
  have h := c_integer T hk
  by_cases h1 : l ≤ i <;> simp [runB, initE, toSl, b_is_within, h _ _, isI, h1]
theorem c_pair {n : Nat} (hn : 1 ≤ n) (l : List D) (w : World) : (Den tbl n).call 4 [.dat (.tup l)] w = .ok (.dat (.bl (decide (l.length = 2)))) w := by
  obtain ⟨m, rfl, _⟩ := succ_of (k := 0) hn
  rw [den_succ T.t4]
  simp [runB, initE, toSl, b_is_pair, D.isTy]
  omega
theorem c_triple {n : Nat} (hn : 1 ≤ n) (l : List D) (w : World) : (Den tbl n).call 27 [.dat (.tup l)] w = .ok (.dat (.bl (decide (l.length = 3)))) w := by
  obtain ⟨m, rfl, _⟩ := succ_of (k := 0) hn
  rw [den_succ T.t27]
  simp [runB, initE, toSl, b_is_triple, D.isTy]
  omega
theorem c_word {n : Nat} (hn : 1 ≤ n) (x : Str) (w : World) : (Den tbl n).call 24 [.dat (.str x)] w = .ok (.dat (.bl (wordB x))) w := by
  obtain ⟨m, rfl, _⟩ := succ_of (k := 0) hn
  rw [den_succ T.t24]
  have g := compGo_map (i := 1) (e := dBin (inD false (Den tbl m).room) (dName 1) (dC (.str "abcdefghijklmnopqrstuvwxyz"))) (env := [.dat (.str x), .un]) (w := w) (f := sgnF) (l := chs x) (fun d hd => by
    obtain ⟨c, _, rfl⟩ := List.mem_map.mp hd
    simp [inD, smallS, sgnF])
  have ha : cAll [.lst ((chs x).map sgnF)] = some (.dat (.bl (x.cps.toList.all fun c => decide (c ∈ smallS.cps.toList)))) := by
    rw [cAll_l]
    unfold chs
    rw [List.map_map]
    show (bolsOf (x.cps.toList.map fun c => D.bl (decide (c ∈ smallS.cps.toList)))).map _ = _
    rw [bolsOf_mapF]
    simp
  by_cases h1 : 1 ≤ x.length
  · by_cases h2 : x.length ≤ 8
    · have e1 : (1 : Int) ≤ x.length := by omega
      have e2 : (x.length : Int) ≤ 8 := by omega
      simp [runB, initE, toSl, b_is_word, D.isTy, iTxt, e1, e2, h1, h2, g, -cAll_l, ha, wordB]
    · have e1 : (1 : Int) ≤ x.length := by omega
      have e2 : ¬ (x.length : Int) ≤ 8 := by omega
      simp [runB, initE, toSl, b_is_word, D.isTy, e1, e2, h1, h2, wordB]
  · have e1 : ¬ (1 : Int) ≤ x.length := by omega
    simp [runB, initE, toSl, b_is_word, D.isTy, e1, h1, wordB]
theorem c_door {n : Nat} (hn : 2 ≤ n) (x : Str) (w : World) : (Den tbl n).call 26 [.dat (.str x)] w = .ok (.dat (.bl (doorB x))) w := by
  obtain ⟨k, rfl, hk⟩ := succ_of (k := 1) hn
  rw [den_succ T.t26]
  have h := c_word T hk
  by_cases h1 : wordB x = true
  · simp [runB, initE, toSl, b_is_door, h _ _, h1, doorB]
    omega
  · simp [runB, initE, toSl, b_is_door, h _ _, h1, doorB]
end
end Dl
/-! Pl2: is_plan_in. -/
namespace Dl
open PySem PySem.Spec PyProof.Rows L2 NdefX
theorem ne_1 : ¬ Str.ofString "mark" = Str.ofString "name" := by decide +kernel
theorem ne_2 : ¬ Str.ofString "got" = Str.ofString "name" := by decide +kernel
theorem ne_3 : ¬ Str.ofString "got" = Str.ofString "mark" := by decide +kernel
theorem ne_4 : ¬ Str.ofString "letter" = Str.ofString "wait" := by decide +kernel
theorem ne_5 : ¬ Str.ofString "wait" = Str.ofString "letter" := by decide +kernel
theorem ne_6 : ¬ Str.ofString "name" = Str.ofString "letter" := by decide +kernel
theorem ne_7 : ¬ Str.ofString "name" = Str.ofString "wait" := by decide +kernel
theorem ne_8 : ¬ Str.ofString "mark" = Str.ofString "letter" := by decide +kernel
theorem ne_9 : ¬ Str.ofString "mark" = Str.ofString "wait" := by decide +kernel
theorem ne_10 : ¬ Str.ofString "got" = Str.ofString "letter" := by decide +kernel
theorem ne_11 : ¬ Str.ofString "got" = Str.ofString "wait" := by decide +kernel
theorem ne_12 : ¬ Str.ofString "letter" = Str.ofString "name" := by decide +kernel
theorem ne_13 : ¬ Str.ofString "wait" = Str.ofString "name" := by decide +kernel
theorem ne_14 : ¬ Str.ofString "name" = Str.ofString "got" := by decide +kernel
theorem ne_15 : ¬ Str.ofString "mark" = Str.ofString "got" := by decide +kernel
theorem ne_16 : ¬ Str.ofString "letter" = Str.ofString "got" := by decide +kernel
theorem ne_17 : ¬ Str.ofString "wait" = Str.ofString "got" := by decide +kernel
theorem ne_18 : ¬ Str.ofString "name" = Str.ofString "mark" := by decide +kernel
theorem ne_19 : ¬ Str.ofString "letter" = Str.ofString "mark" := by decide +kernel
theorem ne_20 : ¬ Str.ofString "wait" = Str.ofString "mark" := by decide +kernel
/-- a data part is a tuple -/
def Pa.l : Pa → List D
  | .name x => [.str "name", .str x]
  | .mark n => [.str "mark", .int n]
  | .got n => [.str "got", .int n]
  | .letter x b => [.str "letter", .str x, .tup b.ds]
  | .wait x b => [.str "wait", .str x, .tup b.ds]
theorem Pa.d_l (p : Pa) : p.d = .tup p.l := by cases p <;> rfl
theorem notin2 {rm : Nat} (h : 1 ≤ rm) {z a b : Str} : inD true rm (.str z) (.tup [.str a, .str b]) = some (.dat (.bl (!(decide (a = z) || decide (b = z))))) := by
  have e : 1 + min (depAll [.str a, .str b]) (D.str z).dep ≤ rm := by
    rw [dep_s]
    omega
  show (if 1 + min (depAll [.str a, .str b]) (D.str z).dep ≤ rm then some (RV.dat (.bl (true ^^ [D.str a, D.str b].any fun y => y.eq (.str z)))) else none) = _
  rw [if_pos e]
  simp
section
variable {tbl : Nat → Option DefB} (T : HasC tbl)
include T
abbrev inBody (C : Cs) : Sd := (sIf (tOr' (tNot' (dTru (dCall C 4 (aCons (dName 2) aNil)))) (tOr' (tNot' (dTru (dCall C 1 (aCons (dBin gIx (dName 2) (dC (.int 0))) aNil)))) (tOr' (dTst (dBin (gLt C.room) (dBin gIx (dName 2) (dC (.int 0))) (dC (.int 1)))) (tNot' (dTru (dCall C 28 (aCons (dBin gIx (dName 2) (dC (.int 1))) (aCons (dName 1) aNil)))))))) (sRet (dC (.bl false))) sNil)
omit T in
theorem plan_in_of {m : Nat} {p : Pl} {k : Nat} {w : World}
    (h : if p.ok k = true then ∃ s', forGo (gN 2) (inBody (Den tbl m)) p.ds [.dat p.d, .dat (.int k), .un] w = .ok (.nx [.dat p.d, .dat (.int k), s']) w else forGo (gN 2) (inBody (Den tbl m)) p.ds [.dat p.d, .dat (.int k), .un] w = .ok (.rt (.dat (.bl false))) w) :
    runB ⟨2, 3, b_is_plan_in⟩ (Den tbl m) [.dat p.d, .dat (.int k)] w = .ok (.dat (.bl (p.ok k))) w := by
  by_cases hp : p.ok k = true
  · rw [if_pos hp] at h
    obtain ⟨s', e⟩ := h
    simp only [Pl.d] at e
    simp [runB, initE, toSl, b_is_plan_in, D.isTy, e, hp]
  · rw [if_neg hp] at h
    simp only [Pl.d] at h
    simp [runB, initE, toSl, b_is_plan_in, D.isTy, h, hp]
mutual
theorem c_part : ∀ (p : Pa) (k n : Nat) (w : World), 2 * p.dep + 3 ≤ n → (Den tbl n).call 28 [.dat p.d, .dat (.int k)] w = .ok (.dat (.bl (p.ok k))) w
  | .name x, k, n, w, hn => by
    obtain ⟨m, rfl, hm⟩ := succ_of (k := 2) (n := n) (by simp only [Pa.dep] at hn; omega)
    rw [den_succ T.t28]
    simp [runB, initE, toSl, b_is_part, Pa.d, Pa.ok, c_pair T (show 1 ≤ m by omega), at_0, at_1, c_word T (show 1 ≤ m by omega)]
  | .mark j, k, n, w, hn => by
    obtain ⟨m, rfl, hm⟩ := succ_of (k := 2) (n := n) (by simp only [Pa.dep] at hn; omega)
    rw [den_succ T.t28]
    simp [runB, initE, toSl, b_is_part, Pa.d, Pa.ok, c_pair T (show 1 ≤ m by omega), at_0, at_1, c_integer T (show 1 ≤ m by omega), isI, ne_1]
  | .got j, k, n, w, hn => by
    obtain ⟨m, rfl, hm⟩ := succ_of (k := 2) (n := n) (by simp only [Pa.dep] at hn; omega)
    rw [den_succ T.t28]
    simp [runB, initE, toSl, b_is_part, Pa.d, Pa.ok, c_pair T (show 1 ≤ m by omega), at_0, at_1, c_within T (show 2 ≤ m by omega), ne_2, ne_3]
    omega
  | .letter x b, k, n, w, hn => by
    simp only [Pa.dep] at hn
    obtain ⟨m, rfl, hm⟩ := succ_of (k := 2) (n := n) (by omega)
    obtain ⟨m', rfl, hm'⟩ := succ_of (k := 1) (n := m) (by omega)
    rw [den_succ T.t28]
    have hb : (Den tbl (m' + 1)).call 25 [.dat b.d, .dat (.int k)] w = .ok (.dat (.bl (b.ok k))) w := by
      rw [den_succ T.t25]
      exact plan_in_of (c_inLoop b b.d k m' w .un (by omega))
    simp only [Pl.d] at hb
    have hr := fun (z a b : Str) => notin2 (rm := (Den tbl (m' + 1)).room) (z := z) (a := a) (b := b) (by rw [den_room]; omega)
    by_cases hx : doorB x = true
    · simp [runB, initE, toSl, b_is_part, Pa.d, Pa.ok, c_pair T (show 1 ≤ m' + 1 by omega), c_triple T (show 1 ≤ m' + 1 by omega), at_0, at_1, at_2, c_door T (show 2 ≤ m' + 1 by omega), hx, hb, hr, ne_4]
    · simp [runB, initE, toSl, b_is_part, Pa.d, Pa.ok, c_pair T (show 1 ≤ m' + 1 by omega), c_triple T (show 1 ≤ m' + 1 by omega), at_0, at_1, at_2, c_door T (show 2 ≤ m' + 1 by omega), hx, hr]
  | .wait x b, k, n, w, hn => by
    simp only [Pa.dep] at hn
    obtain ⟨m, rfl, hm⟩ := succ_of (k := 2) (n := n) (by omega)
    obtain ⟨m', rfl, hm'⟩ := succ_of (k := 1) (n := m) (by omega)
    rw [den_succ T.t28]
    have hb : (Den tbl (m' + 1)).call 25 [.dat b.d, .dat (.int ((k + 1 : Nat)))] w = .ok (.dat (.bl (b.ok (k + 1)))) w := by
      rw [den_succ T.t25]
      exact plan_in_of (c_inLoop b b.d (k + 1) m' w .un (by omega))
    simp only [Pl.d, Int.natCast_add, Int.cast_ofNat_Int] at hb
    have hr := fun (z a b : Str) => notin2 (rm := (Den tbl (m' + 1)).room) (z := z) (a := a) (b := b) (by rw [den_room]; omega)
    by_cases hx : doorB x = true
    · simp [runB, initE, toSl, b_is_part, Pa.d, Pa.ok, c_pair T (show 1 ≤ m' + 1 by omega), c_triple T (show 1 ≤ m' + 1 by omega), at_0, at_1, at_2, c_door T (show 2 ≤ m' + 1 by omega), hx, hb, hr]
    · simp [runB, initE, toSl, b_is_part, Pa.d, Pa.ok, c_pair T (show 1 ≤ m' + 1 by omega), c_triple T (show 1 ≤ m' + 1 by omega), at_0, at_1, at_2, c_door T (show 2 ≤ m' + 1 by omega), hx, hr]
theorem c_inLoop : ∀ (r : Pl) (P : D) (k m : Nat) (w : World) (s : Sl), 2 * r.dep + 3 ≤ m →
    if r.ok k = true then ∃ s', forGo (gN 2) (inBody (Den tbl m)) r.ds [.dat P, .dat (.int k), s] w = .ok (.nx [.dat P, .dat (.int k), s']) w else forGo (gN 2) (inBody (Den tbl m)) r.ds [.dat P, .dat (.int k), s] w = .ok (.rt (.dat (.bl false))) w
  | .nil, P, k, m, w, s, hm => by
    rw [if_pos (show Pl.nil.ok k = true by simp [Pl.ok])]
    exact ⟨s, by simp [Pl.ds]⟩
  | .cons c p r, P, k, m, w, s, hm => by
    simp only [Pl.dep] at hm
    have h1 := c_part p k m w (by omega)
    have h2 := c_inLoop r P k m w (.dat (.tup [.int c, p.d])) (by omega)
    have e : ∀ w, (Den tbl m).call 4 [.dat (.tup [.int c, p.d])] w = .ok (.dat (.bl true)) w := fun w => by rw [c_pair T (by omega)]; rfl
    simp only [Pl.ds, Pl.ok]
    by_cases hc : 1 ≤ c
    · have hc' : ¬ ((c : Int) < 1) := by omega
      by_cases hp : p.ok k = true
      · simp only [hc, hp, decide_true, Bool.true_and]
        simp [for_cons, e, at_0, at_1, c_integer T (show 1 ≤ m by omega), isI, hc', h1, hp]
        simpa using h2
      · simp [for_cons, e, at_0, at_1, c_integer T (show 1 ≤ m by omega), isI, hc', h1, hp]
    · have hc' : ((c : Int) < 1) := by omega
      simp [for_cons, e, at_0, at_1, c_integer T (show 1 ≤ m by omega), isI, hc, hc']
end
theorem c_plan_in (p : Pl) (k n : Nat) (w : World) (hn : 2 * p.dep + 4 ≤ n) : (Den tbl n).call 25 [.dat p.d, .dat (.int k)] w = .ok (.dat (.bl (p.ok k))) w := by
  obtain ⟨m, rfl, hm⟩ := succ_of (k := 2 * p.dep + 3) hn
  rw [den_succ T.t25]
  exact plan_in_of (c_inLoop T p p.d k m w .un hm)
end
end Dl
/-! Pl3: sizes; parts within; labels. -/
namespace Dl
open PySem PySem.Spec PyProof.Rows L2 NdefX
/-- numbers below this one are multiplied without an end -/
@[irreducible] def limN : Nat := 2 ^ 400000
theorem mulOk_nat {i j : Nat} (hi : i < limN) (hj : j < limN) : mulOk i j = true := by
  have k : ∀ n : Nat, n < limN → n.log2 < 400000 := fun n h => by
    unfold limN at h
    by_cases h0 : n = 0
    · subst h0; exact (by decide : (Nat.log2 0) < 400000)
    · exact (Nat.log2_lt h0).mpr h
  have h1 := k i hi
  have h2 := k j hj
  unfold mulOk
  rw [Bool.or_eq_true]
  right
  simp only [Int.natAbs_natCast, decide_eq_true_eq]
  omega
theorem go_cons {g : Tgt} {tt : Tst} {e : Ex} {env : Ev} {d : D} {ds : List D} {w : World} : compGo g tt e env (d :: ds) w = (match g d env with
    | none => .stuck
    | some env1 => (noX (tt env1 w)).bind fun b w1 => if b = true then (noX (e env1 w1)).bind fun r w2 => (match r.st with
        | some x => (compGo g tt e env ds w2).bind fun xs w3 => .ok (x :: xs) w3
        | none => .stuck)
      else compGo g tt e env ds w1) := rfl
theorem intsOf_ints (l : List Int) : intsOf (l.map .int) = some l := by
  induction l with
  | nil => rfl
  | cons i l ih => simp [intsOf, ih]
mutual
def Pa.size : Pa → Nat
  | .letter _ b => b.size + 1
  | .wait _ b => b.size + 1
  | _ => 1
def Pl.size : Pl → Nat
  | .nil => 0
  | .cons c p r => c * p.size + r.size
end
def Pl.szs : Pl → List Int
  | .nil => []
  | .cons c p r => ((c : Int) * (p.size : Int)) :: r.szs
theorem szs_sum : ∀ p : Pl, p.szs.sum = (p.size : Int)
  | .nil => rfl
  | .cons c p r => by
    rw [Pl.szs, List.sum_cons, szs_sum r, Pl.size]
    push_cast
    rfl
mutual
/-- no product beyond the limit -/
def Pa.lim : Pa → Prop
  | .letter _ b => b.lim
  | .wait _ b => b.lim
  | _ => True
def Pl.lim : Pl → Prop
  | .nil => True
  | .cons c p r => c < limN ∧ p.size < limN ∧ p.lim ∧ r.lim
end
structure HasS (tbl : Nat → Option DefB) : Prop where
  t29 : tbl 29 = some ⟨1, 3, b_size_of⟩
  t30 : tbl 30 = some ⟨1, 1, b_part_size⟩
theorem sum_szs (p : Pl) : cSum [.lst (p.szs.map .int)] = some (.dat (.int p.size)) := by
  rw [cSum_l, intsOf_ints, ← szs_sum]
  rfl
section
variable {tbl : Nat → Option DefB} (T : HasS tbl)
include T
mutual
theorem c_psize : ∀ (p : Pa) (n : Nat) (w : World), 2 * p.dep + 1 ≤ n → p.lim → (Den tbl n).call 30 [.dat p.d] w = .ok (.dat (.int p.size)) w
  | .name x, n, w, hn, hl => by
    obtain ⟨m, rfl, hm⟩ := succ_of (k := 0) (n := n) (by simp only [Pa.dep] at hn; omega)
    rw [den_succ T.t30]
    simp [runB, initE, toSl, b_part_size, Pa.d, Pa.size]
  | .mark j, n, w, hn, hl => by
    obtain ⟨m, rfl, hm⟩ := succ_of (k := 0) (n := n) (by simp only [Pa.dep] at hn; omega)
    rw [den_succ T.t30]
    simp [runB, initE, toSl, b_part_size, Pa.d, Pa.size]
  | .got j, n, w, hn, hl => by
    obtain ⟨m, rfl, hm⟩ := succ_of (k := 0) (n := n) (by simp only [Pa.dep] at hn; omega)
    rw [den_succ T.t30]
    simp [runB, initE, toSl, b_part_size, Pa.d, Pa.size]
  | .letter x b, n, w, hn, hl => by
    simp only [Pa.dep] at hn
    obtain ⟨m, rfl, hm⟩ := succ_of (k := 1) (n := n) (by omega)
    obtain ⟨m', rfl, hm'⟩ := succ_of (k := 0) (n := m) (by omega)
    rw [den_succ T.t30]
    have hb : (Den tbl (m' + 1)).call 29 [.dat (.tup b.ds)] w = .ok (.dat (.int b.size)) w := by
      rw [den_succ T.t29]
      have g := c_szLoop b (.tup b.ds) m' w (by omega) hl
      have hs := sum_szs b
      simp [runB, initE, toSl, b_size_of, g, -cSum_l, hs]
    simp [runB, initE, toSl, b_part_size, Pa.d, Pa.size, at_2, hb]
    omega
  | .wait x b, n, w, hn, hl => by
    simp only [Pa.dep] at hn
    obtain ⟨m, rfl, hm⟩ := succ_of (k := 1) (n := n) (by omega)
    obtain ⟨m', rfl, hm'⟩ := succ_of (k := 0) (n := m) (by omega)
    rw [den_succ T.t30]
    have hb : (Den tbl (m' + 1)).call 29 [.dat (.tup b.ds)] w = .ok (.dat (.int b.size)) w := by
      rw [den_succ T.t29]
      have g := c_szLoop b (.tup b.ds) m' w (by omega) hl
      have hs := sum_szs b
      simp [runB, initE, toSl, b_size_of, g, -cSum_l, hs]
    simp [runB, initE, toSl, b_part_size, Pa.d, Pa.size, at_2, hb]
    omega
theorem c_szLoop : ∀ (r : Pl) (P : D) (m : Nat) (w : World), 2 * r.dep + 1 ≤ m → r.lim →
    compGo (gT 2 (gsCons (gN 1) (gsCons (gN 2) gsNil))) tYes' (dBin gMul (dName 1) (dCall (Den tbl m) 30 (aCons (dName 2) aNil))) [.dat P, .un, .un] r.ds w = .ok (r.szs.map .int) w
  | .nil, P, m, w, hm, hl => rfl
  | .cons c p r, P, m, w, hm, hl => by
    simp only [Pl.dep] at hm
    obtain ⟨l1, l2, l3, l4⟩ := hl
    have h1 := c_psize p m w (by omega) l3
    have h2 := c_szLoop r P m w (by omega) l4
    have mo : mulOk (c : Int) (p.size : Int) = true := mulOk_nat l1 l2
    simp [Pl.ds, go_cons, h1, mo, h2, Pl.szs]
end
theorem c_sizeOf (p : Pl) (n : Nat) (w : World) (hn : 2 * p.dep + 2 ≤ n) (hl : p.lim) : (Den tbl n).call 29 [.dat p.d] w = .ok (.dat (.int p.size)) w := by
  obtain ⟨m, rfl, hm⟩ := succ_of (k := 2 * p.dep + 1) hn
  rw [den_succ T.t29]
  have g := c_szLoop T p (.tup p.ds) m w (by omega) hl
  have hs := sum_szs p
  simp [runB, initE, toSl, b_size_of, g, -cSum_l, hs]
end
/-! ### parts within -/
mutual
def Pa.within : Pa → List Pa
  | .letter _ b => b.within
  | .wait _ b => b.within
  | _ => []
def Pl.within : Pl → List Pa
  | .nil => []
  | .cons _ p r => p :: (p.within ++ r.within)
end
structure HasW (tbl : Nat → Option DefB) : Prop where
  t32 : tbl 32 = some ⟨1, 4, b_parts_within⟩
abbrev pwBody (C : Cs) : Sd := (sSeq (sAppend 1 (dName 3))
  (sIf (dTst (dBin (gEq C.room) (dBlt cLen (rCons (dName 3) rNil)) (dC (.int 3)))) (sExtend 1 (dCall C 32 (aCons (dBin gIx (dName 3) (dC (.int 2))) aNil))) sNil))
@[simp] theorem sExtend_ap {i : Nat} {e : Ex} {env : Ev} {w : World} : sExtend i e env w = (match env[i]? with
  | some (.own l) => (e env w).bind fun r w1 => (match r with
    | .fresh zs => if l.length + zs.length ≤ 16777216 then .ok (.nx (env.set i (.own (l ++ zs)))) w1 else .stuck
    | _ => .stuck)
  | _ => .stuck) := rfl
section
variable {tbl : Nat → Option DefB} (T : HasW tbl)
include T
theorem c_pwLoop : ∀ (r : Pl) (P : D) (m : Nat) (w : World) (acc : List D) (s2 s3 : Sl), r.dep ≤ m → acc.length + r.within.length < 16777216 →
    ∃ s2' s3', forGo (gT 2 (gsCons (gN 2) (gsCons (gN 3) gsNil))) (pwBody (Den tbl m)) r.ds [.dat P, .own acc, s2, s3] w = .ok (.nx [.dat P, .own (acc ++ r.within.map Pa.d), s2', s3']) w
  | .nil, P, m, w, acc, s2, s3, hm, hz => ⟨s2, s3, by simp [Pl.ds, Pl.within]⟩
  | .cons c p r, P, m, w, acc, s2, s3, hm, hz => by
    simp only [Pl.dep] at hm
    simp only [Pl.within, List.length_cons, List.length_append] at hz
    have leaf : p.within = [] → p.l.length = 2 → ∃ s2' s3', forGo (gT 2 (gsCons (gN 2) (gsCons (gN 3) gsNil))) (pwBody (Den tbl m)) (Pl.cons c p r).ds [.dat P, .own acc, s2, s3] w = .ok (.nx [.dat P, .own (acc ++ (Pl.cons c p r).within.map Pa.d), s2', s3']) w := fun e0 e1 => by
      obtain ⟨s2', s3', e⟩ := c_pwLoop r P m w (acc ++ [p.d]) (.dat (.int c)) (.dat p.d) (by omega) (by simp; omega)
      refine ⟨s2', s3', ?_⟩
      have h1 : acc.length < 16777216 := by omega
      simp only [Pa.d_l] at e ⊢
      simp [Pl.ds, for_cons, Pa.d_l, h1, e1, e, Pl.within, e0]
    have node : ∀ b : Pl, b.dep + 1 ≤ m → p.within = b.within → p.l.length = 3 → atI p.l 2 = some (.tup b.ds) → (∃ s2' s3', forGo (gT 2 (gsCons (gN 2) (gsCons (gN 3) gsNil))) (pwBody (Den tbl (m - 1))) b.ds [.dat (.tup b.ds), .own [], .un, .un] w = .ok (.nx [.dat (.tup b.ds), .own ([] ++ b.within.map Pa.d), s2', s3']) w) →
        ∃ s2' s3', forGo (gT 2 (gsCons (gN 2) (gsCons (gN 3) gsNil))) (pwBody (Den tbl m)) (Pl.cons c p r).ds [.dat P, .own acc, s2, s3] w = .ok (.nx [.dat P, .own (acc ++ (Pl.cons c p r).within.map Pa.d), s2', s3']) w := fun b hb e0 e1 e2 hl => by
      obtain ⟨m', rfl, hm'⟩ := succ_of (k := b.dep) (n := m) (by omega)
      obtain ⟨t2, t3, hl⟩ := hl
      have hc : (Den tbl (m' + 1)).call 32 [.dat (.tup b.ds)] w = .ok (.fresh (b.within.map Pa.d)) w := by
        rw [den_succ T.t32]
        simp only [Nat.add_sub_cancel, List.nil_append] at hl
        simp [runB, initE, toSl, b_parts_within, hl]
      obtain ⟨s2', s3', e⟩ := c_pwLoop r P (m' + 1) w (acc ++ [p.d] ++ b.within.map Pa.d) (.dat (.int c)) (.dat p.d) (by omega) (by simp [← e0]; omega)
      refine ⟨s2', s3', ?_⟩
      have h1 : acc.length < 16777216 := by omega
      have h2 : acc.length + 1 + b.within.length ≤ 16777216 := by rw [← e0]; omega
      simp only [Pa.d_l, List.append_assoc, List.singleton_append, List.cons_append, List.nil_append] at e ⊢
      simp [Pl.ds, for_cons, Pa.d_l, h1, e1, e2, hc, h2, e, Pl.within, e0]
    cases p with
    | name x => exact leaf rfl rfl
    | mark x => exact leaf rfl rfl
    | got x => exact leaf rfl rfl
    | letter x b => exact node b (by simp only [Pa.dep] at hm; omega) rfl rfl at_2 (c_pwLoop b (.tup b.ds) (m - 1) w [] .un .un (by simp only [Pa.dep] at hm; omega) (by simp only [Pa.within] at hz; simp; omega))
    | wait x b => exact node b (by simp only [Pa.dep] at hm; omega) rfl rfl at_2 (c_pwLoop b (.tup b.ds) (m - 1) w [] .un .un (by simp only [Pa.dep] at hm; omega) (by simp only [Pa.within] at hz; simp; omega))
theorem c_within' (p : Pl) (n : Nat) (w : World) (hn : p.dep + 1 ≤ n) (hz : p.within.length < 16777216) : (Den tbl n).call 32 [.dat p.d] w = .ok (.fresh (p.within.map Pa.d)) w := by
  obtain ⟨m, rfl, hm⟩ := succ_of (k := p.dep) hn
  rw [den_succ T.t32]
  obtain ⟨t2, t3, hl⟩ := c_pwLoop T p (.tup p.ds) m w [] .un .un (by omega) (by simpa using hz)
  simp only [List.nil_append] at hl
  simp [runB, initE, toSl, b_parts_within, hl]
end
end Dl
/-! Pl4: mapped with a closure. -/
namespace Dl
open PySem PySem.Spec PyProof.Rows L2 NdefX
def Pl.app : Pl → Pl → Pl
  | .nil, q => q
  | .cons c p r, q => .cons c p (r.app q)
def Pl.times (c : Nat) : Pl → Pl
  | .nil => .nil
  | .cons n p r => .cons (c * n) p (r.times c)
mutual
/-- what a part of which c stand there becomes -/
def Pa.mapA (f : Pa → Nat → Pl) (k c : Nat) : Pa → Pl
  | .letter x b => .cons c (.letter x (b.mapA f k)) .nil
  | .wait x b => .cons c (.wait x (b.mapA f (k + 1))) .nil
  | .name x => (f (.name x) k).times c
  | .mark n => (f (.mark n) k).times c
  | .got n => (f (.got n) k).times c
def Pl.mapA (f : Pa → Nat → Pl) (k : Nat) : Pl → Pl
  | .nil => .nil
  | .cons c p r => (p.mapA f k c).app (r.mapA f k)
end
theorem app_ds : ∀ p q : Pl, (p.app q).ds = p.ds ++ q.ds
  | .nil, q => rfl
  | .cons c p r, q => by simp [Pl.app, Pl.ds, app_ds r q]
theorem app_within : ∀ p q : Pl, (p.app q).within = p.within ++ q.within
  | .nil, q => rfl
  | .cons c p r, q => by simp [Pl.app, Pl.within, app_within r q]
theorem times_within {c : Nat} : ∀ p : Pl, (p.times c).within = p.within
  | .nil => rfl
  | .cons n p r => by simp [Pl.times, Pl.within, times_within r]
theorem len_within : ∀ p : Pl, p.ds.length ≤ p.within.length
  | .nil => Nat.le_refl _
  | .cons n p r => by have := len_within r; simp [Pl.ds, Pl.within]; omega
theorem times_len {c : Nat} : ∀ p : Pl, (p.times c).ds.length = p.ds.length
  | .nil => rfl
  | .cons n p r => by simp [Pl.times, Pl.ds, times_len r]
/-- the counts of a plan's items -/
def Pl.cl : Pl → Prop
  | .nil => True
  | .cons n _ r => n < limN ∧ r.cl
def Pa.leaf : Pa → Bool
  | .letter _ _ => false
  | .wait _ _ => false
  | _ => true
mutual
def Pa.cls : Pa → Prop
  | .letter _ b => b.cls
  | .wait _ b => b.cls
  | _ => True
/-- all counts below the limit -/
def Pl.cls : Pl → Prop
  | .nil => True
  | .cons c p r => c < limN ∧ p.cls ∧ r.cls
end
structure HasM (tbl : Nat → Option DefB) : Prop where
  t34 : tbl 34 = some ⟨3, 8, b_mapped⟩
theorem times_go {c : Nat} {w : World} {a0 a1 a2 a3 a5 : Sl} (hc : c < limN) : ∀ q : Pl, q.cl →
    compGo (gT 2 (gsCons (gN 6) (gsCons (gN 7) gsNil))) tYes' (dTup (aCons (dBin gMul (dName 4) (dName 6)) (aCons (dName 7) aNil))) [a0, a1, a2, a3, .dat (.int c), a5, .un, .un] q.ds w = .ok (q.times c).ds w
  | .nil, _ => rfl
  | .cons n p r, h => by
    have ih := times_go hc r h.2 (w := w) (a0 := a0) (a1 := a1) (a2 := a2) (a3 := a3) (a5 := a5)
    have mo : mulOk (c : Int) (n : Int) = true := mulOk_nat hc h.1
    simp [Pl.ds, go_cons, mo, ih, Pl.times]
abbrev mpBody (C : Cs) : Sd := (sIf (dTst (dBin (gEq C.room) (dBin gIx (dName 5) (dC (.int 0))) (dC (.str "letter")))) (sAppend 3 (dTup (aCons (dName 4) (aCons (dTup (aCons (dC (.str "letter")) (aCons (dBin gIx (dName 5) (dC (.int 1))) (aCons (dCall C 34 (aCons (dBin gIx (dName 5) (dC (.int 2))) (aCons (dName 1) (aCons (dName 2) aNil)))) aNil)))) aNil)))) (sIf (dTst (dBin (gEq C.room) (dBin gIx (dName 5) (dC (.int 0))) (dC (.str "wait")))) (sAppend 3 (dTup (aCons (dName 4) (aCons (dTup (aCons (dC (.str "wait")) (aCons (dBin gIx (dName 5) (dC (.int 1))) (aCons (dCall C 34 (aCons (dBin gIx (dName 5) (dC (.int 2))) (aCons (dBin gAdd (dName 1) (dC (.int 1))) (aCons (dName 2) aNil)))) aNil)))) aNil)))) (sExtend 3 (dComp (iSeq (dAct C 2 (aCons (dName 5) (aCons (dName 1) aNil)))) [6, 7] (gT 2 (gsCons (gN 6) (gsCons (gN 7) gsNil))) tYes' (dTup (aCons (dBin gMul (dName 4) (dName 6)) (aCons (dName 7) aNil)))))))
/-- what a closure answers for names, marks and gots -/
def ActOk (tbl : Nat → Option DefB) (L i : Nat) (caps : List D) (w : World) (f : Pa → Nat → Pl) : Prop :=
  ∀ (p : Pa) (k n : Nat), p.leaf = true → L ≤ n → (Den tbl n).call i ([.dat p.d, .dat (.int k)] ++ caps.map .dat) w = .ok (.dat (f p k).d) w
section
variable {tbl : Nat → Option DefB} (T : HasM tbl) {L i : Nat} {caps : List D} {w : World} {f : Pa → Nat → Pl} (hw : allL w = true) (hf : ActOk tbl L i caps w f) (hc : ∀ p k, p.leaf = true → (f p k).cl)
include T hw hf hc
abbrev clW (w : World) (i : Nat) (caps : List D) : World := w ++ [.clo i caps]
theorem c_mpLoop : ∀ (r : Pl) (P : D) (k m : Nat) (acc : List D) (s4 s5 s6 s7 : Sl), r.dep + L ≤ m → r.cls → acc.length + (r.mapA f k).within.length < 16777216 →
    ∃ s4' s5' s6' s7', forGo (gT 2 (gsCons (gN 4) (gsCons (gN 5) gsNil))) (mpBody (Den tbl m)) r.ds [.dat P, .dat (.int k), .wref w.length, .own acc, s4, s5, s6, s7] (clW w i caps) = .ok (.nx [.dat P, .dat (.int k), .wref w.length, .own (acc ++ (r.mapA f k).ds), s4', s5', s6', s7']) (clW w i caps)
  | .nil, P, k, m, acc, s4, s5, s6, s7, hm, hr, hz => ⟨s4, s5, s6, s7, by simp [Pl.ds, Pl.mapA]⟩
  | .cons c p r, P, k, m, acc, s4, s5, s6, s7, hm, hr, hz => by
    simp only [Pl.dep] at hm
    obtain ⟨hr1, hr2, hr3⟩ := hr
    simp only [Pl.mapA, app_within, List.length_append] at hz
    have leaf : p.leaf = true → p.mapA f k c = (f p k).times c → (∃ z, atI p.l 0 = some (.str z) ∧ ¬ z = Str.ofString "letter" ∧ ¬ z = Str.ofString "wait") → ∃ s4' s5' s6' s7', forGo (gT 2 (gsCons (gN 4) (gsCons (gN 5) gsNil))) (mpBody (Den tbl m)) (Pl.cons c p r).ds [.dat P, .dat (.int k), .wref w.length, .own acc, s4, s5, s6, s7] (clW w i caps) = .ok (.nx [.dat P, .dat (.int k), .wref w.length, .own (acc ++ ((Pl.cons c p r).mapA f k).ds), s4', s5', s6', s7']) (clW w i caps) := fun e0 e1 ⟨z, e2, e3, e4⟩ => by
      have hl1 := len_within ((f p k).times c)
      rw [e1] at hz
      obtain ⟨s4', s5', s6', s7', e⟩ := c_mpLoop r P k m (acc ++ ((f p k).times c).ds) (.dat (.int c)) (.dat p.d) s6 s7 (by omega) hr3 (by simp; omega)
      refine ⟨s4', s5', s6', s7', ?_⟩
      have h1 := hf p k m e0 (by omega)
      have h2 := times_go (w := clW w i caps) (a0 := .dat P) (a1 := .dat (.int k)) (a2 := .wref w.length) (a3 := .own acc) (a5 := .dat p.d) hr1 (f p k) (hc p k e0)
      have h3 : acc.length + ((f p k).times c).ds.length ≤ 16777216 := by omega
      have ha : dAct (Den tbl m) 2 (aCons (dName 5) (aCons (dName 1) aNil)) [.dat P, .dat (.int k), .wref w.length, .own acc, .dat (.int c), .dat p.d, s6, s7] (clW w i caps) = .ok (.dat (f p k).d) (clW w i caps) := by
        simp only [List.cons_append, List.nil_append] at h1
        simp [dAct, actK, hw, h1]
      simp only [Pa.d_l] at h2 ha e ⊢
      simp only [Pl.d] at ha
      simp [Pl.ds, for_cons, Pa.d_l, e2, e3, e4, ha, h2, h3, e, Pl.mapA, app_ds, e1]
    have node : ∀ (b : Pl) (q : Pa) (x z : Str) (k' : Nat), b.dep + 1 + L ≤ m → b.cls → p.l = [.str z, .str x, .tup b.ds] → q.d = .tup [.str z, .str x, .tup (b.mapA f k').ds] → p.mapA f k c = .cons c q .nil → (b.mapA f k').within.length < 16777216 → ((z = Str.ofString "letter" ∧ k' = k) ∨ (z = Str.ofString "wait" ∧ k' = k + 1)) →
        (∃ s4' s5' s6' s7', forGo (gT 2 (gsCons (gN 4) (gsCons (gN 5) gsNil))) (mpBody (Den tbl (m - 1))) b.ds [.dat b.d, .dat (.int k'), .wref w.length, .own [], .un, .un, .un, .un] (clW w i caps) = .ok (.nx [.dat b.d, .dat (.int k'), .wref w.length, .own ([] ++ (b.mapA f k').ds), s4', s5', s6', s7']) (clW w i caps)) →
        ∃ s4' s5' s6' s7', forGo (gT 2 (gsCons (gN 4) (gsCons (gN 5) gsNil))) (mpBody (Den tbl m)) (Pl.cons c p r).ds [.dat P, .dat (.int k), .wref w.length, .own acc, s4, s5, s6, s7] (clW w i caps) = .ok (.nx [.dat P, .dat (.int k), .wref w.length, .own (acc ++ ((Pl.cons c p r).mapA f k).ds), s4', s5', s6', s7']) (clW w i caps) := fun b q x z k' hb hbc e0 eq e1 hbz e2 hl => by
      obtain ⟨m', rfl, hm'⟩ := succ_of (k := b.dep) (n := m) (by omega)
      obtain ⟨t4, t5, t6, t7, hl⟩ := hl
      have hcall : (Den tbl (m' + 1)).call 34 [.dat (.tup b.ds), .dat (.int k'), .wref w.length] (clW w i caps) = .ok (.dat (.tup (b.mapA f k').ds)) (clW w i caps) := by
        rw [den_succ T.t34]
        simp only [Nat.add_sub_cancel, List.nil_append, Pl.d] at hl
        simp [runB, initE, toSl, b_mapped, hl]
      rw [e1] at hz
      simp only [Pl.within, List.length_cons] at hz
      obtain ⟨s4', s5', s6', s7', e⟩ := c_mpLoop r P k (m' + 1) (acc ++ [.tup [.int c, q.d]]) (.dat (.int c)) (.dat p.d) s6 s7 (by omega) hr3 (by simp; omega)
      refine ⟨s4', s5', s6', s7', ?_⟩
      have h1 : acc.length < 16777216 := by omega
      simp only [Pa.d_l p, e0, eq] at e ⊢
      rcases e2 with ⟨rfl, rfl⟩ | ⟨rfl, rfl⟩
      · simp [Pl.ds, for_cons, Pa.d_l p, e0, at_0, at_1, at_2, hcall, h1, e, Pl.mapA, app_ds, e1, eq]
      · simp only [Int.natCast_add, Int.cast_ofNat_Int] at hcall
        simp [Pl.ds, for_cons, Pa.d_l p, e0, at_0, at_1, at_2, ne_5, hcall, h1, e, Pl.mapA, app_ds, e1, eq]
    cases p with
    | name x => exact leaf rfl rfl ⟨_, at_0, ne_6, ne_7⟩
    | mark x => exact leaf rfl rfl ⟨_, at_0, ne_8, ne_9⟩
    | got x => exact leaf rfl rfl ⟨_, at_0, ne_10, ne_11⟩
    | letter x b =>
      have hb : (b.mapA f k).within.length < 16777216 := by simp only [Pa.mapA, Pl.within, Pa.within, List.length_cons, List.length_append] at hz; omega
      exact node b (.letter x (b.mapA f k)) x "letter" k (by simp only [Pa.dep] at hm; omega) hr2 rfl rfl rfl hb (.inl ⟨rfl, rfl⟩) (c_mpLoop b b.d k (m - 1) [] .un .un .un .un (by simp only [Pa.dep] at hm; omega) hr2 (by simpa using hb))
    | wait x b =>
      have hb : (b.mapA f (k + 1)).within.length < 16777216 := by simp only [Pa.mapA, Pl.within, Pa.within, List.length_cons, List.length_append] at hz; omega
      exact node b (.wait x (b.mapA f (k + 1))) x "wait" (k + 1) (by simp only [Pa.dep] at hm; omega) hr2 rfl rfl rfl hb (.inr ⟨rfl, rfl⟩) (c_mpLoop b b.d (k + 1) (m - 1) [] .un .un .un .un (by simp only [Pa.dep] at hm; omega) hr2 (by simpa using hb))
theorem c_mapped (p : Pl) (k n : Nat) (hn : p.dep + L + 1 ≤ n) (hp : p.cls) (hz : (p.mapA f k).within.length < 16777216) :
    (Den tbl n).call 34 [.dat p.d, .dat (.int k), .wref w.length] (clW w i caps) = .ok (.dat (p.mapA f k).d) (clW w i caps) := by
  obtain ⟨m, rfl, hm⟩ := succ_of (k := p.dep + L) hn
  rw [den_succ T.t34]
  obtain ⟨t4, t5, t6, t7, hl⟩ := c_mpLoop T hw hf hc p p.d k m [] .un .un .un .un hm hp (by simpa using hz)
  simp only [List.nil_append, Pl.d] at hl
  simp [runB, initE, toSl, b_mapped, hl]
end
end Dl
/-! Pl5: facts of plans; the law's drawn plans (40, 39, 38, 41). -/
namespace Dl
open PySem PySem.Spec PyProof.Rows L2 NdefX
theorem limN_big : 2 ^ 64 < limN := by
  unfold limN
  exact Nat.pow_lt_pow_right (by decide) (by decide)
theorem psize_pos (p : Pa) : 1 ≤ p.size := by cases p <;> simp [Pa.size]
mutual
theorem Pa.dep_size : ∀ (p : Pa) (k : Nat), p.ok k = true → p.dep ≤ p.size
  | .name x, k, h => by simp [Pa.dep, Pa.size]
  | .mark x, k, h => by simp [Pa.dep, Pa.size]
  | .got x, k, h => by simp [Pa.dep, Pa.size]
  | .letter x b, k, h => by
    simp only [Pa.ok, Bool.and_eq_true] at h
    have := Pl.dep_size b k h.2
    simp only [Pa.dep, Pa.size]; omega
  | .wait x b, k, h => by
    simp only [Pa.ok, Bool.and_eq_true] at h
    have := Pl.dep_size b (k + 1) h.2
    simp only [Pa.dep, Pa.size]; omega
theorem Pl.dep_size : ∀ (p : Pl) (k : Nat), p.ok k = true → p.dep ≤ p.size
  | .nil, k, h => by simp [Pl.dep]
  | .cons c p r, k, h => by
    simp only [Pl.ok, Bool.and_eq_true, decide_eq_true_eq] at h
    have h1 := Pa.dep_size p k h.1.2
    have h2 := Pl.dep_size r k h.2
    have h3 : 1 * p.size ≤ c * p.size := Nat.mul_le_mul_right _ h.1.1
    simp only [Pl.dep, Pl.size]; omega
end
mutual
theorem Pa.within_size : ∀ (p : Pa) (k : Nat), p.ok k = true → p.within.length + 1 ≤ p.size
  | .name x, k, h => by simp [Pa.within, Pa.size]
  | .mark x, k, h => by simp [Pa.within, Pa.size]
  | .got x, k, h => by simp [Pa.within, Pa.size]
  | .letter x b, k, h => by
    simp only [Pa.ok, Bool.and_eq_true] at h
    have := Pl.within_size b k h.2
    simp only [Pa.within, Pa.size]; omega
  | .wait x b, k, h => by
    simp only [Pa.ok, Bool.and_eq_true] at h
    have := Pl.within_size b (k + 1) h.2
    simp only [Pa.within, Pa.size]; omega
theorem Pl.within_size : ∀ (p : Pl) (k : Nat), p.ok k = true → p.within.length ≤ p.size
  | .nil, k, h => by simp [Pl.within]
  | .cons c p r, k, h => by
    simp only [Pl.ok, Bool.and_eq_true, decide_eq_true_eq] at h
    have h1 := Pa.within_size p k h.1.2
    have h2 := Pl.within_size r k h.2
    have h3 : 1 * p.size ≤ c * p.size := Nat.mul_le_mul_right _ h.1.1
    simp only [Pl.within, Pl.size, List.length_cons, List.length_append]; omega
end
mutual
theorem Pa.lim_size : ∀ (p : Pa) (k : Nat), p.ok k = true → p.size < limN → p.lim ∧ p.cls
  | .name x, k, h, hs => ⟨trivial, trivial⟩
  | .mark x, k, h, hs => ⟨trivial, trivial⟩
  | .got x, k, h, hs => ⟨trivial, trivial⟩
  | .letter x b, k, h, hs => by
    simp only [Pa.ok, Bool.and_eq_true] at h
    simp only [Pa.size] at hs
    exact Pl.lim_size b k h.2 (by omega)
  | .wait x b, k, h, hs => by
    simp only [Pa.ok, Bool.and_eq_true] at h
    simp only [Pa.size] at hs
    exact Pl.lim_size b (k + 1) h.2 (by omega)
theorem Pl.lim_size : ∀ (p : Pl) (k : Nat), p.ok k = true → p.size < limN → p.lim ∧ p.cls
  | .nil, k, h, hs => ⟨trivial, trivial⟩
  | .cons c p r, k, h, hs => by
    simp only [Pl.ok, Bool.and_eq_true, decide_eq_true_eq] at h
    simp only [Pl.size] at hs
    have h3 : 1 * p.size ≤ c * p.size := Nat.mul_le_mul_right _ h.1.1
    have h4 : c * 1 ≤ c * p.size := Nat.mul_le_mul_left _ (psize_pos p)
    have h1 := Pa.lim_size p k h.1.2 (by omega)
    have h2 := Pl.lim_size r k h.2 (by omega)
    exact ⟨⟨by omega, by omega, h1.1, h2.1⟩, ⟨by omega, h1.2, h2.2⟩⟩
end
theorem app_ok {k : Nat} : ∀ p q : Pl, (p.app q).ok k = (p.ok k && q.ok k)
  | .nil, q => by simp [Pl.app, Pl.ok]
  | .cons c p r, q => by simp [Pl.app, Pl.ok, app_ok r q, Bool.and_assoc]
theorem app_size : ∀ p q : Pl, (p.app q).size = p.size + q.size
  | .nil, q => by simp [Pl.app, Pl.size]
  | .cons c p r, q => by simp [Pl.app, Pl.size, app_size r q]; omega
/-! ### the law's sizes -/
structure HasLS (tbl : Nat → Option DefB) : Prop where
  t38 : tbl 38 = some ⟨1, 1, b__law_part_size⟩
  t41 : tbl 41 = some ⟨1, 3, b__law_size⟩
section
variable {tbl : Nat → Option DefB} (T : HasLS tbl)
include T
mutual
theorem c_lpsize : ∀ (p : Pa) (n : Nat) (w : World), 2 * p.dep + 1 ≤ n → p.lim → (Den tbl n).call 38 [.dat p.d] w = .ok (.dat (.int p.size)) w
  | .name x, n, w, hn, hl => by
    obtain ⟨m, rfl, hm⟩ := succ_of (k := 0) (n := n) (by simp only [Pa.dep] at hn; omega)
    rw [den_succ T.t38]
    simp [runB, initE, toSl, b__law_part_size, Pa.d, Pa.size]
  | .mark j, n, w, hn, hl => by
    obtain ⟨m, rfl, hm⟩ := succ_of (k := 0) (n := n) (by simp only [Pa.dep] at hn; omega)
    rw [den_succ T.t38]
    simp [runB, initE, toSl, b__law_part_size, Pa.d, Pa.size]
  | .got j, n, w, hn, hl => by
    obtain ⟨m, rfl, hm⟩ := succ_of (k := 0) (n := n) (by simp only [Pa.dep] at hn; omega)
    rw [den_succ T.t38]
    simp [runB, initE, toSl, b__law_part_size, Pa.d, Pa.size]
  | .letter x b, n, w, hn, hl => by
    simp only [Pa.dep] at hn
    obtain ⟨m, rfl, hm⟩ := succ_of (k := 1) (n := n) (by omega)
    obtain ⟨m', rfl, hm'⟩ := succ_of (k := 0) (n := m) (by omega)
    rw [den_succ T.t38]
    have hb : (Den tbl (m' + 1)).call 41 [.dat (.tup b.ds)] w = .ok (.dat (.int b.size)) w := by
      rw [den_succ T.t41]
      have g := c_lszLoop b (.tup b.ds) m' w (by omega) hl
      have hs := sum_szs b
      simp [runB, initE, toSl, b__law_size, g, -cSum_l, hs]
    simp [runB, initE, toSl, b__law_part_size, Pa.d, Pa.size, at_2, hb]
    omega
  | .wait x b, n, w, hn, hl => by
    simp only [Pa.dep] at hn
    obtain ⟨m, rfl, hm⟩ := succ_of (k := 1) (n := n) (by omega)
    obtain ⟨m', rfl, hm'⟩ := succ_of (k := 0) (n := m) (by omega)
    rw [den_succ T.t38]
    have hb : (Den tbl (m' + 1)).call 41 [.dat (.tup b.ds)] w = .ok (.dat (.int b.size)) w := by
      rw [den_succ T.t41]
      have g := c_lszLoop b (.tup b.ds) m' w (by omega) hl
      have hs := sum_szs b
      simp [runB, initE, toSl, b__law_size, g, -cSum_l, hs]
    simp [runB, initE, toSl, b__law_part_size, Pa.d, Pa.size, at_2, hb]
    omega
theorem c_lszLoop : ∀ (r : Pl) (P : D) (m : Nat) (w : World), 2 * r.dep + 1 ≤ m → r.lim →
    compGo (gT 2 (gsCons (gN 1) (gsCons (gN 2) gsNil))) tYes' (dBin gMul (dName 1) (dCall (Den tbl m) 38 (aCons (dName 2) aNil))) [.dat P, .un, .un] r.ds w = .ok (r.szs.map .int) w
  | .nil, P, m, w, hm, hl => rfl
  | .cons c p r, P, m, w, hm, hl => by
    simp only [Pl.dep] at hm
    obtain ⟨l1, l2, l3, l4⟩ := hl
    have h1 := c_lpsize p m w (by omega) l3
    have h2 := c_lszLoop r P m w (by omega) l4
    have mo : mulOk (c : Int) (p.size : Int) = true := mulOk_nat l1 l2
    simp [Pl.ds, go_cons, h1, mo, h2, Pl.szs]
end
end
/-! ### drawn plans -/
structure HasPk (tbl : Nat → Option DefB) : Prop where
  t11 : tbl 11 = some ⟨2, 5, b__law_pick⟩
structure HasLP (tbl : Nat → Option DefB) : Prop extends HasLS tbl, HasPk tbl where
  t39 : tbl 39 = some ⟨5, 7, b__law_part⟩
  t40 : tbl 40 = some ⟨5, 9, b__law_plan⟩
theorem c_pick {tbl : Nat → Option DefB} (T : HasPk tbl) {n : Nat} (hn : 1 ≤ n) {rest w : World} {m : Int} (h : TapeOk rest w) (hm : 0 < m) (hb : m < 1073741824) :
    ∃ r : Nat, ∃ w', (Den tbl n).call 11 [.wref 0, .dat (.int m)] w = .ok (.dat (.int r)) w' ∧ TapeOk rest w' ∧ (r : Int) < m := by
  obtain ⟨k, rfl, _⟩ := succ_of (k := 0) hn
  rw [den_succ T.t11]
  obtain ⟨r, w', e, t, h0, h1⟩ := pick_run (C := Den tbl k) h hm hb
  obtain ⟨r', rfl⟩ : ∃ r' : Nat, r = r' := ⟨r.toNat, by omega⟩
  exact ⟨r', w', e, t, h1⟩
theorem cnt5 {r : Nat} (h : (r : Int) < 5) : ∃ c : Nat, atI [D.int 1, .int 1, .int 1, .int 2, .int 3] (r : Int) = some (.int c) ∧ 1 ≤ c ∧ c ≤ 3 := by
  have : r = 0 ∨ r = 1 ∨ r = 2 ∨ r = 3 ∨ r = 4 := by omega
  rcases this with rfl | rfl | rfl | rfl | rfl
  · exact ⟨1, rfl, by decide, by decide⟩
  · exact ⟨1, rfl, by decide, by decide⟩
  · exact ⟨1, rfl, by decide, by decide⟩
  · exact ⟨2, rfl, by decide, by decide⟩
  · exact ⟨3, rfl, by decide, by decide⟩
/-- the signs of a text -/
def signs (z : Str) : List Str := z.cps.toList.map fun c => ⟨#[c]⟩
theorem signs_len (z : Str) : (signs z).length = z.length := by simp [signs, Str.length]
theorem ix_sign {z : Str} {i : Nat} (h : i < z.length) : ∃ x, gIx (.str z) (.int i) = some (.dat (.str x)) ∧ x ∈ signs z := by
  have h' : i < z.cps.toList.length := by simpa [Str.length] using h
  refine ⟨⟨#[z.cps.toList[i]]⟩, ?_, List.mem_map.mpr ⟨_, List.getElem_mem h', rfl⟩⟩
  show (atI z.cps.toList (i : Int)).map _ = _
  rw [atI_get h']
  rfl
/-- the signs of a text are doors -/
def DoorsOf (z : Str) : Prop := 1 ≤ z.length ∧ z.length < 1000 ∧ ∀ x ∈ signs z, doorB x = true
mutual
/-- doors, names of these; no marks -/
def Pa.dr (ds ws : List Str) : Pa → Bool
  | .name x => decide (x ∈ ws)
  | .mark _ => false
  | .got _ => true
  | .letter x b => decide (x ∈ ds) && b.dr ds ws
  | .wait x b => decide (x ∈ ds) && b.dr ds ws
def Pl.dr (ds ws : List Str) : Pl → Bool
  | .nil => true
  | .cons _ p r => p.dr ds ws && r.dr ds ws
end
def WordsOf (ws : List Str) : Prop := ws.length < 1000 ∧ ∀ x ∈ ws, wordB x = true
/-- what a drawn part, a drawn plan is -/
def GotPa (tbl : Nat → Option DefB) (z : Str) (ws : List Str) (n l : Nat) : Prop := ∀ (k : Nat) (rest w : World), k + l < 1000 → TapeOk rest w → ∃ p : Pa, ∃ w', (Den tbl n).call 39 [.wref 0, .dat (.int l), .dat (.int k), .dat (.str z), .dat (.lst (ws.map .str))] w = .ok (.dat p.d) w' ∧ TapeOk rest w' ∧ p.ok k = true ∧ p.size ≤ l ∧ p.dr (signs z) ws = true
def GotPl (tbl : Nat → Option DefB) (z : Str) (ws : List Str) (n l : Nat) : Prop := ∀ (k : Nat) (rest w : World), k + l < 1000 → TapeOk rest w → ∃ p : Pl, ∃ w', (Den tbl n).call 40 [.wref 0, .dat (.int l), .dat (.int k), .dat (.str z), .dat (.lst (ws.map .str))] w = .ok (.dat p.d) w' ∧ TapeOk rest w' ∧ p.ok k = true ∧ p.size ≤ l ∧ p.dr (signs z) ws = true
abbrev lpBody (C : Cs) : Sd := (sSeq (sIf (tOr' (dTst (dBin (gLt C.room) (dName 1) (dC (.int 1)))) (dTst (dBin (gEq C.room) (dCall C 11 (aCons (dName 0) (aCons (dC (.int 5)) aNil))) (dC (.int 0))))) sBreak sNil)
  (sSeq (sSet 7 (dBin gIx (dLst (aCons (dC (.int 1)) (aCons (dC (.int 1)) (aCons (dC (.int 1)) (aCons (dC (.int 2)) (aCons (dC (.int 3)) aNil)))))) (dCall C 11 (aCons (dName 0) (aCons (dC (.int 5)) aNil)))))
  (sSeq (sIf (dTst (dBin (gGt C.room) (dName 7) (dName 1))) (sSet 7 (dC (.int 1))) sNil)
  (sSeq (sSet 8 (dCall C 39 (aCons (dName 0) (aCons (dBin gFdiv (dName 1) (dName 7)) (aCons (dName 2) (aCons (dName 3) (aCons (dName 4) aNil)))))))
  (sSeq (sAppend 5 (dTup (aCons (dName 7) (aCons (dName 8) aNil))))
  (sSet 1 (dBin gSub (dName 1) (dBin gMul (dName 7) (dCall C 38 (aCons (dName 8) aNil))))))))))
section
variable {tbl : Nat → Option DefB} (T : HasLP tbl) {z : Str} {ws : List Str}
include T
theorem lp_loop {m : Nat} {l0 : Nat} (hl0 : l0 < 1000) (hm : 2 * l0 + 1 ≤ m) (hp : ∀ l, 1 ≤ l → l ≤ l0 → GotPa tbl z ws m l) {k : Nat} (hk : k + l0 < 1000) : ∀ (ts : List D) (l : Nat) (acc : List D) (rest w : World) (s6 s7 s8 : Sl), l ≤ l0 → acc.length + ts.length < 1000 → TapeOk rest w →
    ∃ q : Pl, ∃ s1 s6' s7' s8' w', forGo (gN 6) (lpBody (Den tbl m)) ts [.wref 0, .dat (.int l), .dat (.int k), .dat (.str z), .dat (.lst (ws.map .str)), .own acc, s6, s7, s8] w = .ok (.nx [.wref 0, s1, .dat (.int k), .dat (.str z), .dat (.lst (ws.map .str)), .own (acc ++ q.ds), s6', s7', s8']) w' ∧ TapeOk rest w' ∧ q.ok k = true ∧ q.size ≤ l ∧ q.dr (signs z) ws = true
  | [], l, acc, rest, w, s6, s7, s8, hl, hz, ht => ⟨.nil, .dat (.int l), s6, s7, s8, w, by simp [Pl.ds], ht, by simp [Pl.ok], by simp [Pl.size], by simp [Pl.dr]⟩
  | t :: ts, l, acc, rest, w, s6, s7, s8, hl, hz, ht => by
    simp only [List.length_cons] at hz
    by_cases h1 : l < 1
    · have h1' : (l : Int) < 1 := by omega
      exact ⟨.nil, .dat (.int l), .dat t, s7, s8, w, by simp [for_cons, h1', Pl.ds], ht, by simp [Pl.ok], by simp [Pl.size], by simp [Pl.dr]⟩
    · have h1' : ¬ (l : Int) < 1 := by omega
      obtain ⟨r, w1, e1, t1, r1⟩ := c_pick T.toHasPk (n := m) (by omega) ht (m := 5) (by decide) (by decide)
      by_cases h0 : r = 0
      · subst h0
        exact ⟨.nil, .dat (.int l), .dat t, s7, s8, w1, by simp [for_cons, h1', Pl.ds, e1], t1, by simp [Pl.ok], by simp [Pl.size], by simp [Pl.dr]⟩
      · obtain ⟨r2, w2, e2, t2, r2h⟩ := c_pick T.toHasPk (n := m) (by omega) t1 (m := 5) (by decide) (by decide)
        obtain ⟨c, ec, c1, c3⟩ := cnt5 r2h
        -- the count that is taken
        obtain ⟨c', hc', c1', c3', cl'⟩ : ∃ c' : Nat, (if (l : Int) < c then (1 : Int) else c) = c' ∧ 1 ≤ c' ∧ c' ≤ 3 ∧ c' ≤ l := by
          by_cases h : (l : Int) < c
          · exact ⟨1, by rw [if_pos h]; rfl, by omega, by omega, by omega⟩
          · exact ⟨c, by rw [if_neg h], c1, c3, by omega⟩
        obtain ⟨lq, hlq⟩ : ∃ lq : Nat, lq = l / c' := ⟨_, rfl⟩
        have hq : 1 ≤ lq := by
          rw [hlq, Nat.le_div_iff_mul_le (by omega)]
          omega
        have hql : lq ≤ l := by rw [hlq]; exact Nat.div_le_self _ _
        obtain ⟨p, w3, e3, t3, p1, p2, p3⟩ := hp lq hq (Nat.le_trans hql hl) k rest w2 (by omega) t2
        have hmul : c' * p.size ≤ l := by
          have := Nat.mul_le_mul_left c' p2
          have := Nat.mul_div_le l c'
          rw [← hlq] at this
          omega
        have big := limN_big
        have e64 : 2 ^ 64 = 18446744073709551616 := by decide
        have hps : p.size < limN := by omega
        have hlim := (Pa.lim_size p k p1 hps).1
        have hdep := Pa.dep_size p k p1
        have e4 := c_lpsize T.toHasLS p m w3 (by omega) hlim
        have mo : mulOk (c' : Int) (p.size : Int) = true := mulOk_nat (by omega) hps
        obtain ⟨l2, hl2⟩ : ∃ l2 : Nat, l2 = l - c' * p.size := ⟨_, rfl⟩
        have hsub : (l : Int) - (c' : Int) * (p.size : Int) = (l2 : Int) := by
          rw [hl2, Int.ofNat_sub hmul]
          push_cast
          rfl
        have hdiv : (l : Int) / (c' : Int) = (lq : Int) := by rw [hlq]; norm_cast
        obtain ⟨q, s1, s6', s7', s8', w4, e5, t5, q1, q2, q3⟩ := lp_loop hl0 hm hp hk ts l2 (acc ++ [.tup [.int c', p.d]]) rest w3 (.dat t) (.dat (.int c')) (.dat p.d) (by omega) (by simp; omega) t3
        have hz1 : acc.length < 16777216 := by omega
        have hc1 : (0 : Int) < c' := by omega
        have hc2 : (c' : Int) < 1073741824 := by omega
        refine ⟨.cons c' p q, s1, s6', s7', s8', w4, ?_, t5, by simp [Pl.ok, c1', p1, q1], by simp only [Pl.size]; omega, by simp [Pl.dr, p3, q3]⟩
        have h0' : ¬ (r : Int) = 0 := by omega
        simp only [List.append_assoc, List.cons_append, List.nil_append] at e5
        by_cases h : (l : Int) < c
        · rw [if_pos h] at hc'
          have e1' : c' = 1 := by omega
          subst e1'
          have hdiv1 : (l : Int) / 1 = (lq : Int) := hdiv
          have mo1 : mulOk 1 (p.size : Int) = true := mo
          have hsub1 : (l : Int) - (p.size : Int) = (l2 : Int) := by rw [← hsub]; simp
          simp only [Int.cast_ofNat_Int] at e5
          simp [for_cons, h1', e1, h0, e2, ec, h, hdiv1, e3, hz1, e4, mo1, hsub1]
          simp only [Int.ediv_one] at hdiv1
          simp [hdiv1, e3, hz1, e4, mo1, hsub1, e5, Pl.ds]
        · rw [if_neg h] at hc'
          have e1' : c = c' := by omega
          subst e1'
          simp only [for_cons, gN_ap]
          have hc1n : 0 < c := by omega
          simp [h1', e1, h0, e2, ec, h, hc1, hc2, hc1n, hdiv, e3, hz1, e4, mo, hsub, e5, Pl.ds]
theorem plan_of {m l : Nat} (hl : l < 1000) (hm : 2 * l + 1 ≤ m) (hp : ∀ l', 1 ≤ l' → l' ≤ l → GotPa tbl z ws m l') : GotPl tbl z ws (m + 1) l := by
  intro k rest w hk ht
  rw [den_succ T.t40]
  obtain ⟨q, s1, s6, s7, s8, w', e, t, q1, q2, q3⟩ := lp_loop T hl hm hp hk (rngD 0 6) l [] rest w .un .un .un (Nat.le_refl _) (by decide) ht
  refine ⟨q, w', ?_, t, q1, q2, q3⟩
  simp only [List.nil_append] at e
  simp [runB, initE, toSl, b__law_plan, e]
omit T in
theorem at3_k {k r : Nat} {v : Int} (h : (r : Int) < 3) : ∃ j : Int, atI [D.int 0, .int 0, .int v] (r : Int) = some (.int j) ∧ (j = 0 ∨ j = v) := by
  have : r = 0 ∨ r = 1 ∨ r = 2 := by omega
  rcases this with rfl | rfl | rfl
  · exact ⟨0, rfl, .inl rfl⟩
  · exact ⟨0, rfl, .inl rfl⟩
  · exact ⟨v, rfl, .inr rfl⟩
abbrev ptA (C : Cs) : Sd := (sSet 5 (dCall C 11 (aCons (dName 0) (aCons (dC (.int 6)) aNil))))
abbrev ptB (C : Cs) : Sd := (sIf (tAnd' (dTst (dBin (gLt C.room) (dName 1) (dC (.int 2)))) (dTst (dBin (gGt C.room) (dName 5) (dC (.int 3))))) (sSet 5 (dCall C 11 (aCons (dName 0) (aCons (dC (.int 4)) aNil)))) sNil)
abbrev ptR (C : Cs) : Sd := (sSeq (sSet 6 (dBin gIx (dName 3) (dCall C 11 (aCons (dName 0) (aCons (dBlt cLen (rCons (dName 3) rNil)) aNil)))))
  (sSeq (sIf (tAnd' (dTst (dBin (gEq C.room) (dName 5) (dC (.int 0)))) (dTst (dBin (gGt C.room) (dBlt cLen (rCons (dName 4) rNil)) (dC (.int 0))))) (sRet (dTup (aCons (dC (.str "name")) (aCons (dBin gIx (dName 4) (dCall C 11 (aCons (dName 0) (aCons (dBlt cLen (rCons (dName 4) rNil)) aNil)))) aNil)))) sNil)
  (sSeq (sIf (tAnd' (dTst (dBin (gLt C.room) (dName 5) (dC (.int 2)))) (dTst (dBin (gGt C.room) (dName 2) (dC (.int 0))))) (sRet (dTup (aCons (dC (.str "got")) (aCons (dBin gIx (dLst (aCons (dC (.int 0)) (aCons (dC (.int 0)) (aCons (dCall C 11 (aCons (dName 0) (aCons (dName 2) aNil))) aNil)))) (dCall C 11 (aCons (dName 0) (aCons (dC (.int 3)) aNil)))) aNil)))) sNil)
  (sSeq (sIf (tOr' (dTst (dBin (gEq C.room) (dName 5) (dC (.int 2)))) (dTst (dBin (gEq C.room) (dName 5) (dC (.int 4))))) (sRet (dTup (aCons (dC (.str "letter")) (aCons (dName 6) (aCons (dCall C 40 (aCons (dName 0) (aCons (dBin gSub (dName 1) (dC (.int 1))) (aCons (dName 2) (aCons (dName 3) (aCons (dName 4) aNil)))))) aNil))))) sNil)
  (sRet (dTup (aCons (dC (.str "wait")) (aCons (dName 6) (aCons (dCall C 40 (aCons (dName 0) (aCons (dBin gSub (dName 1) (dC (.int 1))) (aCons (dBin gAdd (dName 2) (dC (.int 1))) (aCons (dName 3) (aCons (dName 4) aNil)))))) aNil)))))))))
theorem part_of {m l : Nat} (hl : l < 1000) (hd : DoorsOf z) (hw : WordsOf ws) (hl1 : 1 ≤ l) (hm : 1 ≤ m) (hp : GotPl tbl z ws m (l - 1)) : GotPa tbl z ws (m + 1) l := by
  intro k rest w hk ht
  rw [den_succ T.t39]
  have rest_ok : ∀ (kd : Nat) (w2 : World), TapeOk rest w2 → ∃ p : Pa, ∃ w', ptR (Den tbl m) [.wref 0, .dat (.int l), .dat (.int k), .dat (.str z), .dat (.lst (ws.map .str)), .dat (.int kd), .un] w2 = .ok (.rt (.dat p.d)) w' ∧ TapeOk rest w' ∧ p.ok k = true ∧ p.size ≤ l ∧ p.dr (signs z) ws = true := by
    intro kd w2 t2
    obtain ⟨d, w3, e3, t3, dh⟩ := c_pick T.toHasPk (n := m) hm t2 (m := z.length) (by have := hd.1; omega) (by have := hd.2.1; omega)
    obtain ⟨x, ex, hxm⟩ := ix_sign (z := z) (i := d) (by omega)
    have hx := hd.2.2 x hxm
    have e3' : withEnv [Sl.wref 0, .dat (.int l), .dat (.int k), .dat (.str z), .dat (.lst (ws.map .str)), .dat (.int kd), .un] ((Den tbl m).call 11 [.wref 0, .dat (.int z.length)] w2) = .ok (.dat (.int d)) w3 := by rw [e3]; rfl
    by_cases c1 : kd = 0 ∧ 0 < ws.length
    · obtain ⟨rfl, c1⟩ := c1
      obtain ⟨r, w4, e4, t4, rh⟩ := c_pick T.toHasPk (n := m) hm t3 (m := ws.length) (by omega) (by have := hw.1; omega)
      have hr : r < ws.length := by omega
      have ew : atI (ws.map D.str) (r : Int) = some (.str ws[r]) := by rw [atI_get (by simpa using hr)]; simp
      refine ⟨.name ws[r], w4, ?_, t4, by simp [Pa.ok, hw.2 _ (List.getElem_mem hr)], by simp [Pa.size, hl1], by simp [Pa.dr]⟩
      simp [e3, ex, c1, e4, ew, Pa.d]
    · by_cases c2 : kd < 2 ∧ 0 < k
      · obtain ⟨c2, c3⟩ := c2
        obtain ⟨v, w4, e4, t4, vh⟩ := c_pick T.toHasPk (n := m) hm t3 (m := k) (by omega) (by omega)
        obtain ⟨r, w5, e5, t5, rh⟩ := c_pick T.toHasPk (n := m) hm t4 (m := 3) (by decide) (by decide)
        obtain ⟨j, ej, hj⟩ := at3_k (k := k) (v := v) rh
        obtain ⟨j', rfl, hj'⟩ : ∃ j' : Nat, j = j' ∧ j' < k := by rcases hj with rfl | rfl; exact ⟨0, rfl, c3⟩; exact ⟨v, rfl, by omega⟩
        refine ⟨.got j', w5, ?_, t5, by simp [Pa.ok, hj'], by simp [Pa.size, hl1], by simp [Pa.dr]⟩
        have c2' : (kd : Int) < 2 := by omega
        by_cases c0 : kd = 0
        · have c4 : ¬ 0 < ws.length := fun h => c1 ⟨c0, h⟩
          simp [e3, ex, c0, c4, c2', c3, e4, e5, ej, Pa.d]
        · simp [e3, ex, c0, c2', c3, e4, e5, ej, Pa.d]
      · have n1 : ∀ {β : Type} (a b : β), (if kd = 0 then (if 0 < ws.length then a else b) else b) = b := fun a b => by
          by_cases h : kd = 0
          · rw [if_pos h, if_neg (fun h2 => c1 ⟨h, h2⟩)]
          · rw [if_neg h]
        have n2 : ∀ {β : Type} (a b : β), (if kd < 2 then (if 0 < k then a else b) else b) = b := fun a b => by
          by_cases h : kd < 2
          · rw [if_pos h, if_neg (fun h2 => c2 ⟨h, h2⟩)]
          · rw [if_neg h]
        have el : ((l : Int) - 1) = ((l - 1 : Nat) : Int) := by omega
        by_cases c3 : kd = 2 ∨ kd = 4
        · obtain ⟨b, w4, e4, t4, b1, b2, b3⟩ := hp k rest w3 (by omega) t3
          refine ⟨.letter x b, w4, ?_, t4, by simp [Pa.ok, hx, b1], by simp only [Pa.size]; omega, by simp [Pa.dr, hxm, b3]⟩
          rw [← el] at e4
          rcases c3 with rfl | rfl <;> simp [e3, ex, e4, Pa.d]
        · obtain ⟨b, w4, e4, t4, b1, b2, b3⟩ := hp (k + 1) rest w3 (by omega) t3
          refine ⟨.wait x b, w4, ?_, t4, by simp [Pa.ok, hx, b1], by simp only [Pa.size]; omega, by simp [Pa.dr, hxm, b3]⟩
          rw [← el] at e4
          simp only [Int.natCast_add, Int.cast_ofNat_Int] at e4
          have c3a : ¬ kd = 2 := fun h => c3 (.inl h)
          have c3b : ¬ kd = 4 := fun h => c3 (.inr h)
          have c3c : ¬ (kd : Int) = 2 := by omega
          have c3d : ¬ (kd : Int) = 4 := by omega
          by_cases c0 : kd = 0
          · have c4 : ws = [] := by
              cases ws with
              | nil => rfl
              | cons a b => exact absurd ⟨c0, by simp⟩ c1
            have c5 : k = 0 := by
              cases k with
              | zero => rfl
              | succ k => exact absurd ⟨by omega, by omega⟩ c2
            subst c0 c5 c4
            simp at e4
            simp [e3, ex, e4, Pa.d]
          · by_cases c6 : kd < 2
            · have c5 : k = 0 := by
                cases k with
                | zero => rfl
                | succ k => exact absurd ⟨c6, by omega⟩ c2
              subst c5
              simp at e4
              simp [e3, ex, c0, e4, Pa.d, c3a, c3b, c3c, c3d]
            · have c6' : ¬ (kd : Int) < 2 := by omega
              simp [e3, ex, c0, c6', e4, Pa.d, c3a, c3b, c3c, c3d]
  obtain ⟨r, w1, e1, t1, r1⟩ := c_pick T.toHasPk (n := m) hm ht (m := 6) (by decide) (by decide)
  have hA : ptA (Den tbl m) [.wref 0, .dat (.int l), .dat (.int k), .dat (.str z), .dat (.lst (ws.map .str)), .un, .un] w = .ok (.nx [.wref 0, .dat (.int l), .dat (.int k), .dat (.str z), .dat (.lst (ws.map .str)), .dat (.int r), .un]) w1 := by simp [e1]
  obtain ⟨kd, w2, t2, hB⟩ : ∃ kd : Nat, ∃ w2, TapeOk rest w2 ∧ ptB (Den tbl m) [.wref 0, .dat (.int l), .dat (.int k), .dat (.str z), .dat (.lst (ws.map .str)), .dat (.int r), .un] w1 = .ok (.nx [.wref 0, .dat (.int l), .dat (.int k), .dat (.str z), .dat (.lst (ws.map .str)), .dat (.int kd), .un]) w2 := by
    by_cases h : (l : Int) < 2
    · by_cases h' : (3 : Int) < r
      · obtain ⟨r2, w2, e2, t2, r2h⟩ := c_pick T.toHasPk (n := m) hm t1 (m := 4) (by decide) (by decide)
        exact ⟨r2, w2, t2, by simp [h, h', e2]⟩
      · exact ⟨r, w1, t1, by simp [h, h']⟩
    · exact ⟨r, w1, t1, by simp [h]⟩
  obtain ⟨p, w', e, t, p1, p2, p3⟩ := rest_ok kd w2 t2
  refine ⟨p, w', ?_, t, p1, p2, p3⟩
  show endR (((ptA (Den tbl m)) [.wref 0, .dat (.int l), .dat (.int k), .dat (.str z), .dat (.lst (ws.map .str)), .un, .un] w).bind (seqK (sSeq (ptB (Den tbl m)) (ptR (Den tbl m))))) = _
  rw [hA]
  show endR (((ptB (Den tbl m)) _ w1).bind (seqK (ptR (Den tbl m)))) = _
  rw [hB]
  show endR (ptR (Den tbl m) _ w2) = _
  rw [e]
  rfl
theorem c_lplan (hd : DoorsOf z) (hw : WordsOf ws) : ∀ (l n : Nat), l < 1000 → 2 * l + 2 ≤ n → GotPl tbl z ws n l := by
  have key : ∀ (l n : Nat), l < 1000 → 2 * l + 1 ≤ n → GotPl tbl z ws (n + 1) l ∧ (1 ≤ l → GotPa tbl z ws n l) := by
    intro l
    induction l using Nat.strongRecOn with
    | _ l ih =>
      intro n hl hn
      have part : ∀ l', 1 ≤ l' → l' ≤ l → GotPa tbl z ws n l' := fun l' h1 h2 => by
        obtain ⟨m, rfl, hm⟩ := succ_of (k := 2 * l') (n := n) (by omega)
        obtain ⟨m', rfl, hm'⟩ := succ_of (k := 2 * l' - 1) (n := m) (by omega)
        exact part_of T (by omega) hd hw h1 (by omega) (ih (l' - 1) (by omega) m' (by omega) (by omega)).1
      exact ⟨plan_of T hl (by omega) part, fun h => part l h (Nat.le_refl _)⟩
  intro l n hl hn
  obtain ⟨m, rfl, hm⟩ := succ_of (k := 2 * l + 1) (n := n) (by omega)
  exact (key l m hl hm).1
end
end Dl
/-! Pl6: names; letters and waits; caught and freed. -/
namespace Dl
open PySem PySem.Spec PyProof.Rows L2 NdefX
/-! ### names -/
def Pa.nm : Pa → Option Str
  | .name x => some x
  | _ => none
def Pl.nms (p : Pl) : List Str := p.within.filterMap Pa.nm
def dedup (l : List Str) : List Str := l.foldl keysAdd []
theorem foldl_keys_mem {z : Str} : ∀ (l acc : List Str), z ∈ l.foldl keysAdd acc ↔ z ∈ acc ∨ z ∈ l
  | [], acc => by simp
  | x :: l, acc => by
    rw [List.foldl_cons, foldl_keys_mem l]
    unfold keysAdd
    by_cases h : x ∈ acc
    · rw [if_pos h, List.mem_cons]
      constructor
      · rintro (h1 | h1)
        · exact .inl h1
        · exact .inr (.inr h1)
      · rintro (h1 | rfl | h1)
        · exact .inl h1
        · exact .inl h
        · exact .inr h1
    · rw [if_neg h, List.mem_append, List.mem_singleton, List.mem_cons, or_assoc]
theorem foldl_keys_len : ∀ (l acc : List Str), (l.foldl keysAdd acc).length ≤ acc.length + l.length
  | [], acc => by simp
  | x :: l, acc => by
    rw [List.foldl_cons]
    have := foldl_keys_len l (keysAdd acc x)
    have h2 : (keysAdd acc x).length ≤ acc.length + 1 := keysAdd_len
    simp only [List.length_cons]
    omega
theorem dedup_len (l : List Str) : (dedup l).length ≤ l.length := by
  have := foldl_keys_len l []
  simpa [dedup] using this
theorem foldl_filter {q : Str → Bool} : ∀ (l acc : List Str), (l.filter q).foldl keysAdd (acc.filter q) = (l.foldl keysAdd acc).filter q
  | [], acc => rfl
  | x :: l, acc => by
    rw [List.foldl_cons, ← foldl_filter l]
    by_cases h : q x = true
    · rw [List.filter_cons_of_pos h, List.foldl_cons]
      congr 1
      unfold keysAdd
      by_cases h2 : x ∈ acc
      · rw [if_pos h2, if_pos (by rw [List.mem_filter]; exact ⟨h2, h⟩)]
      · rw [if_neg h2, if_neg (by rw [List.mem_filter]; exact fun z => h2 z.1), List.filter_append, List.filter_cons_of_pos h]
        rfl
    · rw [List.filter_cons_of_neg h]
      congr 1
      unfold keysAdd
      by_cases h2 : x ∈ acc
      · rw [if_pos h2]
      · rw [if_neg h2, List.filter_append, List.filter_cons_of_neg h]
        simp
theorem dedup_filter (q : Str → Bool) (l : List Str) : dedup (l.filter q) = (dedup l).filter q := foldl_filter l []
theorem sortS_filter (q : Str → Bool) (l : List Str) : sortS (l.filter q) = (sortS l).filter q := by
  symm
  refine List.Perm.eq_of_pairwise (le := fun a b => leS a b = true) (fun a b _ _ => leS_anti a b) ?_ (List.pairwise_mergeSort leS_trans leS_total _) ?_
  · exact (List.pairwise_mergeSort leS_trans leS_total l).sublist List.filter_sublist
  · exact ((List.mergeSort_perm l leS).filter q).trans (List.mergeSort_perm _ leS).symm
structure HasK (tbl : Nat → Option DefB) : Prop extends HasC tbl where
  t31 : tbl 31 = some ⟨1, 1, b_check_plan⟩
structure HasN (tbl : Nat → Option DefB) : Prop extends HasK tbl, HasW tbl where
  t33 : tbl 33 = some ⟨2, 3, b_labels_of⟩
  t46 : tbl 46 = some ⟨1, 1, b_names⟩
theorem labels_go {rm : Nat} {P : D} {w : World} : ∀ l : List Pa, compGo (gN 2) (dTst (dBin (gEq rm) (dBin gIx (dName 2) (dC (.int 0))) (dName 1))) (dBin gIx (dName 2) (dC (.int 1))) [.dat P, .dat (.str "name"), .un] (l.map Pa.d) w = .ok ((l.filterMap Pa.nm).map .str) w
  | [] => rfl
  | p :: l => by
    have ih := labels_go (rm := rm) (P := P) (w := w) l
    cases p <;> simp [go_cons, Pa.d, at_0, at_1, ih, List.filterMap_cons, Pa.nm, ne_1, ne_2, ne_12, ne_13]
theorem strs_map (l : List Str) : strsOf (l.map .str) = some l := by
  induction l with
  | nil => rfl
  | cons x l ih => simp [strsOf, ih]
section
variable {tbl : Nat → Option DefB} (T : HasK tbl)
include T
theorem c_checkPlan {p : Pl} {n : Nat} {w : World} (hn : 2 * p.dep + 5 ≤ n) (h : p.ok 0 = true) : (Den tbl n).call 31 [.dat p.d] w = .ok (.dat .non) w := by
  obtain ⟨m, rfl, hm⟩ := succ_of (k := 2 * p.dep + 4) hn
  rw [den_succ T.t31]
  have e := c_plan_in T.toHasC p 0 m w hm
  simp only [Pl.d, Int.cast_ofNat_Int] at e
  simp [runB, initE, toSl, b_check_plan, e, h]
end
section
variable {tbl : Nat → Option DefB} (T : HasN tbl)
include T
theorem c_labels {p : Pl} {n : Nat} {w : World} (hn : p.dep + 2 ≤ n) (hz : p.within.length < 64) : (Den tbl n).call 33 [.dat p.d, .dat (.str "name")] w = .ok (.fresh ((sortS (dedup p.nms)).map .str)) w := by
  obtain ⟨m, rfl, hm⟩ := succ_of (k := p.dep + 1) hn
  rw [den_succ T.t33]
  have e := c_within' T.toHasW p m w (by omega) (by omega)
  have g := labels_go (rm := (Den tbl m).room) (P := p.d) (w := w) p.within
  simp only [Pl.d] at e g
  have hs := strs_map p.nms
  have hl : (dedup p.nms).length < 64 := by
    have h1 := dedup_len p.nms
    have h2 : p.nms.length ≤ p.within.length := by unfold Pl.nms; exact List.length_filterMap_le _ _
    omega
  have hk := strs_map (dedup p.nms)
  have hc : cSortS [.lst ((dedup p.nms).map .str)] = some (.fresh ((sortS (dedup p.nms)).map .str)) := by
    simp only [cSortS, hk]
    rw [if_pos hl]
  unfold Pl.nms at *
  unfold dedup at *
  simp [runB, initE, toSl, b_labels_of, dKeys, e, g, hs, hc]
theorem c_names {p : Pl} {n : Nat} {w : World} (hn : 2 * p.dep + 6 ≤ n) (h : p.ok 0 = true) (hz : p.within.length < 64) : (Den tbl n).call 46 [.dat p.d] w = .ok (.fresh ((sortS (dedup p.nms)).map .str)) w := by
  obtain ⟨m, rfl, hm⟩ := succ_of (k := 2 * p.dep + 5) hn
  rw [den_succ T.t46]
  have e1 := c_checkPlan T.toHasK (w := w) hm h
  have e2 := c_labels T (p := p) (n := m) (w := w) (by omega) hz
  simp only [Pl.d] at e1 e2
  simp [runB, initE, toSl, b_names, e1, e2]
end
/-! ### letters and waits -/
mutual
def Pa.caught (x : Str) (k : Nat) : Pa → Pa
  | .name y => if y = x then .got k else .name y
  | .letter d b => .letter d (b.caught x k)
  | .wait d b => .wait d (b.caught x (k + 1))
  | .mark n => .mark n
  | .got n => .got n
def Pl.caught (x : Str) (k : Nat) : Pl → Pl
  | .nil => .nil
  | .cons c p r => .cons c (p.caught x k) (r.caught x k)
end
mutual
def Pa.freed (x : Str) (k : Nat) : Pa → Pa
  | .got n => if n = k then .name x else .got n
  | .letter d b => .letter d (b.freed x k)
  | .wait d b => .wait d (b.freed x (k + 1))
  | .mark n => .mark n
  | .name y => .name y
def Pl.freed (x : Str) (k : Nat) : Pl → Pl
  | .nil => .nil
  | .cons c p r => .cons c (p.freed x k) (r.freed x k)
end
mutual
theorem Pa.freed_caught (x : Str) : ∀ (p : Pa) (k : Nat), p.ok k = true → (p.caught x k).freed x k = p
  | .name y, k, h => by
    by_cases e : y = x
    · subst e; simp [Pa.caught, Pa.freed]
    · simp [Pa.caught, e, Pa.freed]
  | .mark n, k, h => by simp [Pa.caught, Pa.freed]
  | .got n, k, h => by
    have : ¬ n = k := by simp [Pa.ok] at h; omega
    simp [Pa.caught, Pa.freed, this]
  | .letter d b, k, h => by
    simp only [Pa.ok, Bool.and_eq_true] at h
    simp [Pa.caught, Pa.freed, Pl.freed_caught x b k h.2]
  | .wait d b, k, h => by
    simp only [Pa.ok, Bool.and_eq_true] at h
    simp [Pa.caught, Pa.freed, Pl.freed_caught x b (k + 1) h.2]
theorem Pl.freed_caught (x : Str) : ∀ (p : Pl) (k : Nat), p.ok k = true → (p.caught x k).freed x k = p
  | .nil, k, h => by simp [Pl.caught, Pl.freed]
  | .cons c p r, k, h => by
    simp only [Pl.ok, Bool.and_eq_true] at h
    simp [Pl.caught, Pl.freed, Pa.freed_caught x p k h.1.2, Pl.freed_caught x r k h.2]
end
mutual
theorem Pa.caught_ok (x : Str) : ∀ (p : Pa) (k : Nat), p.ok k = true → (p.caught x k).ok (k + 1) = true
  | .name y, k, h => by
    by_cases e : y = x
    · simp [Pa.caught, e, Pa.ok]
    · simpa [Pa.caught, e, Pa.ok] using h
  | .mark n, k, h => by simp [Pa.caught, Pa.ok]
  | .got n, k, h => by simp [Pa.caught, Pa.ok] at *; omega
  | .letter d b, k, h => by
    simp only [Pa.ok, Bool.and_eq_true] at h
    simp [Pa.caught, Pa.ok, h.1, Pl.caught_ok x b k h.2]
  | .wait d b, k, h => by
    simp only [Pa.ok, Bool.and_eq_true] at h
    simp [Pa.caught, Pa.ok, h.1, Pl.caught_ok x b (k + 1) h.2]
theorem Pl.caught_ok (x : Str) : ∀ (p : Pl) (k : Nat), p.ok k = true → (p.caught x k).ok (k + 1) = true
  | .nil, k, h => by simp [Pl.caught, Pl.ok]
  | .cons c p r, k, h => by
    simp only [Pl.ok, Bool.and_eq_true] at h
    simp only [decide_eq_true_eq] at h
    simp [Pl.caught, Pl.ok, h.1.1, Pa.caught_ok x p k h.1.2, Pl.caught_ok x r k h.2]
end
mutual
theorem Pa.caught_size (x : Str) : ∀ (p : Pa) (k : Nat), (p.caught x k).size = p.size
  | .name y, k => by by_cases e : y = x <;> simp [Pa.caught, e, Pa.size]
  | .mark n, k => rfl
  | .got n, k => rfl
  | .letter d b, k => by simp [Pa.caught, Pa.size, Pl.caught_size x b k]
  | .wait d b, k => by simp [Pa.caught, Pa.size, Pl.caught_size x b (k + 1)]
theorem Pl.caught_size (x : Str) : ∀ (p : Pl) (k : Nat), (p.caught x k).size = p.size
  | .nil, k => rfl
  | .cons c p r, k => by simp [Pl.caught, Pl.size, Pa.caught_size x p k, Pl.caught_size x r k]
end
mutual
theorem Pa.caught_within (x : Str) : ∀ (p : Pa) (k : Nat), ((p.caught x k).within.filterMap Pa.nm) = (p.within.filterMap Pa.nm).filter (fun y => !decide (y = x))
  | .name y, k => by by_cases e : y = x <;> simp [Pa.caught, e, Pa.within]
  | .mark n, k => rfl
  | .got n, k => rfl
  | .letter d b, k => by simp only [Pa.caught, Pa.within]; exact Pl.caught_within x b k
  | .wait d b, k => by simp only [Pa.caught, Pa.within]; exact Pl.caught_within x b (k + 1)
theorem Pl.caught_within (x : Str) : ∀ (p : Pl) (k : Nat), ((p.caught x k).within.filterMap Pa.nm) = (p.within.filterMap Pa.nm).filter (fun y => !decide (y = x))
  | .nil, k => rfl
  | .cons c p r, k => by
    have h1 := Pa.caught_within x p k
    have h2 := Pl.caught_within x r k
    simp only [Pl.caught, Pl.within, List.filterMap_cons, List.filterMap_append, h1, h2]
    cases p with
    | name y => by_cases e : y = x <;> simp [Pa.caught, e, Pa.nm]
    | _ => simp [Pa.caught, Pa.nm]
end
/-- the closure of bound_to -/
def bindF (x : Str) (p : Pa) (k : Nat) : Pl := match p with
  | .name y => .cons 1 (if y = x then .got k else .name y) .nil
  | p => .cons 1 p .nil
mutual
theorem Pa.mapA_bind (x : Str) : ∀ (p : Pa) (k c : Nat), p.mapA (bindF x) k c = .cons c (p.caught x k) .nil
  | .name y, k, c => by simp [Pa.mapA, bindF, Pl.times, Pa.caught]
  | .mark n, k, c => by simp [Pa.mapA, bindF, Pl.times, Pa.caught]
  | .got n, k, c => by simp [Pa.mapA, bindF, Pl.times, Pa.caught]
  | .letter d b, k, c => by simp [Pa.mapA, Pa.caught, Pl.mapA_bind x b k]
  | .wait d b, k, c => by simp [Pa.mapA, Pa.caught, Pl.mapA_bind x b (k + 1)]
theorem Pl.mapA_bind (x : Str) : ∀ (p : Pl) (k : Nat), p.mapA (bindF x) k = p.caught x k
  | .nil, k => rfl
  | .cons c p r, k => by simp [Pl.mapA, Pl.caught, Pa.mapA_bind x p k c, Pl.mapA_bind x r k, Pl.app]
end
mutual
theorem Pa.caught_len (x : Str) : ∀ (p : Pa) (k : Nat), (p.caught x k).within.length = p.within.length
  | .name y, k => by by_cases e : y = x <;> simp [Pa.caught, e, Pa.within]
  | .mark n, k => rfl
  | .got n, k => rfl
  | .letter d b, k => by simp [Pa.caught, Pa.within, Pl.caught_len x b k]
  | .wait d b, k => by simp [Pa.caught, Pa.within, Pl.caught_len x b (k + 1)]
theorem Pl.caught_len (x : Str) : ∀ (p : Pl) (k : Nat), (p.caught x k).within.length = p.within.length
  | .nil, k => rfl
  | .cons c p r, k => by simp [Pl.caught, Pl.within, Pa.caught_len x p k, Pl.caught_len x r k]
end
structure HasZ0 (tbl : Nat → Option DefB) : Prop extends HasK tbl, HasS tbl where
  t47 : tbl 47 = some ⟨1, 1, b_size⟩
structure HasZ (tbl : Nat → Option DefB) : Prop extends HasN tbl, HasM tbl, HasZ0 tbl where
  t37 : tbl 37 = some ⟨1, 1, b_check_word⟩
  t48 : tbl 48 = some ⟨1, 1, b_is_plan⟩
structure HasL (tbl : Nat → Option DefB) : Prop extends HasZ tbl where
  t35 : tbl 35 = some ⟨1, 1, b_check_door⟩
  t36 : tbl 36 = some ⟨3, 3, b_bound_to⟩
  t44 : tbl 44 = some ⟨3, 3, b_wait⟩
  t45 : tbl 45 = some ⟨2, 2, b_letter⟩
  t50 : tbl 50 = some ⟨3, 3, fun C => sRet (b_bound_to'clo C)⟩
section
variable {tbl : Nat → Option DefB} (T : HasL tbl)
include T
theorem act_bind {x : Str} {w : World} : ActOk tbl 1 50 [.tup [.str "name", .str x]] w (bindF x) := by
  intro p k n hp hn
  obtain ⟨m, rfl, hm⟩ := succ_of (k := 0) hn
  rw [den_succ T.t50]
  have hq : ∀ l : List D, gEq (Den tbl m).room (.tup l) (.tup [.str "name", .str x]) = some (.dat (.bl ((D.tup l).eq (.tup [.str "name", .str x])))) := fun l => gEq_t (by rw [den_room]; simp)
  cases p with
  | name y => by_cases e : y = x <;> simp [runB, initE, toSl, b_bound_to'clo, Pa.d, hq, e, bindF, Pl.ds]
  | mark j => simp [runB, initE, toSl, b_bound_to'clo, Pa.d, hq, ne_1, bindF, Pl.ds]
  | got j => simp [runB, initE, toSl, b_bound_to'clo, Pa.d, hq, ne_2, bindF, Pl.ds]
  | letter d b => cases hp
  | wait d b => cases hp
theorem bind_cl {x : Str} (p : Pa) (k : Nat) : (bindF x p k).cl := by
  have := limN_big
  have e : 2 ^ 64 = 18446744073709551616 := by decide
  cases p <;> exact ⟨by omega, trivial⟩
theorem c_bound {d x : Str} {p : Pl} {n : Nat} {w : World} (hw : allL w = true) (hn : p.dep + 3 ≤ n) (hp : p.cls) (hz : p.within.length < 16777216) : (Den tbl n).call 36 [.dat (.str d), .dat (.tup [.str "name", .str x]), .dat p.d] w = .ok (.dat (Pa.wait d (p.caught x 0)).d) w := by
  obtain ⟨m, rfl, hm⟩ := succ_of (k := p.dep + 2) hn
  rw [den_succ T.t36]
  have e := c_mapped T.toHasM hw (act_bind T (x := x) (w := w)) (fun p k _ => bind_cl T p k) p 0 m (by omega) hp (by rw [Pl.mapA_bind, Pl.caught_len]; exact hz)
  rw [Pl.mapA_bind] at e
  simp only [Pl.d, Int.cast_ofNat_Int] at e
  simp [runB, initE, toSl, b_bound_to, dClo, capsOf, cloK, hw, e, Pa.d]
theorem c_letter {d : Str} {p : Pl} {n : Nat} {w : World} (hn : 2 * p.dep + 6 ≤ n) (hd : doorB d = true) (h : p.ok 0 = true) : (Den tbl n).call 45 [.dat (.str d), .dat p.d] w = .ok (.dat (Pl.cons 1 (.letter d p) .nil).d) w := by
  obtain ⟨m, rfl, hm⟩ := succ_of (k := 2 * p.dep + 5) hn
  obtain ⟨m', rfl, hm'⟩ := succ_of (k := 2) (n := m) (by omega)
  rw [den_succ T.t45]
  have e1 : ∀ w, (Den tbl (m' + 1)).call 35 [.dat (.str d)] w = .ok (.dat .non) w := fun w => by
    rw [den_succ T.t35]
    simp [runB, initE, toSl, b_check_door, c_door T.toHasC (show 2 ≤ m' by omega), hd]
  have e2 := c_checkPlan T.toHasK (p := p) (n := m' + 1) (w := w) hm h
  simp only [Pl.d] at e2
  simp [runB, initE, toSl, b_letter, e1, e2, Pl.ds, Pa.d]
theorem c_wait {d x : Str} {p : Pl} {n : Nat} {w : World} (hw : allL w = true) (hn : 2 * p.dep + 6 ≤ n) (hd : doorB d = true) (hx : wordB x = true) (h : p.ok 0 = true) (hs : p.size < 16777216) : (Den tbl n).call 44 [.dat (.str d), .dat (.str x), .dat p.d] w = .ok (.dat (Pl.cons 1 (.wait d (p.caught x 0)) .nil).d) w := by
  obtain ⟨m, rfl, hm⟩ := succ_of (k := 2 * p.dep + 5) hn
  obtain ⟨m', rfl, hm'⟩ := succ_of (k := 2) (n := m) (by omega)
  rw [den_succ T.t44]
  have big := limN_big
  have e64 : 2 ^ 64 = 18446744073709551616 := by decide
  have hl := (Pl.lim_size p 0 h (by omega)).2
  have hz := Pl.within_size p 0 h
  have e1 : ∀ w, (Den tbl (m' + 1)).call 35 [.dat (.str d)] w = .ok (.dat .non) w := fun w => by
    rw [den_succ T.t35]
    simp [runB, initE, toSl, b_check_door, c_door T.toHasC (show 2 ≤ m' by omega), hd]
  have e2 : ∀ w, (Den tbl (m' + 1)).call 37 [.dat (.str x)] w = .ok (.dat .non) w := fun w => by
    rw [den_succ T.t37]
    simp [runB, initE, toSl, b_check_word, c_word T.toHasC (show 1 ≤ m' by omega), hx]
  have e3 := c_checkPlan T.toHasK (p := p) (n := m' + 1) (w := w) hm h
  have e4 := c_bound T (d := d) (x := x) (p := p) (n := m' + 1) hw (by omega) hl (by omega)
  simp only [Pl.d] at e3 e4
  simp [runB, initE, toSl, b_wait, e1, e2, e3, e4, Pl.ds]
end
section
variable {tbl : Nat → Option DefB} (T : HasZ0 tbl)
include T
theorem c_size {p : Pl} {n : Nat} {w : World} (hn : 2 * p.dep + 6 ≤ n) (h : p.ok 0 = true) (hs : p.size < limN) : (Den tbl n).call 47 [.dat p.d] w = .ok (.dat (.int p.size)) w := by
  obtain ⟨m, rfl, hm⟩ := succ_of (k := 2 * p.dep + 5) hn
  rw [den_succ T.t47]
  have e1 := c_checkPlan T.toHasK (w := w) hm h
  have e2 := c_sizeOf T.toHasS p m w (by omega) (Pl.lim_size p 0 h hs).1
  simp only [Pl.d] at e1 e2
  simp [runB, initE, toSl, b_size, e1, e2]
end
section
variable {tbl : Nat → Option DefB} (T : HasZ tbl)
include T
theorem c_isPlan {p : Pl} {n : Nat} {w : World} (hn : 2 * p.dep + 5 ≤ n) : (Den tbl n).call 48 [.dat p.d] w = .ok (.dat (.bl (p.ok 0))) w := by
  obtain ⟨m, rfl, hm⟩ := succ_of (k := 2 * p.dep + 4) hn
  rw [den_succ T.t48]
  have e := c_plan_in T.toHasC p 0 m w hm
  simp only [Pl.d, Int.cast_ofNat_Int] at e
  simp [runB, initE, toSl, b_is_plan, e]
end
end Dl
/-! Pl7: raised, replaced, put. -/
namespace Dl
open PySem PySem.Spec PyProof.Rows L2 NdefX
/-! ### nesting, items -/
def Pl.nst : Pl → List Int
  | .nil => []
  | .cons _ (.letter _ b) r => ((b.dep : Int) + 1) :: r.nst
  | .cons _ (.wait _ b) r => ((b.dep : Int) + 1) :: r.nst
  | .cons _ _ r => r.nst
theorem nst_max : ∀ (p : Pl) (x : Nat), maxI (x : Int) p.nst = ((max x p.dep : Nat) : Int)
  | .nil, x => by simp [Pl.nst, maxI, Pl.dep]
  | .cons c p r, x => by
    have key : ∀ b : Pl, maxI (x : Int) (((b.dep : Int) + 1) :: r.nst) = ((max x (max (b.dep + 1) r.dep) : Nat) : Int) := fun b => by
      have ih := nst_max r (max x (b.dep + 1))
      have e : (if ((b.dep : Int) + 1) > (x : Int) then ((b.dep : Int) + 1) else (x : Int)) = ((max x (b.dep + 1) : Nat) : Int) := by split <;> omega
      simp only [maxI, e, ih]
      omega
    have ih := nst_max r x
    cases p with
    | name y => simp only [Pl.nst, ih, Pl.dep, Pa.dep]; omega
    | mark y => simp only [Pl.nst, ih, Pl.dep, Pa.dep]; omega
    | got y => simp only [Pl.nst, ih, Pl.dep, Pa.dep]; omega
    | letter y b => simp only [Pl.nst, Pl.dep, Pa.dep]; exact key b
    | wait y b => simp only [Pl.nst, Pl.dep, Pa.dep]; exact key b
structure HasI (tbl : Nat → Option DefB) : Prop extends HasW tbl where
  t52 : tbl 52 = some ⟨1, 1, b_items_in⟩
  t51 : tbl 51 = some ⟨1, 3, b_nesting⟩
theorem nst_go {m : Nat} {C : Cs} {P : D} {w : World} (hC : ∀ b : Pl, b.dep < m → C.call 51 [.dat (.tup b.ds)] w = .ok (.dat (.int b.dep)) w) : ∀ r : Pl, r.dep ≤ m →
    compGo (gT 2 (gsCons (gN 1) (gsCons (gN 2) gsNil))) (dTst (dBin (gEq C.room) (dBlt cLen (rCons (dName 2) rNil)) (dC (.int 3)))) (dBin gAdd (dC (.int 1)) (dCall C 51 (aCons (dBin gIx (dName 2) (dC (.int 2))) aNil))) [.dat P, .un, .un] r.ds w = .ok (r.nst.map .int) w
  | .nil, _ => rfl
  | .cons c p r, h => by
    simp only [Pl.dep] at h
    have ih := nst_go hC r (P := P) (by omega)
    cases p with
    | name y => simp [Pl.ds, Pa.d, go_cons, ih, Pl.nst]
    | mark y => simp [Pl.ds, Pa.d, go_cons, ih, Pl.nst]
    | got y => simp [Pl.ds, Pa.d, go_cons, ih, Pl.nst]
    | letter y b =>
      simp only [Pa.dep] at h
      simp [Pl.ds, Pa.d, go_cons, at_2, hC b (by omega), ih, Pl.nst]
      omega
    | wait y b =>
      simp only [Pa.dep] at h
      simp [Pl.ds, Pa.d, go_cons, at_2, hC b (by omega), ih, Pl.nst]
      omega
theorem within_dep : ∀ (p : Pl), p.nst.length ≤ p.within.length
  | .nil => Nat.le_refl _
  | .cons c p r => by
    have := within_dep r
    cases p <;> simp [Pl.nst, Pl.within] <;> omega
section
variable {tbl : Nat → Option DefB} (T : HasI tbl)
include T
theorem c_items {p : Pl} {n : Nat} {w : World} (hn : p.dep + 2 ≤ n) (hz : p.within.length < 16777216) : (Den tbl n).call 52 [.dat p.d] w = .ok (.dat (.int p.within.length)) w := by
  obtain ⟨m, rfl, hm⟩ := succ_of (k := p.dep + 1) (n := n) (by omega)
  rw [den_succ T.t52]
  have e := c_within' T.toHasW p m w hm hz
  simp only [Pl.d] at e
  simp [runB, initE, toSl, b_items_in, e]
theorem c_nesting : ∀ (n : Nat) (p : Pl) (w : World), p.dep + 1 ≤ n → p.within.length < 16777215 → (Den tbl n).call 51 [.dat p.d] w = .ok (.dat (.int p.dep)) w
  | 0, p, w, h, hz => by omega
  | n + 1, p, w, h, hz => by
    rw [den_succ T.t51]
    have bz : ∀ b : Pl, b.dep < p.dep → True := fun _ _ => trivial
    have g : ∀ r : Pl, r.dep ≤ n → r.within.length < 16777215 → compGo (gT 2 (gsCons (gN 1) (gsCons (gN 2) gsNil))) (dTst (dBin (gEq (Den tbl n).room) (dBlt cLen (rCons (dName 2) rNil)) (dC (.int 3)))) (dBin gAdd (dC (.int 1)) (dCall (Den tbl n) 51 (aCons (dBin gIx (dName 2) (dC (.int 2))) aNil))) [.dat (.tup p.ds), .un, .un] r.ds w = .ok (r.nst.map .int) w := by
      intro r
      induction r using Pl.rec (motive_1 := fun _ => True) with
      | nil => intro _ _; rfl
      | cons c q r _ ih =>
        intro hd hw
        simp only [Pl.dep] at hd
        simp only [Pl.within, List.length_cons, List.length_append] at hw
        have ih := ih (by omega) (by omega)
        cases q with
        | name y => simp [Pl.ds, Pa.d, go_cons, ih, Pl.nst]
        | mark y => simp [Pl.ds, Pa.d, go_cons, ih, Pl.nst]
        | got y => simp [Pl.ds, Pa.d, go_cons, ih, Pl.nst]
        | letter y b =>
          simp only [Pa.dep] at hd
          simp only [Pa.within] at hw
          have hb := c_nesting n b w (by omega) (by omega)
          simp only [Pl.d] at hb
          simp [Pl.ds, Pa.d, go_cons, at_2, hb, ih, Pl.nst]
          omega
        | wait y b =>
          simp only [Pa.dep] at hd
          simp only [Pa.within] at hw
          have hb := c_nesting n b w (by omega) (by omega)
          simp only [Pl.d] at hb
          simp [Pl.ds, Pa.d, go_cons, at_2, hb, ih, Pl.nst]
          omega
      | _ => trivial
    have g := g p (by omega) hz
    have hl : 1 + p.nst.length ≤ sizeLine := by have := within_dep p; rw [sizeLine_eq]; omega
    have hm : cMax1 [.lst (.int 0 :: p.nst.map .int)] = some (.dat (.int p.dep)) := by
      have e := nst_max p 0
      have ei : intsOf (D.int 0 :: p.nst.map .int) = some (0 :: p.nst) := by simp [intsOf]
      simp only [cMax1, ei]
      rw [show maxI 0 p.nst = ((max 0 p.dep : Nat) : Int) from e]
      simp
    simp [runB, initE, toSl, b_nesting, g, hl, hm]
end
/-! ### raised -/
mutual
def Pa.raised (by_ least k : Nat) : Pa → Pa
  | .got n => if k + least ≤ n then .got (n + by_) else .got n
  | .letter d b => .letter d (b.raised by_ least k)
  | .wait d b => .wait d (b.raised by_ least (k + 1))
  | .mark n => .mark n
  | .name y => .name y
def Pl.raised (by_ least k : Nat) : Pl → Pl
  | .nil => .nil
  | .cons c p r => .cons c (p.raised by_ least k) (r.raised by_ least k)
end
def raiseF (by_ least : Nat) (p : Pa) (k : Nat) : Pl := .cons 1 (p.raised by_ least k) .nil
mutual
theorem Pa.mapA_raise (a l : Nat) : ∀ (p : Pa) (k c : Nat), p.mapA (raiseF a l) k c = .cons c (p.raised a l k) .nil
  | .name y, k, c => by simp [Pa.mapA, raiseF, Pl.times]
  | .mark n, k, c => by simp [Pa.mapA, raiseF, Pl.times]
  | .got n, k, c => by simp [Pa.mapA, raiseF, Pl.times]
  | .letter d b, k, c => by simp [Pa.mapA, Pa.raised, Pl.mapA_raise a l b k]
  | .wait d b, k, c => by simp [Pa.mapA, Pa.raised, Pl.mapA_raise a l b (k + 1)]
theorem Pl.mapA_raise (a l : Nat) : ∀ (p : Pl) (k : Nat), p.mapA (raiseF a l) k = p.raised a l k
  | .nil, k => rfl
  | .cons c p r, k => by simp [Pl.mapA, Pl.raised, Pa.mapA_raise a l p k c, Pl.mapA_raise a l r k, Pl.app]
end
mutual
theorem Pa.raised_len (a l : Nat) : ∀ (p : Pa) (k : Nat), (p.raised a l k).within.length = p.within.length
  | .name y, k => rfl
  | .mark n, k => rfl
  | .got n, k => by by_cases h : k + l ≤ n <;> simp [Pa.raised, h, Pa.within]
  | .letter d b, k => by simp [Pa.raised, Pa.within, Pl.raised_len a l b k]
  | .wait d b, k => by simp [Pa.raised, Pa.within, Pl.raised_len a l b (k + 1)]
theorem Pl.raised_len (a l : Nat) : ∀ (p : Pl) (k : Nat), (p.raised a l k).within.length = p.within.length
  | .nil, k => rfl
  | .cons c p r, k => by simp [Pl.raised, Pl.within, Pa.raised_len a l p k, Pl.raised_len a l r k]
end
mutual
/-- a plan without gots that belong to farther waits stays as it is -/
theorem Pa.raised_ok (a : Nat) : ∀ (p : Pa) (k : Nat), p.ok k = true → p.raised a 0 k = p
  | .name y, k, h => rfl
  | .mark n, k, h => rfl
  | .got n, k, h => by
    have : ¬ k ≤ n := by simp [Pa.ok] at h; omega
    simp [Pa.raised, this]
  | .letter d b, k, h => by
    simp only [Pa.ok, Bool.and_eq_true] at h
    simp [Pa.raised, Pl.raised_ok a b k h.2]
  | .wait d b, k, h => by
    simp only [Pa.ok, Bool.and_eq_true] at h
    simp [Pa.raised, Pl.raised_ok a b (k + 1) h.2]
theorem Pl.raised_ok (a : Nat) : ∀ (p : Pl) (k : Nat), p.ok k = true → p.raised a 0 k = p
  | .nil, k, h => rfl
  | .cons c p r, k, h => by
    simp only [Pl.ok, Bool.and_eq_true] at h
    simp [Pl.raised, Pa.raised_ok a p k h.1.2, Pl.raised_ok a r k h.2]
end
structure HasR (tbl : Nat → Option DefB) : Prop extends HasI tbl, HasM tbl where
  t55 : tbl 55 = some ⟨4, 4, b_raised'clo⟩
  t57 : tbl 57 = some ⟨3, 4, b_raised⟩
section
variable {tbl : Nat → Option DefB} (T : HasR tbl)
include T
theorem act_raise {a l : Nat} {w : World} : ActOk tbl 1 55 [.int l, .int a] w (raiseF a l) := by
  intro p k n hp hn
  obtain ⟨m, rfl, hm⟩ := succ_of (k := 0) hn
  rw [den_succ T.t55]
  cases p with
  | name y => simp [runB, initE, toSl, b_raised'clo, Pa.d, at_0, ne_14, raiseF, Pl.ds, Pa.raised]
  | mark j => simp [runB, initE, toSl, b_raised'clo, Pa.d, at_0, ne_15, raiseF, Pl.ds, Pa.raised]
  | got j =>
    by_cases h : k + l ≤ j
    · have h' : (k : Int) + l ≤ j := by omega
      simp [runB, initE, toSl, b_raised'clo, Pa.d, at_0, at_1, h, h', raiseF, Pl.ds, Pa.raised]
    · have h' : ¬ (k : Int) + l ≤ j := by omega
      simp [runB, initE, toSl, b_raised'clo, Pa.d, at_0, at_1, h, h', raiseF, Pl.ds, Pa.raised]
  | letter d b => cases hp
  | wait d b => cases hp
theorem c_raised {a l : Nat} {p : Pl} {n : Nat} {w : World} (hw : allL w = true) (hn : p.dep + 3 ≤ n) (hp : p.cls) (hz : p.within.length < 16777216) : (Den tbl n).call 57 [.dat p.d, .dat (.int a), .dat (.int l)] w = .ok (.dat (p.raised a l 0).d) w := by
  obtain ⟨m, rfl, hm⟩ := succ_of (k := p.dep + 2) hn
  rw [den_succ T.t57]
  have big := limN_big
  have e := c_mapped T.toHasM hw (act_raise T (a := a) (l := l) (w := w)) (fun p k _ => ⟨by omega, trivial⟩) p 0 m (by omega) hp (by rw [Pl.mapA_raise, Pl.raised_len]; exact hz)
  rw [Pl.mapA_raise] at e
  simp only [Pl.d, Int.cast_ofNat_Int] at e
  simp [runB, initE, toSl, b_raised, sDefRet, dClo, capsOf, cloK, hw, e, Pa.d]
end
/-! ### a plan put for a name or a mark -/
def putF (old : D) (other : Pl) (p : Pa) (_ : Nat) : Pl := if p.d.eq old = true then other else .cons 1 p .nil
abbrev Pl.put (p : Pl) (old : D) (other : Pl) : Pl := p.mapA (putF old other) 0
mutual
theorem Pa.put_k (old : D) (o : Pl) : ∀ (p : Pa) (k c : Nat), p.mapA (putF old o) k c = p.mapA (putF old o) 0 c
  | .name y, k, c => rfl
  | .mark n, k, c => rfl
  | .got n, k, c => rfl
  | .letter d b, k, c => by simp only [Pa.mapA]; rw [Pl.put_k old o b k]
  | .wait d b, k, c => by simp only [Pa.mapA]; rw [Pl.put_k old o b (k + 1), Pl.put_k old o b (0 + 1)]
theorem Pl.put_k (old : D) (o : Pl) : ∀ (p : Pl) (k : Nat), p.mapA (putF old o) k = p.mapA (putF old o) 0
  | .nil, k => rfl
  | .cons c p r, k => by simp only [Pl.mapA]; rw [Pa.put_k old o p k c, Pl.put_k old o r k]
end
theorem times_ok {c k : Nat} (hc : 1 ≤ c) : ∀ p : Pl, p.ok k = true → (p.times c).ok k = true
  | .nil, h => by simp [Pl.times, Pl.ok]
  | .cons n p r, h => by
    simp only [Pl.ok, Bool.and_eq_true, decide_eq_true_eq] at h
    have : 1 * 1 ≤ c * n := Nat.mul_le_mul hc h.1.1
    simp only [Pl.times, Pl.ok, h.1.2, times_ok hc r h.2, Bool.and_true, decide_eq_true_eq]
    omega
mutual
theorem Pa.ok_mono : ∀ (p : Pa) (k j : Nat), k ≤ j → p.ok k = true → p.ok j = true
  | .name y, k, j, h, e => e
  | .mark n, k, j, h, e => e
  | .got n, k, j, h, e => by simp [Pa.ok] at *; omega
  | .letter d b, k, j, h, e => by
    simp only [Pa.ok, Bool.and_eq_true] at *
    exact ⟨e.1, Pl.ok_mono b k j h e.2⟩
  | .wait d b, k, j, h, e => by
    simp only [Pa.ok, Bool.and_eq_true] at *
    exact ⟨e.1, Pl.ok_mono b (k + 1) (j + 1) (by omega) e.2⟩
theorem Pl.ok_mono : ∀ (p : Pl) (k j : Nat), k ≤ j → p.ok k = true → p.ok j = true
  | .nil, k, j, h, e => e
  | .cons c p r, k, j, h, e => by
    simp only [Pl.ok, Bool.and_eq_true] at *
    exact ⟨⟨e.1.1, Pa.ok_mono p k j h e.1.2⟩, Pl.ok_mono r k j h e.2⟩
end
mutual
theorem Pa.put_ok (old : D) (o : Pl) (ho : o.ok 0 = true) : ∀ (p : Pa) (k c j : Nat), 1 ≤ c → p.ok k = true → (p.mapA (putF old o) j c).ok k = true
  | .name y, k, c, j, hc, h => by
    simp only [Pa.mapA, putF]
    split
    · exact times_ok hc _ (Pl.ok_mono o 0 k (by omega) ho)
    · simp [Pl.times, Pl.ok, hc, h]
  | .mark n, k, c, j, hc, h => by
    simp only [Pa.mapA, putF]
    split
    · exact times_ok hc _ (Pl.ok_mono o 0 k (by omega) ho)
    · simp [Pl.times, Pl.ok, hc, h]
  | .got n, k, c, j, hc, h => by
    simp only [Pa.mapA, putF]
    split
    · exact times_ok hc _ (Pl.ok_mono o 0 k (by omega) ho)
    · simp [Pl.times, Pl.ok, hc, h]
  | .letter d b, k, c, j, hc, h => by
    simp only [Pa.ok, Bool.and_eq_true] at h
    simp [Pa.mapA, Pl.ok, Pa.ok, hc, h.1, Pl.put_ok old o ho b k j h.2]
  | .wait d b, k, c, j, hc, h => by
    simp only [Pa.ok, Bool.and_eq_true] at h
    simp [Pa.mapA, Pl.ok, Pa.ok, hc, h.1, Pl.put_ok old o ho b (k + 1) (j + 1) h.2]
theorem Pl.put_ok (old : D) (o : Pl) (ho : o.ok 0 = true) : ∀ (p : Pl) (k j : Nat), p.ok k = true → (p.mapA (putF old o) j).ok k = true
  | .nil, k, j, h => by simp [Pl.mapA, Pl.ok]
  | .cons c p r, k, j, h => by
    simp only [Pl.ok, Bool.and_eq_true, decide_eq_true_eq] at h
    simp [Pl.mapA, app_ok, Pa.put_ok old o ho p k c j h.1.1 h.1.2, Pl.put_ok old o ho r k j h.2]
end
mutual
theorem Pa.put_len (old : D) (o : Pl) : ∀ (p : Pa) (c j : Nat), (p.mapA (putF old o) j c).within.length ≤ (p.within.length + 1) * (o.within.length + 1)
  | .name y, c, j => by
    simp only [Pa.mapA, times_within, putF, Pa.within]
    split <;> simp [Pl.within, Pa.within]
  | .mark n, c, j => by
    simp only [Pa.mapA, times_within, putF, Pa.within]
    split <;> simp [Pl.within, Pa.within]
  | .got n, c, j => by
    simp only [Pa.mapA, times_within, putF, Pa.within]
    split <;> simp [Pl.within, Pa.within]
  | .letter d b, c, j => by
    have := Pl.put_len old o b j
    simp only [Pa.mapA, Pl.within, Pa.within, List.length_cons, List.length_append, List.length_nil, Nat.add_mul, Nat.one_mul]
    omega
  | .wait d b, c, j => by
    have := Pl.put_len old o b (j + 1)
    simp only [Pa.mapA, Pl.within, Pa.within, List.length_cons, List.length_append, List.length_nil, Nat.add_mul, Nat.one_mul]
    omega
theorem Pl.put_len (old : D) (o : Pl) : ∀ (p : Pl) (j : Nat), (p.mapA (putF old o) j).within.length ≤ p.within.length * (o.within.length + 1)
  | .nil, j => by simp [Pl.mapA, Pl.within]
  | .cons c p r, j => by
    have h1 := Pa.put_len old o p c j
    have h2 := Pl.put_len old o r j
    simp only [Pl.mapA, app_within, Pl.within, List.length_cons, List.length_append]
    rw [show (p.within.length + r.within.length + 1) * (o.within.length + 1) = (p.within.length + 1) * (o.within.length + 1) + r.within.length * (o.within.length + 1) by rw [← Nat.add_mul]; congr 1; omega]
    omega
end
theorem app_dep : ∀ p q : Pl, (p.app q).dep = max p.dep q.dep
  | .nil, q => by simp [Pl.app, Pl.dep]
  | .cons c p r, q => by simp only [Pl.app, Pl.dep, app_dep r q]; omega
theorem times_dep {c : Nat} : ∀ p : Pl, (p.times c).dep = p.dep
  | .nil => rfl
  | .cons n p r => by simp only [Pl.times, Pl.dep, times_dep r]
mutual
theorem Pa.put_dep (old : D) (o : Pl) : ∀ (p : Pa) (c j : Nat), (p.mapA (putF old o) j c).dep ≤ p.dep + o.dep
  | .name y, c, j => by
    simp only [Pa.mapA, times_dep, putF, Pa.dep]
    split <;> simp [Pl.dep, Pa.dep]
  | .mark n, c, j => by
    simp only [Pa.mapA, times_dep, putF, Pa.dep]
    split <;> simp [Pl.dep, Pa.dep]
  | .got n, c, j => by
    simp only [Pa.mapA, times_dep, putF, Pa.dep]
    split <;> simp [Pl.dep, Pa.dep]
  | .letter d b, c, j => by
    have := Pl.put_dep old o b j
    simp only [Pa.mapA, Pl.dep, Pa.dep]; omega
  | .wait d b, c, j => by
    have := Pl.put_dep old o b (j + 1)
    simp only [Pa.mapA, Pl.dep, Pa.dep]; omega
theorem Pl.put_dep (old : D) (o : Pl) : ∀ (p : Pl) (j : Nat), (p.mapA (putF old o) j).dep ≤ p.dep + o.dep
  | .nil, j => by simp [Pl.mapA, Pl.dep]
  | .cons c p r, j => by
    have h1 := Pa.put_dep old o p c j
    have h2 := Pl.put_dep old o r j
    simp only [Pl.mapA, app_dep, Pl.dep]; omega
end
/-- what a name or a mark is told by -/
def Old (old : D) : Prop := ∃ a b, old = .tup [a, b] ∧ a.dep = 0 ∧ b.dep = 0
theorem Old.room {old : D} (h : Old old) {rm : Nat} (hr : 1 ≤ rm) (l : List D) : gEq rm (.tup l) old = some (.dat (.bl ((D.tup l).eq old))) := by
  obtain ⟨a, b, rfl, h1, h2⟩ := h
  exact gEq_t (by simp [h1, h2]; omega)
theorem old_name (x : Str) : Old (.tup [.str "name", .str x]) := ⟨_, _, rfl, rfl, rfl⟩
theorem old_mark (j : Nat) : Old (.tup [.str "mark", .int j]) := ⟨_, _, rfl, rfl, rfl⟩
structure HasP (tbl : Nat → Option DefB) : Prop extends HasR tbl, HasZ tbl where
  t53 : tbl 53 = some ⟨1, 1, b_check_room⟩
  t56 : tbl 56 = some ⟨4, 4, fun C => sRet (b_replaced'clo C)⟩
  t58 : tbl 58 = some ⟨3, 3, b_replaced⟩
  t59 : tbl 59 = some ⟨1, 1, b_roomy⟩
  t61 : tbl 61 = some ⟨3, 5, b_roomy_replaced⟩
  t62 : tbl 62 = some ⟨1, 1, b_check_mark⟩
  t65 : tbl 65 = some ⟨3, 3, b_mark_put⟩
  t73 : tbl 73 = some ⟨3, 3, b_put⟩
theorem cls_cl : ∀ p : Pl, p.cls → p.cl
  | .nil, _ => trivial
  | .cons c p r, h => ⟨h.1, cls_cl r h.2.2⟩
theorem places_go {rm : Nat} {old P O S : D} {w : World} (ho : Old old) (hr : 1 ≤ rm) : ∀ l : List Pa, ∃ xs : List D, compGo (gN 4) (dTst (dBin (gEq rm) (dName 4) (dName 1))) (dName 4) [.dat P, .dat old, .dat O, .un, .un] (l.map Pa.d) w = .ok xs w ∧ xs.length ≤ l.length
  | [] => ⟨[], rfl, Nat.le_refl _⟩
  | p :: l => by
    obtain ⟨xs, e, h⟩ := places_go (S := S) ho hr l (P := P) (O := O) (w := w)
    have hq := ho.room hr p.l
    by_cases hp : (D.tup p.l).eq old = true
    · exact ⟨p.d :: xs, by simp [go_cons, Pa.d_l, hq, hp, e], by simpa using h⟩
    · exact ⟨xs, by simp [go_cons, Pa.d_l, hq, hp, e], by simp; omega⟩
section
variable {tbl : Nat → Option DefB} (T : HasP tbl)
include T
theorem act_put {old : D} {o : Pl} {w : World} (hold : Old old) (hw : allL w = true) (ho : o.ok 0 = true) (hc : o.cls) (hz : o.within.length < 16777216) : ActOk tbl (o.dep + 4) 56 [old, o.d] w (putF old o) := by
  intro p k n hp hn
  obtain ⟨m, rfl, hm⟩ := succ_of (k := o.dep + 3) hn
  rw [den_succ T.t56]
  have hq := hold.room (rm := (Den tbl m).room) (by rw [den_room]; omega) p.l
  have e := c_raised T.toHasR (a := k) (l := 0) (p := o) (n := m) hw hm hc hz
  rw [Pl.raised_ok k o 0 ho] at e
  simp only [Pl.d, Int.cast_ofNat_Int] at e
  by_cases h : (D.tup p.l).eq old = true
  · simp [runB, initE, toSl, b_replaced'clo, Pa.d_l, hq, h, e, putF]
  · simp [runB, initE, toSl, b_replaced'clo, Pa.d_l, hq, h, putF, Pl.ds]
/-- what a put needs: sizes -/
structure PutOk (o p : Pl) : Prop where
  p0 : p.ok 0 = true
  o0 : o.ok 0 = true
  ps : p.size < limN
  os : o.size < limN
  len : p.within.length * (o.within.length + 1) ≤ 5000
  dep : p.dep + o.dep ≤ 60
theorem c_replaced {old : D} {o p : Pl} {n : Nat} {w : World} (hold : Old old) (hw : allL w = true) (h : PutOk o p) (ow : o.within.length ≤ 5000) (hn : 110 ≤ n) : (Den tbl n).call 58 [.dat p.d, .dat old, .dat o.d] w = .ok (.dat (p.put old o).d) w := by
  obtain ⟨m, rfl, hm⟩ := succ_of (k := 109) hn
  rw [den_succ T.t58]
  have oc := (Pl.lim_size o 0 h.o0 h.os).2
  have pc := (Pl.lim_size p 0 h.p0 h.ps).2
  have big := limN_big
  have hl := Pl.put_len old o p 0
  have e := c_mapped T.toHasM hw (act_put T hold hw h.o0 oc (by omega)) (fun p k _ => by
    unfold putF
    split
    · exact cls_cl o oc
    · exact ⟨by omega, trivial⟩) p 0 m (by have := h.dep; omega) pc (by have := h.len; omega)
  simp only [Pl.d, Int.cast_ofNat_Int] at e
  simp [runB, initE, toSl, b_replaced, dClo, capsOf, cloK, hw, e, Pa.d]
theorem c_roomyRep {old : D} {o p : Pl} {n : Nat} {w : World} (hold : Old old) (hw : allL w = true) (h : PutOk o p) (pw : p.within.length ≤ 5000) (ow : o.within.length ≤ 5000) (hn : 120 ≤ n) : (Den tbl n).call 61 [.dat p.d, .dat old, .dat o.d] w = .ok (.dat (p.put old o).d) w := by
  obtain ⟨m, rfl, hm⟩ := succ_of (k := 119) hn
  obtain ⟨m', rfl, hm'⟩ := succ_of (k := 118) hm
  rw [den_succ T.t61]
  have hd := h.dep
  have hl := h.len
  have pl : (p.put old o).within.length ≤ p.within.length * (o.within.length + 1) := Pl.put_len old o p 0
  have pd : (p.put old o).dep ≤ p.dep + o.dep := Pl.put_dep old o p 0
  have e1 := c_within' T.toHasW p (m' + 1) w (by omega) (by omega)
  have e2 := c_items T.toHasI (p := p) (n := m' + 1) (w := w) (by omega) (by omega)
  have e3 := c_items T.toHasI (p := o) (n := m' + 1) (w := w) (by omega) (by omega)
  have e4 := c_replaced T hold hw h ow (n := m' + 1) (by omega)
  obtain ⟨xs, ex, xl⟩ := places_go (rm := (Den tbl (m' + 1)).room) (old := old) (P := p.d) (O := o.d) (S := p.d) (w := w) hold (by rw [den_room]; omega) p.within
  have room : ∀ (i : Int), i ≤ 5000 → ∀ k, 1 ≤ k → (Den tbl k).call 53 [.dat (.int i)] w = .ok (.dat .non) w := fun i hi k hk => by
    obtain ⟨k', rfl, _⟩ := succ_of (k := 0) hk
    rw [den_succ T.t53]
    have : ¬ (5000 : Int) < i := by omega
    simp [runB, initE, toSl, b_check_room, this]
  have e5 : (Den tbl (m' + 1)).call 59 [.dat (p.put old o).d] w = .ok (.dat (p.put old o).d) w := by
    rw [den_succ T.t59]
    have f1 := c_items T.toHasI (p := p.put old o) (n := m') (w := w) (by omega) (by omega)
    have f2 := c_nesting T.toHasI m' (p.put old o) w (by omega) (by omega)
    have f3 := room ((p.put old o).within.length) (by omega) m' (by omega)
    have f4 : ¬ (120 : Int) < ((p.put old o).dep : Int) := by omega
    generalize p.put old o = q at *
    simp only [Pl.d] at f1 f2
    simp [runB, initE, toSl, b_roomy, f1, f2, f3, f4]
  have hmul : mulOk (xs.length : Int) ((o.within.length : Int) - 1) = true := by
    have : xs.length < 18446744073709551616 := by
      have : xs.length ≤ p.within.length := by simpa using xl
      omega
    simp [mulOk, this]
  have hle : (p.within.length : Int) + (xs.length : Int) * ((o.within.length : Int) - 1) ≤ 5000 := by
    have a1 : (xs.length : Int) * ((o.within.length : Int) - 1) ≤ (xs.length : Int) * (o.within.length : Int) := Int.mul_le_mul_of_nonneg_left (by omega) (by omega)
    have a2 : xs.length * o.within.length ≤ p.within.length * o.within.length := Nat.mul_le_mul_right _ (by simpa using xl)
    have a3 : p.within.length * (o.within.length + 1) = p.within.length * o.within.length + p.within.length := by rw [Nat.mul_add, Nat.mul_one]
    have a4 : ((xs.length * o.within.length : Nat) : Int) = (xs.length : Int) * (o.within.length : Int) := by push_cast; rfl
    omega
  have f5 := room _ hle (m' + 1) (by omega)
  generalize p.put old o = q at *
  simp only [Pl.d] at e1 e2 e3 e4 e5 ex
  simp [runB, initE, toSl, b_roomy_replaced, e1, e2, e3, e4, e5, ex, hmul, f5]
theorem c_put {x : Str} {o p : Pl} {n : Nat} {w : World} (hx : wordB x = true) (hw : allL w = true) (h : PutOk o p) (pw : p.within.length ≤ 5000) (ow : o.within.length ≤ 5000) (hn : 150 ≤ n) : (Den tbl n).call 73 [.dat p.d, .dat (.str x), .dat o.d] w = .ok (.dat (p.put (.tup [.str "name", .str x]) o).d) w := by
  obtain ⟨m, rfl, hm⟩ := succ_of (k := 149) hn
  obtain ⟨m', rfl, hm'⟩ := succ_of (k := 148) hm
  rw [den_succ T.t73]
  have hd := h.dep
  have e1 := c_checkPlan T.toHasK (p := p) (n := m' + 1) (w := w) (by omega) h.p0
  have e2 := c_checkPlan T.toHasK (p := o) (n := m' + 1) (w := w) (by omega) h.o0
  have e3 : ∀ w, (Den tbl (m' + 1)).call 37 [.dat (.str x)] w = .ok (.dat .non) w := fun w => by
    rw [den_succ T.t37]
    simp [runB, initE, toSl, b_check_word, c_word T.toHasC (show 1 ≤ m' by omega), hx]
  have e4 := c_roomyRep T (old_name x) hw h pw ow (n := m' + 1) (by omega)
  generalize p.put (.tup [.str "name", .str x]) o = q at *
  simp only [Pl.d] at e1 e2 e4
  simp [runB, initE, toSl, b_put, e1, e2, e3, e4]
theorem c_markPut {j : Nat} {o p : Pl} {n : Nat} {w : World} (hw : allL w = true) (h : PutOk o p) (pw : p.within.length ≤ 5000) (ow : o.within.length ≤ 5000) (hn : 150 ≤ n) : (Den tbl n).call 65 [.dat p.d, .dat (.int j), .dat o.d] w = .ok (.dat (p.put (.tup [.str "mark", .int j]) o).d) w := by
  obtain ⟨m, rfl, hm⟩ := succ_of (k := 149) hn
  obtain ⟨m', rfl, hm'⟩ := succ_of (k := 148) hm
  rw [den_succ T.t65]
  have hd := h.dep
  have e1 := c_checkPlan T.toHasK (p := p) (n := m' + 1) (w := w) (by omega) h.p0
  have e2 := c_checkPlan T.toHasK (p := o) (n := m' + 1) (w := w) (by omega) h.o0
  have e3 : ∀ w, (Den tbl (m' + 1)).call 62 [.dat (.int j)] w = .ok (.dat .non) w := fun w => by
    rw [den_succ T.t62]
    have : ¬ (j : Int) < 0 := by omega
    simp [runB, initE, toSl, b_check_mark, c_integer T.toHasC (show 1 ≤ m' by omega), isI, this]
  have e4 := c_roomyRep T (old_mark j) hw h pw ow (n := m' + 1) (by omega)
  generalize p.put (.tup [.str "mark", .int j]) o = q at *
  simp only [Pl.d] at e1 e2 e4
  simp [runB, initE, toSl, b_mark_put, e1, e2, e3, e4]
end
end Dl
/-! Pl8: plans as lists of items; steps. -/
namespace Dl
open PySem PySem.Spec PyProof.Rows L2 NdefX
abbrev It : Type := Nat × Pa
def Pl.L : Pl → List It
  | .nil => []
  | .cons c p r => (c, p) :: r.L
def ofL : List It → Pl
  | [] => .nil
  | (c, p) :: r => .cons c p (ofL r)
@[simp] theorem ofL_L : ∀ p : Pl, ofL p.L = p
  | .nil => rfl
  | .cons c p r => by simp [Pl.L, ofL, ofL_L r]
@[simp] theorem L_ofL : ∀ l : List It, (ofL l).L = l
  | [] => rfl
  | (c, p) :: r => by simp [Pl.L, ofL, L_ofL r]
def itD (i : It) : D := .tup [.int i.1, i.2.d]
theorem ds_L : ∀ p : Pl, p.ds = p.L.map itD
  | .nil => rfl
  | .cons c p r => by simp [Pl.ds, Pl.L, ds_L r, itD]
theorem ds_ofL (l : List It) : (ofL l).ds = l.map itD := by rw [ds_L, L_ofL]
theorem app_L : ∀ p q : Pl, (p.app q).L = p.L ++ q.L
  | .nil, q => rfl
  | .cons c p r, q => by simp [Pl.app, Pl.L, app_L r q]
/-! sums over items -/
def szL (l : List It) : Nat := (l.map fun i => i.1 * i.2.size).sum
theorem size_L : ∀ p : Pl, p.size = szL p.L
  | .nil => rfl
  | .cons c p r => by simp [Pl.size, Pl.L, szL, size_L r]
theorem size_ofL (l : List It) : (ofL l).size = szL l := by rw [size_L, L_ofL]
@[simp] theorem szL_app (a b : List It) : szL (a ++ b) = szL a + szL b := by simp [szL]
@[simp] theorem szL_cons (i : It) (b : List It) : szL (i :: b) = i.1 * i.2.size + szL b := by simp [szL]
@[simp] theorem szL_nil : szL [] = 0 := rfl
def okI (k : Nat) (i : It) : Bool := decide (1 ≤ i.1) && i.2.ok k
theorem ok_L (k : Nat) : ∀ p : Pl, p.ok k = p.L.all (okI k)
  | .nil => by simp [Pl.ok, Pl.L]
  | .cons c p r => by simp [Pl.ok, Pl.L, okI, ok_L k r]
theorem ok_ofL (k : Nat) (l : List It) : (ofL l).ok k = l.all (okI k) := by rw [ok_L, L_ofL]
def wiL (l : List It) : Nat := (l.map fun i => 1 + i.2.within.length).sum
theorem within_L : ∀ p : Pl, p.within.length = wiL p.L
  | .nil => rfl
  | .cons c p r => by simp [Pl.within, Pl.L, wiL, within_L r]; omega
@[simp] theorem wiL_app (a b : List It) : wiL (a ++ b) = wiL a + wiL b := by simp [wiL]
@[simp] theorem wiL_cons (i : It) (b : List It) : wiL (i :: b) = 1 + i.2.within.length + wiL b := by simp [wiL]
@[simp] theorem wiL_nil : wiL [] = 0 := rfl
def deL : List It → Nat
  | [] => 0
  | i :: r => max i.2.dep (deL r)
theorem dep_L : ∀ p : Pl, p.dep = deL p.L
  | .nil => rfl
  | .cons c p r => by simp [Pl.dep, Pl.L, deL, dep_L r]
theorem deL_app : ∀ a b : List It, deL (a ++ b) = max (deL a) (deL b)
  | [], b => by simp [deL]
  | i :: a, b => by simp only [List.cons_append, deL, deL_app a b]; omega
theorem dep_ofL (l : List It) : (ofL l).dep = deL l := by rw [dep_L, L_ofL]
theorem within_ofL (l : List It) : (ofL l).within.length = wiL l := by rw [within_L, L_ofL]
/-! raising by one for a wait more round about -/
abbrev Pl.up (p : Pl) : Pl := p.raised 1 1 0
mutual
theorem Pa.raised_size (a l : Nat) : ∀ (p : Pa) (k : Nat), (p.raised a l k).size = p.size
  | .name y, k => rfl
  | .mark n, k => rfl
  | .got n, k => by by_cases h : k + l ≤ n <;> simp [Pa.raised, h, Pa.size]
  | .letter d b, k => by simp [Pa.raised, Pa.size, Pl.raised_size a l b k]
  | .wait d b, k => by simp [Pa.raised, Pa.size, Pl.raised_size a l b (k + 1)]
theorem Pl.raised_size (a l : Nat) : ∀ (p : Pl) (k : Nat), (p.raised a l k).size = p.size
  | .nil, k => rfl
  | .cons c p r, k => by simp [Pl.raised, Pl.size, Pa.raised_size a l p k, Pl.raised_size a l r k]
end
mutual
theorem Pa.raised_dep (a l : Nat) : ∀ (p : Pa) (k : Nat), (p.raised a l k).dep = p.dep
  | .name y, k => rfl
  | .mark n, k => rfl
  | .got n, k => by by_cases h : k + l ≤ n <;> simp [Pa.raised, h, Pa.dep]
  | .letter d b, k => by simp [Pa.raised, Pa.dep, Pl.raised_dep a l b k]
  | .wait d b, k => by simp [Pa.raised, Pa.dep, Pl.raised_dep a l b (k + 1)]
theorem Pl.raised_dep (a l : Nat) : ∀ (p : Pl) (k : Nat), (p.raised a l k).dep = p.dep
  | .nil, k => rfl
  | .cons c p r, k => by simp [Pl.raised, Pl.dep, Pa.raised_dep a l p k, Pl.raised_dep a l r k]
end
mutual
theorem Pa.up_ok : ∀ (p : Pa) (k m : Nat), p.ok m = true → (p.raised 1 1 k).ok (m + 1) = true
  | .name y, k, m, h => h
  | .mark n, k, m, h => h
  | .got n, k, m, h => by
    simp [Pa.ok] at h
    by_cases h2 : k + 1 ≤ n <;> simp [Pa.raised, h2, Pa.ok] <;> omega
  | .letter d b, k, m, h => by
    simp only [Pa.ok, Bool.and_eq_true] at h
    simp [Pa.raised, Pa.ok, h.1, Pl.up_ok b k m h.2]
  | .wait d b, k, m, h => by
    simp only [Pa.ok, Bool.and_eq_true] at h
    simp [Pa.raised, Pa.ok, h.1, Pl.up_ok b (k + 1) (m + 1) h.2]
theorem Pl.up_ok : ∀ (p : Pl) (k m : Nat), p.ok m = true → (p.raised 1 1 k).ok (m + 1) = true
  | .nil, k, m, h => by simp [Pl.raised, Pl.ok]
  | .cons c p r, k, m, h => by
    simp only [Pl.ok, Bool.and_eq_true] at h
    simp only [decide_eq_true_eq] at h
    simp [Pl.raised, Pl.ok, h.1.1, Pa.up_ok p k m h.1.2, Pl.up_ok r k m h.2]
end
/-! ### equality of parts -/
theorem int_inj {i j : Int} (h : D.int i = D.int j) : i = j := by injection h
theorem str_inj {i j : Str} (h : D.str i = D.str j) : i = j := by injection h
mutual
theorem Pa.eq_iff : ∀ p q : Pa, p.d.eq q.d = true ↔ p = q
  | .name x, q => by cases q <;> simp [Pa.d, ne_14, ne_18, ne_6, ne_7]
  | .mark x, q => by cases q <;> simp [Pa.d, ne_1, ne_15, ne_8, ne_9] <;> omega
  | .got x, q => by cases q <;> simp [Pa.d, ne_2, ne_3, ne_10, ne_11] <;> omega
  | .letter x b, q => by
    cases q with
    | letter y c => have := Pl.eq_iff b c; simp [Pa.d, this]
    | wait y c => simp [Pa.d, ne_4]
    | name y => simp [Pa.d]
    | mark y => simp [Pa.d]
    | got y => simp [Pa.d]
  | .wait x b, q => by
    cases q with
    | wait y c => have := Pl.eq_iff b c; simp [Pa.d, this]
    | letter y c => simp [Pa.d, ne_5]
    | name y => simp [Pa.d]
    | mark y => simp [Pa.d]
    | got y => simp [Pa.d]
theorem Pl.eq_iff : ∀ p q : Pl, (D.tup p.ds).eq (.tup q.ds) = true ↔ p = q
  | .nil, q => by cases q <;> simp [Pl.ds]
  | .cons c p r, q => by
    cases q with
    | nil => simp [Pl.ds]
    | cons c' p' r' =>
      have h1 := Pa.eq_iff p p'
      have h2 := Pl.eq_iff r r'
      simp only [Pl.ds, eqt_cc, eqt_nn, eq_ii, Bool.and_true, Bool.and_eq_true, decide_eq_true_eq, h1, h2, Pl.cons.injEq]
      constructor
      · rintro ⟨⟨h, h'⟩, h''⟩; exact ⟨by omega, h', h''⟩
      · rintro ⟨h, h', h''⟩; exact ⟨⟨by omega, h'⟩, h''⟩
end
/-! ### steps -/
inductive Mv where
  | swap (i : Nat) | join (i : Nat) | split (i k : Nat) | fold (i : Nat) | unfold (i k : Nat)
def beqP (p q : Pa) : Bool := p.d.eq q.d
theorem beqP_iff {p q : Pa} : beqP p q = true ↔ p = q := Pa.eq_iff p q
/-- what stands in place of the items -/
def mid : It → Option It → Mv → Option (List It)
  | a, some b, .swap _ => some [b, a]
  | a, some b, .join _ => if beqP b.2 a.2 = true then some [(a.1 + b.1, a.2)] else none
  | a, _, .split _ k => if 1 ≤ k ∧ k < a.1 then some [(k, a.2), (a.1 - k, a.2)] else none
  | (c, .wait x b), _, .unfold _ k => if 2 ≤ k ∧ c % k = 0 then some [(c / k, .wait x (b.app (.cons (k - 1) (.wait x b.up) .nil)))] else none
  | (c, .wait x b), _, .fold _ => (match b.L.reverse with
    | (m, q) :: r => if beqP q (.wait x (ofL r.reverse).up) = true then some [(c * (m + 1), .wait x (ofL r.reverse))] else none
    | [] => none)
  | _, _, _ => none
def Mv.at_ : Mv → Nat
  | .swap i => i
  | .join i => i
  | .split i _ => i
  | .fold i => i
  | .unfold i _ => i
def Mv.wide : Mv → Nat
  | .swap _ => 2
  | .join _ => 2
  | _ => 1
def here (l : List It) (s : Mv) : Option (List It) := match l[s.at_]? with
  | some a => (mid a l[s.at_ + 1]? s).map fun m => l.take s.at_ ++ m ++ l.drop (s.at_ + s.wide)
  | none => none
def within1 : Pa → Option (Pl × (Pl → Pa))
  | .letter x b => some (b, .letter x)
  | .wait x b => some (b, .wait x)
  | _ => none
def stepAt : Pl → List Nat → Mv → Option Pl
  | p, [], s => (here p.L s).map ofL
  | p, i :: pl, s => match p.L[i]? with
    | some (c, q) => (match within1 q with
      | some (b, f) => (stepAt b pl s).map fun b' => ofL (p.L.take i ++ (c, f b') :: p.L.drop (i + 1))
      | none => none)
    | none => none
def undoS (l : List It) : Mv → Mv
  | .swap i => .swap i
  | .join i => .split i ((l[i]?.map (·.1)).getD 0)
  | .split i _ => .join i
  | .unfold i _ => .fold i
  | .fold i => .unfold i (1 + (match l[i]? with
    | some (_, .wait _ b) => (b.L.getLast?.map (·.1)).getD 0
    | _ => 0))
def undoAt : Pl → List Nat → Mv → Mv
  | p, [], s => undoS p.L s
  | p, i :: pl, s => match p.L[i]? with
    | some (_, q) => (match within1 q with
      | some (b, _) => undoAt b pl s
      | none => s)
    | none => s
/-- cut around a place -/
theorem cut_at {α : Type} {l : List α} {i : Nat} {a : α} (h : l[i]? = some a) : l = l.take i ++ a :: l.drop (i + 1) ∧ (l.take i).length = i := by
  obtain ⟨hi, e⟩ := List.getElem?_eq_some_iff.mp h
  refine ⟨?_, by simp; omega⟩
  rw [← e, List.getElem_cons_drop, List.take_append_drop]
theorem cut_at2 {α : Type} {l : List α} {i : Nat} {a b : α} (h : l[i]? = some a) (h2 : l[i + 1]? = some b) : l = l.take i ++ a :: b :: l.drop (i + 2) ∧ (l.take i).length = i := by
  obtain ⟨e, hl⟩ := cut_at h
  obtain ⟨hi, e2⟩ := List.getElem?_eq_some_iff.mp h2
  refine ⟨?_, hl⟩
  have : l.drop (i + 1) = b :: l.drop (i + 2) := by rw [← e2, List.getElem_cons_drop]
  rw [this] at e
  exact e
end Dl
/-! Pl9: what steps keep. -/
namespace Dl
open PySem PySem.Spec PyProof.Rows L2 NdefX
theorem here_at {A B : List It} {x : It} {s : Mv} (h : A.length = s.at_) : here (A ++ x :: B) s = (mid x B.head? s).map fun m => A ++ m ++ (x :: B).drop s.wide := by
  have e1 : (A ++ x :: B)[s.at_]? = some x := by rw [← h]; simp
  have e2 : (A ++ x :: B)[s.at_ + 1]? = B.head? := by rw [← h]; cases B <;> simp
  have e3 : (A ++ x :: B).take s.at_ = A := by rw [← h]; simp
  have e4 : (A ++ x :: B).drop (s.at_ + s.wide) = (x :: B).drop s.wide := by rw [← h]; simp [List.drop_append]
  unfold here
  rw [e1]
  simp only [e2, e3, e4]
theorem rev_cons {α : Type} {l r : List α} {a : α} (h : l.reverse = a :: r) : l = r.reverse ++ [a] := by
  have := congrArg List.reverse h
  simpa using this
def obS : Option It → Nat
  | some b => b.1 * b.2.size
  | none => 0
def obW : Option It → Nat
  | some b => 1 + b.2.within.length
  | none => 0
def obG : Option It → Nat
  | some b => b.2.dep
  | none => 0
theorem mid_spec {a : It} {ob : Option It} {s : Mv} {m : List It} (h : mid a ob s = some m) {k : Nat} (ha : okI k a = true) (hb : ∀ b, ob = some b → okI k b = true) :
    m.all (okI k) = true ∧ szL m = a.1 * a.2.size + (if s.wide = 2 then obS ob else 0) ∧ wiL m ≤ 2 * (1 + a.2.within.length + (if s.wide = 2 then obW ob else 0)) ∧
      deL m ≤ 1 + max a.2.dep (if s.wide = 2 then obG ob else 0) := by
  cases s with
  | swap i =>
    cases ob with
    | none => simp [mid] at h
    | some b =>
      simp [mid] at h
      subst h
      have hb := hb b rfl
      refine ⟨by simp [ha, hb], ?_, ?_, ?_⟩
      · simp [Mv.wide, obS]; omega
      · simp [Mv.wide, obW]; omega
      · simp [Mv.wide, deL, obG]; omega
  | join i =>
    cases ob with
    | none => simp [mid] at h
    | some b =>
      simp only [mid] at h
      split at h
      · rename_i e
        cases h
        have e := beqP_iff.mp e
        have hb := hb b rfl
        simp only [okI, Bool.and_eq_true, decide_eq_true_eq] at ha hb
        refine ⟨by simp [okI, ha.2]; omega, ?_, ?_, ?_⟩
        · simp [Mv.wide, obS, e, Nat.add_mul]
        · simp [Mv.wide, obW]; omega
        · simp [Mv.wide, deL, obG]; omega
      · cases h
  | split i k2 =>
    simp only [mid] at h
    split at h
    · rename_i e
      cases h
      simp only [okI, Bool.and_eq_true, decide_eq_true_eq] at ha
      refine ⟨by simp [okI, ha.2]; omega, ?_, ?_, ?_⟩
      · simp [Mv.wide]
        rw [← Nat.add_mul]
        congr 1
        omega
      · simp [Mv.wide]; omega
      · simp [Mv.wide, deL]
    · cases h
  | unfold i k2 =>
    obtain ⟨c, p⟩ := a
    cases p with
    | wait x b =>
      simp only [mid] at h
      split at h
      · rename_i e
        cases h
        simp only [okI, Bool.and_eq_true, decide_eq_true_eq, Pa.ok] at ha
        have hdm : c / k2 * k2 = c := Nat.div_mul_cancel (Nat.dvd_of_mod_eq_zero e.2)
        have hc1 : 1 ≤ c / k2 := by
          rcases Nat.eq_zero_or_pos (c / k2) with z | z
          · rw [z] at hdm; omega
          · exact z
        refine ⟨?_, ?_, ?_, ?_⟩
        · simp [okI, Pa.ok, app_ok, Pl.ok, ha.2.1, ha.2.2, Pl.up_ok b 0 (k + 1) ha.2.2, hc1]
          omega
        · rw [if_neg (show ¬ (Mv.unfold i k2).wide = 2 by simp [Mv.wide])]
          simp only [Pa.size, app_size, Pl.size, Pl.raised_size, szL_cons, szL_nil, Nat.add_zero]
          have : b.size + (k2 - 1) * (b.size + 1) + 1 = k2 * (b.size + 1) := by
            have e1 : k2 = k2 - 1 + 1 := by omega
            calc b.size + (k2 - 1) * (b.size + 1) + 1 = (k2 - 1) * (b.size + 1) + 1 * (b.size + 1) := by omega
              _ = (k2 - 1 + 1) * (b.size + 1) := by rw [← Nat.add_mul]
              _ = k2 * (b.size + 1) := by rw [← e1]
          rw [this, ← Nat.mul_assoc, hdm]
        · simp [Mv.wide, Pa.within, app_within, Pl.within, Pl.raised_len]
          omega
        · simp [Mv.wide, deL, Pa.dep, app_dep, Pl.dep, Pl.raised_dep]
          omega
      · cases h
    | name y => simp [mid] at h
    | mark y => simp [mid] at h
    | got y => simp [mid] at h
    | letter y b => simp [mid] at h
  | fold i =>
    obtain ⟨c, p⟩ := a
    cases p with
    | wait x b =>
      simp only [mid] at h
      split at h
      · rename_i mm q r e
        split at h
        · rename_i e2
          cases h
          have e2 := beqP_iff.mp e2
          have eb := rev_cons e
          simp only [okI, Bool.and_eq_true, decide_eq_true_eq, Pa.ok, ok_L] at ha
          rw [eb, List.all_append, Bool.and_eq_true] at ha
          have hsz : b.size = szL r.reverse + mm * (1 + szL r.reverse) := by
            rw [size_L, eb, e2]
            simp [Pa.size, Pl.raised_size, size_ofL]
            rw [Nat.add_comm 1 (szL r.reverse)]
          refine ⟨?_, ?_, ?_, ?_⟩
          · simp only [List.all_cons, List.all_nil, Bool.and_true, okI, Pa.ok, ok_ofL, Bool.and_eq_true, decide_eq_true_eq]
            have : 1 * 1 ≤ c * (mm + 1) := Nat.mul_le_mul ha.1 (by omega)
            exact ⟨by omega, ha.2.1, ha.2.2.1⟩
          · rw [if_neg (show ¬ (Mv.fold i).wide = 2 by simp [Mv.wide])]
            simp only [Pa.size, size_ofL, hsz, szL_cons, szL_nil, Nat.add_zero]
            rw [Nat.mul_assoc]
            congr 1
            rw [Nat.add_mul, Nat.one_mul, Nat.add_comm 1 (szL r.reverse)]
            omega
          · have hw : b.within.length = wiL b.L := within_L b
            rw [eb] at hw
            simp at hw
            simp [Mv.wide, Pa.within, within_ofL]
            omega
          · have hd : b.dep = deL b.L := dep_L b
            rw [eb, deL_app] at hd
            simp [Mv.wide, deL, Pa.dep, dep_ofL]
            omega
        · cases h
      · cases h
    | name y => simp [mid] at h
    | mark y => simp [mid] at h
    | got y => simp [mid] at h
    | letter y b => simp [mid] at h
theorem deL_split {L A B : List It} {x : It} (h : L = A ++ x :: B) : deL L = max (deL A) (max x.2.dep (deL B)) := by
  rw [h, deL_app]
  rfl
theorem here_spec {L L' : List It} {s : Mv} {k : Nat} (h : here L s = some L') (hk : L.all (okI k) = true) : L'.all (okI k) = true ∧ szL L' = szL L ∧ wiL L' ≤ 2 * wiL L ∧ deL L' ≤ 1 + deL L := by
  cases ea : L[s.at_]? with
  | none => unfold here at h; rw [ea] at h; cases h
  | some a =>
    obtain ⟨e, hl⟩ := cut_at ea
    generalize L.take s.at_ = A at e hl
    generalize L.drop (s.at_ + 1) = B at e
    subst e
    rw [here_at hl] at h
    cases em : mid a B.head? s with
    | none => rw [em] at h; cases h
    | some m =>
      rw [em] at h
      simp only [Option.map_some, Option.some.injEq] at h
      subst h
      simp only [List.all_append, List.all_cons, Bool.and_eq_true] at hk
      obtain ⟨k1, k2, k3⟩ := hk
      obtain ⟨h1, h2, h3, h4⟩ := mid_spec em k2 (fun b hb => by
        cases B with
        | nil => cases hb
        | cons y B => cases hb; simp only [List.all_cons, Bool.and_eq_true] at k3; exact k3.1)
      by_cases hw : s.wide = 2
      · cases B with
        | nil =>
          exfalso
          cases s <;> first | (simp [mid] at em; done) | (simp [Mv.wide] at hw; done)
        | cons y B =>
          rw [hw] at h2 h3 h4 ⊢
          simp only [List.head?_cons, if_true, obS, obW, obG] at h2 h3 h4
          simp only [List.all_cons, Bool.and_eq_true] at k3
          simp only [List.drop_succ_cons, List.drop_zero]
          refine ⟨by simp [k1, h1, k3.2], by simp [h2]; omega, by simp; omega, ?_⟩
          simp only [deL_app, deL]
          omega
      · have hw : s.wide = 1 := by cases s <;> simp [Mv.wide] at hw ⊢
        rw [hw] at h2 h3 h4 ⊢
        rw [if_neg (by decide)] at h2 h3 h4
        simp only [List.drop_succ_cons, List.drop_zero]
        refine ⟨by simp [k1, h1, k3], by simp [h2], by simp; omega, ?_⟩
        simp only [deL_app, deL]
        omega
theorem here_undo {L L' : List It} {s : Mv} {k : Nat} (h : here L s = some L') (hk : L.all (okI k) = true) : here L' (undoS L s) = some L := by
  cases ea : L[s.at_]? with
  | none => unfold here at h; rw [ea] at h; cases h
  | some a =>
    have ea0 := ea
    obtain ⟨e, hl⟩ := cut_at ea
    generalize L.take s.at_ = A at e hl
    generalize L.drop (s.at_ + 1) = B at e
    subst e
    rw [here_at hl] at h
    simp only [List.all_append, List.all_cons, Bool.and_eq_true] at hk
    obtain ⟨k1, k2, k3⟩ := hk
    cases s with
    | swap i =>
      cases B with
      | nil => simp [mid] at h
      | cons y B =>
        simp [mid, Mv.wide] at h
        subst h
        show here (A ++ y :: a :: B) (.swap i) = _
        rw [here_at (s := .swap i) hl]
        simp [mid, Mv.wide]
    | join i =>
      cases B with
      | nil => simp [mid] at h
      | cons y B =>
        simp only [List.all_cons, Bool.and_eq_true] at k3
        have hy := k3.1
        simp only [mid, List.head?_cons, Mv.wide] at h
        split at h
        · rename_i e
          have e := beqP_iff.mp e
          simp at h
          subst h
          have hu : undoS (A ++ a :: y :: B) (.join i) = .split i a.1 := by
            simp only [undoS]
            rw [show (A ++ a :: y :: B)[i]? = some a from ea0]
            rfl
          rw [hu]
          show here (A ++ (a.1 + y.1, a.2) :: B) (.split i a.1) = _
          rw [here_at (s := .split i a.1) hl]
          simp only [okI, Bool.and_eq_true, decide_eq_true_eq] at k2 hy
          have c : 1 ≤ a.1 ∧ a.1 < a.1 + y.1 := by omega
          simp [mid, c, Mv.wide]
          obtain ⟨y1, y2⟩ := y
          simp at e
          rw [e]
        · simp at h
    | split i k2' =>
      simp only [mid, Mv.wide] at h
      split at h
      · rename_i c
        simp at h
        subst h
        show here (A ++ (k2', a.2) :: (a.1 - k2', a.2) :: B) (.join i) = _
        rw [here_at (s := .join i) hl]
        have e : beqP a.2 a.2 = true := beqP_iff.mpr rfl
        have e2 : k2' + (a.1 - k2') = a.1 := by omega
        simp [mid, e, e2, Mv.wide]
      · simp at h
    | fold i =>
      obtain ⟨c, p⟩ := a
      cases p with
      | wait x b =>
        simp only [mid, Mv.wide] at h
        split at h
        · rename_i mm q r er
          split at h
          · rename_i e2
            have e2 := beqP_iff.mp e2
            simp at h
            subst h
            have eb := rev_cons er
            have hu : undoS (A ++ (c, Pa.wait x b) :: B) (.fold i) = .unfold i (1 + mm) := by
              simp only [undoS]
              rw [show (A ++ (c, Pa.wait x b) :: B)[i]? = some (c, .wait x b) from ea0]
              simp [eb]
            rw [hu]
            show here (A ++ (c * (mm + 1), .wait x (ofL r.reverse)) :: B) (.unfold i (1 + mm)) = _
            rw [here_at (s := .unfold i (1 + mm)) hl]
            simp only [okI, Bool.and_eq_true, decide_eq_true_eq, Pa.ok, ok_L] at k2
            rw [eb, List.all_append, Bool.and_eq_true] at k2
            have hmm : 1 ≤ mm := by
              have := k2.2.2.2
              simp [okI] at this
              exact this.1
            have c1 : 2 ≤ 1 + mm ∧ c * (mm + 1) % (1 + mm) = 0 := ⟨by omega, by rw [Nat.add_comm 1 mm]; exact Nat.mul_mod_left _ _⟩
            have c2 : c * (mm + 1) / (1 + mm) = c := by rw [Nat.add_comm 1 mm]; exact Nat.mul_div_cancel _ (by omega)
            have c3 : (ofL r.reverse).app (.cons (1 + mm - 1) (.wait x (ofL r.reverse).up) .nil) = b := by
              have := congrArg ofL eb
              rw [ofL_L] at this
              rw [this, e2]
              have z : ∀ (l : List It) (i : It), ofL (l ++ [i]) = (ofL l).app (.cons i.1 i.2 .nil) := fun l i => by
                induction l with
                | nil => rfl
                | cons y l ih => obtain ⟨u, v⟩ := y; simp [ofL, Pl.app, ih]
              rw [z]
              simp
            simp only [Nat.add_sub_cancel_left] at c3
            simp [mid, c1, c2, c3, Mv.wide]
          · simp at h
        · simp at h
      | name y => simp [mid] at h
      | mark y => simp [mid] at h
      | got y => simp [mid] at h
      | letter y b => simp [mid] at h
    | unfold i k2' =>
      obtain ⟨c, p⟩ := a
      cases p with
      | wait x b =>
        simp only [mid, Mv.wide] at h
        split at h
        · rename_i cc
          simp at h
          subst h
          show here (A ++ (c / k2', .wait x (b.app (.cons (k2' - 1) (.wait x b.up) .nil))) :: B) (.fold i) = _
          rw [here_at (s := .fold i) hl]
          have e1 : (b.app (.cons (k2' - 1) (.wait x b.up) .nil)).L.reverse = (k2' - 1, Pa.wait x b.up) :: b.L.reverse := by simp [app_L, Pl.L]
          have e2 : beqP (Pa.wait x b.up) (.wait x (ofL b.L.reverse.reverse).up) = true := beqP_iff.mpr (by simp)
          have e3 : c / k2' * (k2' - 1 + 1) = c := by
            rw [show k2' - 1 + 1 = k2' by omega]
            exact Nat.div_mul_cancel (Nat.dvd_of_mod_eq_zero cc.2)
          simp only [mid, e1, e2, if_true, e3, Mv.wide]
          simp
        · simp at h
      | name y => simp [mid] at h
      | mark y => simp [mid] at h
      | got y => simp [mid] at h
      | letter y b => simp [mid] at h
end Dl
/-! Pl10: steps at places; the program's steps. -/
namespace Dl
open PySem PySem.Spec PyProof.Rows L2 NdefX
theorem within1_spec {q : Pa} {b : Pl} {f : Pl → Pa} (h : within1 q = some (b, f)) (k : Nat) : q = f b ∧ (∀ b', within1 (f b') = some (b', f)) ∧ (∀ b', (f b').size = b'.size + 1) ∧ (∀ b', (f b').within = b'.within) ∧ (∀ b', (f b').dep = b'.dep + 1) ∧
    ∃ k', (q.ok k = true → b.ok k' = true ∧ ∀ b', b'.ok k' = true → (f b').ok k = true) := by
  cases q with
  | letter x c =>
    cases h
    exact ⟨rfl, fun _ => rfl, fun _ => rfl, fun _ => rfl, fun _ => rfl, k, fun h => by
      simp only [Pa.ok, Bool.and_eq_true] at h
      exact ⟨h.2, fun b' hb => by simp [Pa.ok, h.1, hb]⟩⟩
  | wait x c =>
    cases h
    exact ⟨rfl, fun _ => rfl, fun _ => rfl, fun _ => rfl, fun _ => rfl, k + 1, fun h => by
      simp only [Pa.ok, Bool.and_eq_true] at h
      exact ⟨h.2, fun b' hb => by simp [Pa.ok, h.1, hb]⟩⟩
  | name x => cases h
  | mark x => cases h
  | got x => cases h
theorem stepAt_spec (s : Mv) : ∀ (pl : List Nat) (p p' : Pl) (k : Nat), p.ok k = true → stepAt p pl s = some p' →
    p'.ok k = true ∧ p'.size = p.size ∧ p'.within.length ≤ 2 * p.within.length ∧ p'.dep ≤ 1 + p.dep ∧ stepAt p' pl (undoAt p pl s) = some p
  | [], p, p', k, hk, h => by
    unfold stepAt at h
    cases e : here p.L s with
    | none => rw [e] at h; cases h
    | some L' =>
      rw [e] at h
      simp only [Option.map_some, Option.some.injEq] at h
      subst h
      rw [ok_L] at hk
      obtain ⟨h1, h2, h3, h4⟩ := here_spec e hk
      refine ⟨by rw [ok_ofL]; exact h1, by rw [size_ofL, h2, size_L], by rw [within_ofL, within_L]; exact h3, by rw [dep_ofL, dep_L]; exact h4, ?_⟩
      unfold stepAt undoAt
      rw [L_ofL, here_undo e hk]
      simp
  | i :: pl, p, p', k, hk, h => by
    unfold stepAt at h
    cases e : p.L[i]? with
    | none => rw [e] at h; cases h
    | some cq =>
      obtain ⟨c, q⟩ := cq
      rw [e] at h
      simp only at h
      cases ew : within1 q with
      | none => rw [ew] at h; cases h
      | some bf =>
        obtain ⟨b, f⟩ := bf
        rw [ew] at h
        simp only at h
        cases es : stepAt b pl s with
        | none => rw [es] at h; cases h
        | some b' =>
          rw [es] at h
          simp only [Option.map_some, Option.some.injEq] at h
          subst h
          obtain ⟨w1, w2, w3, w4, w5, k', w6⟩ := within1_spec ew k
          obtain ⟨ec, hl⟩ := cut_at e
          generalize hA : p.L.take i = A at *
          generalize hB : p.L.drop (i + 1) = B at *
          have okp := hk
          rw [ok_L, ec] at okp
          simp only [List.all_append, List.all_cons, Bool.and_eq_true] at okp
          obtain ⟨o1, o2, o3⟩ := okp
          simp only [okI, Bool.and_eq_true, decide_eq_true_eq] at o2
          obtain ⟨b1, b2⟩ := w6 o2.2
          obtain ⟨r1, r2, r3, r4, r5⟩ := stepAt_spec s pl b b' k' b1 es
          have hs : p.size = szL A + (c * (b.size + 1) + szL B) := by rw [size_L, ec]; simp [w1, w3]
          have hw : p.within.length = wiL A + (1 + b.within.length + wiL B) := by rw [within_L, ec]; simp [w1, w4]
          have hd : p.dep = max (deL A) (max (b.dep + 1) (deL B)) := by rw [dep_L, ec, deL_app]; simp [deL, w1, w5]
          refine ⟨?_, ?_, ?_, ?_, ?_⟩
          · rw [ok_ofL]
            simp [o1, o3, okI, o2.1, b2 b' r1]
          · rw [size_ofL, hs]
            simp [w3, r2]
          · rw [within_ofL, hw]
            simp [w4]
            omega
          · rw [dep_ofL, hd, deL_app]
            simp [deL, w5]
            omega
          · have eu : undoAt p (i :: pl) s = undoAt b pl s := by
              show (match p.L[i]? with
                | some (_, q) => (match within1 q with
                  | some (b, _) => undoAt b pl s
                  | none => s)
                | none => s) = _
              rw [e]
              show (match within1 q with
                  | some (b, _) => undoAt b pl s
                  | none => s) = _
              rw [ew]
            rw [eu]
            unfold stepAt
            rw [L_ofL]
            have e2 : (A ++ (c, f b') :: B)[i]? = some (c, f b') := by rw [← hl]; simp
            rw [e2]
            simp only
            rw [w2 b']
            simp only
            rw [r5]
            simp only [Option.map_some, Option.some.injEq]
            have e3 : (A ++ (c, f b') :: B).take i = A := by rw [← hl]; simp
            have e4 : (A ++ (c, f b') :: B).drop (i + 1) = B := by rw [← hl]; simp [List.drop_append]
            rw [e3, e4, ← w1, ← ec, ofL_L]
/-! ### as data -/
def Mv.nm : Mv → Str
  | .swap _ => "swap"
  | .join _ => "join"
  | .split _ _ => "split"
  | .fold _ => "fold"
  | .unfold _ _ => "unfold"
def Mv.args : Mv → List D
  | .swap i => [.int i]
  | .join i => [.int i]
  | .split i k => [.int i, .int k]
  | .fold i => [.int i]
  | .unfold i k => [.int i, .int k]
def natsD (l : List Nat) : List D := l.map fun (n : Nat) => D.int (n : Int)
def Mv.d (s : Mv) (pl : List Nat) : D := .tup (.str s.nm :: .tup (natsD pl) :: s.args)
def optL : Option (List It) → D
  | some l => .tup (l.map itD)
  | none => .non
section
variable {A B : List D} {x y : D} {i : Nat}
theorem at_mid (h : A.length = i) : atI (A ++ x :: B) (i : Int) = some x := by
  rw [atI_get (by simp; omega)]
  subst h
  simp
theorem at_mid1 (h : A.length = i) : atI (A ++ x :: y :: B) ((i : Int) + 1) = some y := by
  have := atI_get (l := A ++ x :: y :: B) (k := i + 1) (by simp; omega)
  rw [show (((i + 1 : Nat)) : Int) = (i : Int) + 1 by omega] at this
  rw [this]
  subst h
  simp
theorem cut_mid (h : A.length = i) : cutD (A ++ B) none (some (i : Int)) = A := by
  rw [cutD_to]
  subst h
  simp
theorem cut_mid1 (h : A.length = i) : cutD (A ++ x :: B) (some ((i : Int) + 1)) none = B := by
  have := cutD_from (l := A ++ x :: B) (k := i + 1)
  rw [show (((i + 1 : Nat)) : Int) = (i : Int) + 1 by omega] at this
  rw [this]
  subst h
  simp [List.drop_append]
theorem cut_mid2 (h : A.length = i) : cutD (A ++ x :: y :: B) (some ((i : Int) + 2)) none = B := by
  have := cutD_from (l := A ++ x :: y :: B) (k := i + 2)
  rw [show (((i + 2 : Nat)) : Int) = (i : Int) + 2 by omega] at this
  rw [this]
  subst h
  simp [List.drop_append]
theorem at_m1 : atI (A ++ [x]) (-1) = some x := by
  unfold atI ixN
  rw [if_neg (by decide), if_pos (by simp; omega)]
  have e : (-1 + ((A ++ [x]).length : Int)).toNat = A.length := by simp; omega
  simp only [e]
  simp
theorem cut_m1 : cutD (A ++ [x]) none (some (-1)) = A := by
  unfold cutD
  rw [HT.sIx_none]
  have e : HT.sIx (A ++ [x]).length (A ++ [x]).length (some (-1)) = A.length := by
    show (if (-1 : Int) < 0 then ((-1 : Int) + ((A ++ [x]).length : Int)).toNat else min (-1 : Int).toNat (A ++ [x]).length) = A.length
    rw [if_pos (by decide)]
    simp
    omega
  rw [e]
  simp
end
end Dl
/-! Pl11: the program's steps, computed. -/
namespace Dl
open PySem PySem.Spec PyProof.Rows L2 NdefX
theorem s_ne1 : ¬ Str.ofString "swap" = Str.ofString "join" := by decide +kernel
theorem s_ne2 : ¬ Str.ofString "swap" = Str.ofString "split" := by decide +kernel
theorem s_ne3 : ¬ Str.ofString "swap" = Str.ofString "fold" := by decide +kernel
theorem s_ne4 : ¬ Str.ofString "swap" = Str.ofString "unfold" := by decide +kernel
theorem s_ne5 : ¬ Str.ofString "join" = Str.ofString "swap" := by decide +kernel
theorem s_ne6 : ¬ Str.ofString "join" = Str.ofString "split" := by decide +kernel
theorem s_ne7 : ¬ Str.ofString "join" = Str.ofString "fold" := by decide +kernel
theorem s_ne8 : ¬ Str.ofString "join" = Str.ofString "unfold" := by decide +kernel
theorem s_ne9 : ¬ Str.ofString "split" = Str.ofString "swap" := by decide +kernel
theorem s_ne10 : ¬ Str.ofString "split" = Str.ofString "join" := by decide +kernel
theorem s_ne11 : ¬ Str.ofString "split" = Str.ofString "fold" := by decide +kernel
theorem s_ne12 : ¬ Str.ofString "split" = Str.ofString "unfold" := by decide +kernel
theorem s_ne13 : ¬ Str.ofString "fold" = Str.ofString "swap" := by decide +kernel
theorem s_ne14 : ¬ Str.ofString "fold" = Str.ofString "join" := by decide +kernel
theorem s_ne15 : ¬ Str.ofString "fold" = Str.ofString "split" := by decide +kernel
theorem s_ne16 : ¬ Str.ofString "fold" = Str.ofString "unfold" := by decide +kernel
theorem s_ne17 : ¬ Str.ofString "unfold" = Str.ofString "swap" := by decide +kernel
theorem s_ne18 : ¬ Str.ofString "unfold" = Str.ofString "join" := by decide +kernel
theorem s_ne19 : ¬ Str.ofString "unfold" = Str.ofString "split" := by decide +kernel
theorem s_ne20 : ¬ Str.ofString "unfold" = Str.ofString "fold" := by decide +kernel
theorem in2 {rm : Nat} (h : 1 ≤ rm) {z a b : Str} : inD false rm (.str z) (.tup [.str a, .str b]) = some (.dat (.bl (decide (a = z) || decide (b = z)))) := by
  have e : 1 + min (depAll [.str a, .str b]) (D.str z).dep ≤ rm := by
    rw [dep_s]
    omega
  show (if 1 + min (depAll [.str a, .str b]) (D.str z).dep ≤ rm then some (RV.dat (.bl (false ^^ [D.str a, D.str b].any fun y => y.eq (.str z)))) else none) = _
  rw [if_pos e]
  simp
theorem at_3 {α : Type} {a b c d : α} {l : List α} : atI (a :: b :: c :: d :: l) 3 = some d := by
  have := atI_get (l := a :: b :: c :: d :: l) (k := 3) (by simp)
  simpa using this
/-- a bound of sizes -/
@[irreducible] def capN : Nat := 2 ^ 4000
theorem log_of {k : Nat} (h : k ≤ capN) : k.log2 < 8990 := by
  unfold capN at h
  by_cases h0 : k = 0
  · subst h0; decide
  · exact (Nat.log2_lt h0).mpr (Nat.lt_of_le_of_lt h (Nat.pow_lt_pow_right (by decide) (by decide)))
theorem lim_4000 : capN + 1 < limN := by
  unfold limN capN
  exact Nat.lt_of_lt_of_le (show 2 ^ 4000 + 1 < 2 ^ 4001 by decide) (Nat.pow_le_pow_right (by decide) (by decide))
structure HasT (tbl : Nat → Option DefB) : Prop extends HasR tbl, HasZ0 tbl where
  t78 : tbl 78 = some ⟨2, 2, b_joined_pair⟩
  t79 : tbl 79 = some ⟨2, 4, b_split_item⟩
  t80 : tbl 80 = some ⟨1, 6, b_folded_item⟩
  t81 : tbl 81 = some ⟨2, 5, b_unfolded_item⟩
  t82 : tbl 82 = some ⟨3, 7, b_done_at⟩
  t83 : tbl 83 = some ⟨2, 6, b_done_here⟩
  t84 : tbl 84 = some ⟨1, 2, b_has_step_form⟩
  t85 : tbl 85 = some ⟨2, 3, b_step_done⟩
  t96 : tbl 96 = some ⟨2, 3, b_stepped⟩
section
variable {tbl : Nat → Option DefB} (T : HasT tbl) {w : World} (hw : allL w = true) {n : Nat}
include T
theorem c_joined {a b : It} (hd : a.2.dep ≤ 60) (he : b.2 = a.2) (hn : 1 ≤ n) : (Den tbl n).call 78 [.dat (itD a), .dat (itD b)] w = .ok (.dat (.tup [itD (a.1 + b.1, a.2)])) w := by
  obtain ⟨m, rfl, hm⟩ := succ_of (k := 0) hn
  rw [den_succ T.t78]
  have g := gNe_self (rm := (Den tbl m).room) (d := a.2.d) (by have := Pa.dep_le a.2; rw [den_room]; omega)
  simp [runB, initE, toSl, b_joined_pair, itD, at_0, at_1, he, g]
theorem c_split {a : It} {k : Nat} (h1 : 1 ≤ k) (h2 : k < a.1) (hn : 3 ≤ n) : (Den tbl n).call 79 [.dat (itD a), .dat (.int k)] w = .ok (.dat (.tup [itD (k, a.2), itD (a.1 - k, a.2)])) w := by
  obtain ⟨m, rfl, hm⟩ := succ_of (k := 2) hn
  rw [den_succ T.t79]
  have e1 : (1 : Int) ≤ k := by omega
  have e2 : (k : Int) ≤ a.1 - 1 := by omega
  have e3 : ((a.1 - k : Nat) : Int) = (a.1 : Int) - k := by omega
  simp [runB, initE, toSl, b_split_item, itD, c_within T.toHasC hm, e1, e2, e3]
include hw
theorem c_folded {c m' : Nat} {x : Str} {r : List It} (ok : ∃ k, (ofL r).ok k = true) (sz : (ofL r).size ≤ capN) (hd : deL r ≤ 60) (hwi : wiL r ≤ 5000) (hc : c ≤ capN) (hm' : m' ≤ capN) (hn : 70 ≤ n) :
    (Den tbl n).call 80 [.dat (itD (c, .wait x (ofL (r ++ [(m', .wait x (ofL r).up)]))))] w = .ok (.dat (.tup [itD (c * (m' + 1), .wait x (ofL r))])) w := by
  obtain ⟨m, rfl, hm⟩ := succ_of (k := 69) hn
  rw [den_succ T.t80]
  obtain ⟨k, ok⟩ := ok
  have l4 := lim_4000
  have cl := (Pl.lim_size _ k ok (by omega)).2
  have f1 := c_raised T.toHasR (a := 1) (l := 1) (p := ofL r) (n := m) hw (by rw [dep_ofL]; omega) cl (by rw [within_ofL]; omega)
  have g := gNe_self (rm := (Den tbl m).room) (d := (Pa.wait x (ofL r).up).d) (by have := Pa.dep_le (.wait x (ofL r).up); simp only [Pa.dep, Pl.raised_dep, dep_ofL] at this; rw [den_room]; omega)
  have mo : mulOk (c : Int) ((m' : Int) + 1) = true := mulOk_nat (i := c) (j := m' + 1) (by omega) (by omega)
  simp only [Pl.d, Int.cast_ofNat_Int] at f1
  simp only [Pa.d] at g
  have e1 := at_m1 (A := r.map itD) (x := itD (m', .wait x (ofL r).up))
  have e2 := cut_m1 (A := r.map itD) (x := itD (m', .wait x (ofL r).up))
  simp only [itD, Pa.d] at e1 e2
  have ds : (ofL (r ++ [(m', Pa.wait x (ofL r).up)])).ds = r.map itD ++ [D.tup [.int m', .tup [.str "wait", .str x, .tup (ofL r).up.ds]]] := by rw [ds_ofL]; simp [itD, Pa.d]
  have dr : (ofL r).ds = r.map itD := ds_ofL r
  simp only [dr] at f1 g e1 e2 ds
  simp only [itD, Pa.d, ds, dr]
  simp [runB, initE, toSl, b_folded_item, at_0, at_1, at_2, e1, e2, f1, g, mo]
theorem c_unfolded {c k : Nat} {x : Str} {b : Pl} (ok : ∃ k, b.ok k = true) (sz : b.size ≤ capN) (hd : b.dep ≤ 60) (hwi : b.within.length ≤ 5000) (hk : k ≤ capN) (h2 : 2 ≤ k) (hmod : c % k = 0) (hn : 70 ≤ n) :
    (Den tbl n).call 81 [.dat (itD (c, .wait x b)), .dat (.int k)] w = .ok (.dat (.tup [itD (c / k, .wait x (b.app (.cons (k - 1) (.wait x b.up) .nil)))])) w := by
  obtain ⟨m, rfl, hm⟩ := succ_of (k := 69) hn
  rw [den_succ T.t81]
  obtain ⟨j, ok⟩ := ok
  have l4 := lim_4000
  have cl := (Pl.lim_size _ j ok (by omega)).2
  have f1 := c_raised T.toHasR (a := 1) (l := 1) (p := b) (n := m) hw (by omega) cl (by omega)
  have e1 : ¬ (k : Int) < 2 := by omega
  have e2 : (c : Int) % (k : Int) = 0 := by
    have e : (c : Int) % (k : Int) = ((c % k : Nat) : Int) := by norm_cast
    rw [e, hmod]
    rfl
  have e3 : (0 : Int) < k := by omega
  have e3' : 0 < k := by omega
  have e4 : (k : Int) < 1073741824 ∨ k.log2 < 8990 := .inr (log_of hk)
  have e5 : (c : Int) / (k : Int) = ((c / k : Nat) : Int) := by norm_cast
  have e6 : ((k - 1 : Nat) : Int) = (k : Int) - 1 := by omega
  have e7 : b.ds.length + 1 ≤ sizeLine := by have := len_within b; rw [sizeLine_eq]; omega
  simp only [Pl.d, Int.cast_ofNat_Int] at f1
  simp only [itD, Pa.d, app_ds, Pl.ds, e6, ← e5]
  simp [runB, initE, toSl, b_unfolded_item, at_0, at_1, at_2, e1, e2, e3, e3', e4, e7, f1]
omit T hw
structure Dim (p : Pl) : Prop where
  ok : ∃ k, p.ok k = true
  size : p.size ≤ capN
  len : p.within.length ≤ 5000
  dep : p.dep ≤ 50
theorem Dim.item {p : Pl} (h : Dim p) {A B : List It} {a : It} (e : p.L = A ++ a :: B) : (∃ k, okI k a = true) ∧ a.1 * a.2.size ≤ capN ∧ 1 ≤ a.1 ∧ a.1 ≤ capN ∧ a.2.size ≤ capN ∧ a.2.within.length ≤ 5000 ∧ a.2.dep ≤ 50 ∧ A.length + B.length + 1 ≤ 5000 := by
  obtain ⟨k, ok⟩ := h.ok
  have hs := h.size
  have hl := h.len
  have hd := h.dep
  rw [ok_L, e] at ok
  simp only [List.all_append, List.all_cons, Bool.and_eq_true] at ok
  rw [size_L, e] at hs
  rw [within_L, e] at hl
  rw [dep_L, e, deL_app] at hd
  simp at hs hl
  simp only [deL] at hd
  have o := ok.2.1
  simp only [okI, Bool.and_eq_true, decide_eq_true_eq] at o
  have h1 : a.1 * 1 ≤ a.1 * a.2.size := Nat.mul_le_mul_left _ (psize_pos a.2)
  have h2 : 1 * a.2.size ≤ a.1 * a.2.size := Nat.mul_le_mul_right _ o.1
  have lw : ∀ l : List It, l.length ≤ wiL l := fun l => by
    induction l with
    | nil => exact Nat.le_refl _
    | cons x l ih => simp; omega
  have := lw A
  have := lw B
  exact ⟨⟨k, ok.2.1⟩, by omega, o.1, by omega, by omega, by omega, by omega, by omega⟩
include T hw
theorem c_done_here {p : Pl} {s : Mv} {pl : List Nat} {L' : List It} (D : Dim p) (h : here p.L s = some L') (hn : 80 ≤ n) : (Den tbl n).call 83 [.dat p.d, .dat (s.d pl)] w = .ok (.dat (.tup (L'.map itD))) w := by
  obtain ⟨m, rfl, hm⟩ := succ_of (k := 79) hn
  rw [den_succ T.t83]
  cases ea : p.L[s.at_]? with
  | none => unfold here at h; rw [ea] at h; cases h
  | some a =>
    obtain ⟨e, hl⟩ := cut_at ea
    generalize p.L.take s.at_ = A at e hl
    generalize p.L.drop (s.at_ + 1) = B at e
    obtain ⟨⟨ik, iok⟩, is1, is2, is3, is4, is5, is6, is7⟩ := D.item e
    have hds : p.ds = A.map itD ++ itD a :: B.map itD := by rw [ds_L, e]; simp
    rw [e, here_at hl] at h
    have hlA : (A.map itD).length = s.at_ := by simpa using hl
    have hk := fun (z a b : Str) => in2 (rm := (Den tbl m).room) (z := z) (a := a) (b := b) (by rw [den_room]; omega)
    have hwi := c_within T.toHasC (n := m) (by omega)
    simp only [Pl.d, hds]
    have hz : sizeLine = 16777216 := sizeLine_eq
    cases s with
    | swap i =>
      cases B with
      | nil => simp [mid] at h
      | cons y B =>
        simp [mid, Mv.wide] at h
        subst h
        have q1 : (i : Int) ≤ (A.length : Int) + (B.length + 1 + 1) - 2 := by simp [Mv.at_] at hl; omega
        have z1 : A.length + 2 ≤ sizeLine := by simp at is7; omega
        have z2 : A.length + 2 + B.length ≤ sizeLine := by simp at is7; omega
        have a1 := at_mid (A := A.map itD) (x := itD a) (B := itD y :: B.map itD) hlA
        have a2 := at_mid1 (A := A.map itD) (x := itD a) (y := itD y) (B := B.map itD) hlA
        have c1 := cut_mid (A := A.map itD) (B := itD a :: itD y :: B.map itD) hlA
        have c2 := cut_mid2 (A := A.map itD) (x := itD a) (y := itD y) (B := B.map itD) hlA
        simp only [Mv.at_] at a1 a2 c1 c2
        simp [runB, initE, toSl, b_done_here, Mv.d, Mv.nm, Mv.args, at_0, at_1, at_2, hk, hwi, a1, a2, c1, c2, z1, z2, Int.add_assoc]
        rw [if_neg (by simp only [Mv.at_] at hl; omega)]
        rfl
    | join i =>
      cases B with
      | nil => simp [mid] at h
      | cons y B =>
        simp only [mid, List.head?_cons, Mv.wide] at h
        split at h
        · rename_i ee
          have ee := beqP_iff.mp ee
          simp at h
          subst h
          have f := c_joined T (w := w) (a := a) (b := y) (n := m) (by omega) ee (by omega)
          have z1 : A.length + 1 ≤ sizeLine := by simp at is7; omega
          have z2 : A.length + 1 + B.length ≤ sizeLine := by simp at is7; omega
          have a1 := at_mid (A := A.map itD) (x := itD a) (B := itD y :: B.map itD) hlA
          have a2 := at_mid1 (A := A.map itD) (x := itD a) (y := itD y) (B := B.map itD) hlA
          have c1 := cut_mid (A := A.map itD) (B := itD a :: itD y :: B.map itD) hlA
          have c2 := cut_mid2 (A := A.map itD) (x := itD a) (y := itD y) (B := B.map itD) hlA
          simp only [Mv.at_] at a1 a2 c1 c2
          simp [runB, initE, toSl, b_done_here, Mv.d, Mv.nm, Mv.args, at_0, at_1, at_2, hk, hwi, a1, a2, c1, c2, z1, z2, f, s_ne1, s_ne2, s_ne3, s_ne4, s_ne5, s_ne6, s_ne7, s_ne8, s_ne9, s_ne10, s_ne11, s_ne12, s_ne13, s_ne14, s_ne15, s_ne16, s_ne17, s_ne18, s_ne19, s_ne20, Int.add_assoc]
          rw [if_neg (by simp only [Mv.at_] at hl; omega)]
          rfl
        · simp at h
    | split i k =>
      simp only [mid, Mv.wide] at h
      split at h
      · rename_i cc
        simp at h
        subst h
        have f := c_split T (w := w) (a := a) (n := m) cc.1 cc.2 (by omega)
        have z1 : A.length + 2 ≤ sizeLine := by simp at is7; omega
        have z2 : A.length + 2 + B.length ≤ sizeLine := by simp at is7; omega
        have a1 := at_mid (A := A.map itD) (x := itD a) (B := B.map itD) hlA
        have c1 := cut_mid (A := A.map itD) (B := itD a :: B.map itD) hlA
        have c2 := cut_mid1 (A := A.map itD) (x := itD a) (B := B.map itD) hlA
        simp only [Mv.at_] at a1 c1 c2
        simp [runB, initE, toSl, b_done_here, Mv.d, Mv.nm, Mv.args, at_0, at_1, at_2, at_3, hk, hwi, a1, c1, c2, z1, z2, f, s_ne1, s_ne2, s_ne3, s_ne4, s_ne5, s_ne6, s_ne7, s_ne8, s_ne9, s_ne10, s_ne11, s_ne12, s_ne13, s_ne14, s_ne15, s_ne16, s_ne17, s_ne18, s_ne19, s_ne20, Int.add_assoc]
        rw [if_neg (by simp only [Mv.at_] at hl; omega)]
        rfl
      · simp at h
    | fold i =>
      obtain ⟨c, p'⟩ := a
      cases p' with
      | wait x b =>
        simp only [mid, Mv.wide] at h
        split at h
        · rename_i mm q r er
          split at h
          · rename_i e2
            have e2 := beqP_iff.mp e2
            simp at h
            subst h
            have eb := rev_cons er
            have eb2 : b = ofL (r.reverse ++ [(mm, Pa.wait x (ofL r.reverse).up)]) := by
              rw [← e2, ← eb, ofL_L]
            generalize hR : r.reverse = R at *
            have ok2 : ∃ k, (ofL R).ok k = true := by
              simp only [okI, Bool.and_eq_true, Pa.ok, ok_L, eb, List.all_append] at iok
              exact ⟨ik + 1, by rw [ok_ofL]; exact iok.2.2.1⟩
            have hsz : b.size = szL R + mm * q.size := by rw [size_L, eb]; simp
            have hww : b.within.length = wiL R + (1 + q.within.length) := by rw [within_L, eb]; simp
            have hdd : b.dep = max (deL R) q.dep := by rw [dep_L, eb, deL_app]; simp [deL]
            simp only [Pa.size, Pa.within, Pa.dep] at is4 is5 is6
            have qp := Nat.mul_le_mul_left mm (psize_pos q)
            have f := c_folded T hw (c := c) (m' := mm) (x := x) (r := R) (n := m) ok2 (by rw [size_ofL]; omega) (by omega) (by omega) is3 (by omega) (by omega)
            rw [← eb2] at f
            have z1 : A.length + 1 ≤ sizeLine := by simp at is7; omega
            have z2 : A.length + 1 + B.length ≤ sizeLine := by simp at is7; omega
            have a1 := at_mid (A := A.map itD) (x := itD (c, .wait x b)) (B := B.map itD) hlA
            have c1 := cut_mid (A := A.map itD) (B := itD (c, .wait x b) :: B.map itD) hlA
            have c2 := cut_mid1 (A := A.map itD) (x := itD (c, .wait x b)) (B := B.map itD) hlA
            simp only [Mv.at_] at a1 c1 c2
            simp [runB, initE, toSl, b_done_here, Mv.d, Mv.nm, Mv.args, at_0, at_1, at_2, at_3, hk, hwi, a1, c1, c2, z1, z2, f, s_ne1, s_ne2, s_ne3, s_ne4, s_ne5, s_ne6, s_ne7, s_ne8, s_ne9, s_ne10, s_ne11, s_ne12, s_ne13, s_ne14, s_ne15, s_ne16, s_ne17, s_ne18, s_ne19, s_ne20, Int.add_assoc]
            rw [if_neg (by simp only [Mv.at_] at hl; omega)]
            rfl
          · simp at h
        · simp at h
      | name y => simp [mid] at h
      | mark y => simp [mid] at h
      | got y => simp [mid] at h
      | letter y b => simp [mid] at h
    | unfold i k =>
      obtain ⟨c, p'⟩ := a
      cases p' with
      | wait x b =>
        simp only [mid, Mv.wide] at h
        split at h
        · rename_i cc
          simp at h
          subst h
          simp only [okI, Bool.and_eq_true, Pa.ok] at iok
          simp only [Pa.size, Pa.within, Pa.dep] at is4 is5 is6
          have hkc : k ≤ capN := by
            have : k ≤ c := Nat.le_of_dvd (show 0 < c by simp only at is2; omega) (Nat.dvd_of_mod_eq_zero cc.2)
            simp only at is3
            omega
          have f := c_unfolded T hw (c := c) (k := k) (x := x) (b := b) (n := m) ⟨ik + 1, iok.2.2⟩ (by omega) (by omega) (by omega) hkc cc.1 cc.2 (by omega)
          have z1 : A.length + 1 ≤ sizeLine := by simp at is7; omega
          have z2 : A.length + 1 + B.length ≤ sizeLine := by simp at is7; omega
          have a1 := at_mid (A := A.map itD) (x := itD (c, .wait x b)) (B := B.map itD) hlA
          have c1 := cut_mid (A := A.map itD) (B := itD (c, .wait x b) :: B.map itD) hlA
          have c2 := cut_mid1 (A := A.map itD) (x := itD (c, .wait x b)) (B := B.map itD) hlA
          simp only [Mv.at_] at a1 c1 c2
          simp [runB, initE, toSl, b_done_here, Mv.d, Mv.nm, Mv.args, at_0, at_1, at_2, at_3, hk, hwi, a1, c1, c2, z1, z2, f, s_ne1, s_ne2, s_ne3, s_ne4, s_ne5, s_ne6, s_ne7, s_ne8, s_ne9, s_ne10, s_ne11, s_ne12, s_ne13, s_ne14, s_ne15, s_ne16, s_ne17, s_ne18, s_ne19, s_ne20, Int.add_assoc]
          rw [if_neg (by simp only [Mv.at_] at hl; omega)]
          rfl
        · simp at h
      | name y => simp [mid] at h
      | mark y => simp [mid] at h
      | got y => simp [mid] at h
      | letter y b => simp [mid] at h
end
end Dl
/-! Pl12: stepped. -/
namespace Dl
open PySem PySem.Spec PyProof.Rows L2 NdefX
theorem within1_d {q : Pa} {b : Pl} {f : Pl → Pa} (h : within1 q = some (b, f)) : ∃ z x : Str, q.d = .tup [.str z, .str x, .tup b.ds] ∧ ∀ b', (f b').d = .tup [.str z, .str x, .tup b'.ds] := by
  cases q with
  | letter x c => cases h; exact ⟨_, _, rfl, fun _ => rfl⟩
  | wait x c => cases h; exact ⟨_, _, rfl, fun _ => rfl⟩
  | name x => cases h
  | mark x => cases h
  | got x => cases h
theorem cut_1 {x : D} {l : List D} : cutD (x :: l) (some 1) none = l := cutD_from (k := 1)
theorem cut_2 {x y : D} {l : List D} : cutD (x :: y :: l) (some 2) none = l := cutD_from (k := 2)
theorem isI_all (l : List D) (h : ∀ d ∈ l, isI d = true) : cAll [.lst (l.map fun d => D.bl (isI d))] = some (.dat (.bl true)) := by
  rw [cAll_l, bolsOf_mapF]
  simp only [Option.map_some, Option.some.injEq, RV.dat.injEq, D.bl.injEq]
  rw [List.all_map, List.all_eq_true]
  intro d hd
  exact h d hd
theorem Dim.inner {p b : Pl} {q : Pa} {f : Pl → Pa} {c i : Nat} (h : Dim p) (e : p.L[i]? = some (c, q)) (ew : within1 q = some (b, f)) : Dim b := by
  obtain ⟨ec, hl⟩ := cut_at e
  obtain ⟨⟨k, o⟩, h1, h2, h3, h4, h5, h6, h7⟩ := h.item ec
  simp only [okI, Bool.and_eq_true] at o
  obtain ⟨w1, w2, w3, w4, w5, k', w6⟩ := within1_spec ew k
  rw [w1] at h4 h5 h6
  simp only [w3, w4, w5] at h4 h5 h6
  exact ⟨⟨k', (w6 o.2).1⟩, by omega, h5, by omega⟩
section
variable {tbl : Nat → Option DefB} (T : HasT tbl) {w : World} (hw : allL w = true)
include T hw
theorem c_done_at {s : Mv} {pl0 : List Nat} : ∀ (pl : List Nat) (p p' : Pl) (n : Nat), Dim p → stepAt p pl s = some p' → 81 + pl.length ≤ n → (Den tbl n).call 82 [.dat p.d, .dat (.tup (natsD pl)), .dat (s.d pl0)] w = .ok (.dat p'.d) w
  | [], p, p', n, D, h, hn => by
    obtain ⟨m, rfl, hm⟩ := succ_of (k := 80) (n := n) hn
    rw [den_succ T.t82]
    unfold stepAt at h
    cases e : here p.L s with
    | none => rw [e] at h; cases h
    | some L' =>
      rw [e] at h
      simp only [Option.map_some, Option.some.injEq] at h
      subst h
      have f := c_done_here T hw (pl := pl0) (n := m) D e hm
      simp only [Pl.d, ds_ofL] at f ⊢
      simp [runB, initE, toSl, b_done_at, natsD, f]
  | i :: pl, p, p', n, D, h, hn => by
    simp only [List.length_cons] at hn
    obtain ⟨m, rfl, hm⟩ := succ_of (k := 81 + pl.length) (n := n) (by omega)
    rw [den_succ T.t82]
    unfold stepAt at h
    cases e : p.L[i]? with
    | none => rw [e] at h; cases h
    | some cq =>
      obtain ⟨c, q⟩ := cq
      rw [e] at h
      simp only at h
      cases ew : within1 q with
      | none => rw [ew] at h; cases h
      | some bf =>
        obtain ⟨b, f⟩ := bf
        rw [ew] at h
        simp only at h
        cases es : stepAt b pl s with
        | none => rw [es] at h; cases h
        | some b' =>
          rw [es] at h
          simp only [Option.map_some, Option.some.injEq] at h
          subst h
          obtain ⟨z, x, q1, q2⟩ := within1_d ew
          have ih : (Den tbl m).call 82 [.dat b.d, .dat (.tup (natsD pl)), .dat (s.d pl0)] w = .ok (.dat b'.d) w := c_done_at pl b b' m (D.inner e ew) es hm
          have z7 := (D.item (cut_at e).1).2.2.2.2.2.2.2
          obtain ⟨ec, hl⟩ := cut_at e
          generalize p.L.take i = A at *
          generalize p.L.drop (i + 1) = B at *
          have hds : p.ds = A.map itD ++ Dl.D.tup [.int c, .tup [.str z, .str x, .tup b.ds]] :: B.map itD := by rw [ds_L, ec]; simp [itD, q1]
          have hd2 : (ofL (A ++ (c, f b') :: B)).ds = A.map itD ++ Dl.D.tup [.int c, .tup [.str z, .str x, .tup b'.ds]] :: B.map itD := by rw [ds_ofL]; simp [itD, q2]
          have hlA : (A.map itD).length = i := by simpa using hl
          have a1 := at_mid (A := A.map itD) (x := Dl.D.tup [.int c, .tup [.str z, .str x, .tup b.ds]]) (B := B.map itD) hlA
          have c1 := cut_mid (A := A.map itD) (B := Dl.D.tup [.int c, .tup [.str z, .str x, .tup b.ds]] :: B.map itD) hlA
          have c2 := cut_mid1 (A := A.map itD) (x := Dl.D.tup [.int c, .tup [.str z, .str x, .tup b.ds]]) (B := B.map itD) hlA
          have z1 : A.length + 1 ≤ sizeLine := by rw [sizeLine_eq]; omega
          have z2 : A.length + 1 + B.length ≤ sizeLine := by rw [sizeLine_eq]; omega
          have hi : ¬ ((A.length : Int) + B.length < i) := by omega
          have hwi := c_within T.toHasC (n := m) (by omega)
          simp only [Pl.d, natsD] at ih
          simp only [Pl.d, hds, hd2]
          simp [runB, initE, toSl, b_done_at, natsD, at_0, at_1, at_2, hwi, a1, c1, c2, cut_1, ih, z1, z2, hi]
          rw [if_neg (by omega)]
          rfl
omit hw in
theorem c_form {s : Mv} {pl : List Nat} {n : Nat} (hn : 3 ≤ n) (hz : pl.length ≤ 1000) : (Den tbl n).call 84 [.dat (s.d pl)] w = .ok (.dat (.bl true)) w := by
  obtain ⟨m, rfl, hm⟩ := succ_of (k := 2) (n := n) hn
  rw [den_succ T.t84]
  have hi := c_integer T.toHasC (n := m) (by omega)
  have all : ∀ d ∈ natsD pl ++ s.args, isI d = true := fun d hd => by
    rcases List.mem_append.mp hd with h | h
    · obtain ⟨k, _, rfl⟩ := List.mem_map.mp h
      rfl
    · cases s <;> simp [Mv.args] at h <;> first | (subst h; rfl) | (rcases h with h | h <;> (subst h; rfl))
  have g := compGo_map (i := 1) (e := dCall (Den tbl m) 1 (aCons (dName 1) aNil)) (env := [.dat (s.d pl), .un]) (w := w) (f := fun d => D.bl (isI d)) (l := natsD pl ++ s.args) (fun d _ => by simp [hi])
  have ha := isI_all _ all
  have hl : (natsD pl).length = pl.length := by simp [natsD]
  have k1 : t_LENGTHS.lookup (Str.ofString "swap") = some (D.int 3) := rfl
  have k2 : t_LENGTHS.lookup (Str.ofString "join") = some (D.int 3) := rfl
  have k3 : t_LENGTHS.lookup (Str.ofString "split") = some (D.int 4) := rfl
  have k4 : t_LENGTHS.lookup (Str.ofString "fold") = some (D.int 3) := rfl
  have k5 : t_LENGTHS.lookup (Str.ofString "unfold") = some (D.int 4) := rfl
  have z1 : pl.length + 1 ≤ sizeLine := by rw [sizeLine_eq]; omega
  have z2 : pl.length + 2 ≤ sizeLine := by rw [sizeLine_eq]; omega
  cases s <;> simp only [Mv.d, Mv.args, Mv.nm] at g ha ⊢ <;> simp [runB, initE, toSl, b_has_step_form, at_0, at_1, D.isTy, gGetK, k1, k2, k3, k4, k5, cut_2, hl, z1, z2, g, -cAll_l, ha, -List.map_append]
theorem c_stepped {s : Mv} {pl : List Nat} {p p' : Pl} {n : Nat} (D : Dim p) (ok : p.ok 0 = true) (D' : Dim p') (h : stepAt p pl s = some p') (hp : pl.length ≤ 10) (hn : 140 ≤ n) : (Den tbl n).call 96 [.dat p.d, .dat (s.d pl)] w = .ok (.dat p'.d) w := by
  obtain ⟨m, rfl, hm⟩ := succ_of (k := 139) (n := n) hn
  obtain ⟨m', rfl, hm'⟩ := succ_of (k := 138) (n := m) hm
  rw [den_succ T.t96]
  have d1 := D.dep
  have d2 := D'.dep
  have l2 := D'.len
  have f1 := c_checkPlan T.toHasK (p := p) (n := m' + 1) (w := w) (by omega) ok
  have f2 : (Den tbl (m' + 1)).call 85 [.dat p.d, .dat (s.d pl)] w = .ok (.dat p'.d) w := by
    rw [den_succ T.t85]
    have g1 := c_form T (s := s) (pl := pl) (n := m') (w := w) (by omega) (by omega)
    have g2 := c_done_at T hw (s := s) (pl0 := pl) pl p p' m' D h (by omega)
    have g3 := c_items T.toHasI (p := p') (n := m') (w := w) (by omega) (by omega)
    have g4 := c_nesting T.toHasI m' p' w (by omega) (by omega)
    have e1 : ¬ (5000 : Int) < (p'.within.length : Int) := by omega
    have e2 : ¬ (120 : Int) < (p'.dep : Int) := by omega
    have hx : atI (Dl.D.str s.nm :: Dl.D.tup (natsD pl) :: s.args) 1 = some (.tup (natsD pl)) := at_1
    simp only [Pl.d, Mv.d] at g1 g2 g3 g4
    simp only [Pl.d, Mv.d]
    simp [runB, initE, toSl, b_step_done, hx, g1, g2, g3, g4, e1, e2, Dl.D.isN]
  simp only [Pl.d] at f1 f2
  simp [runB, initE, toSl, b_stepped, f1, f2, Dl.D.isN]
end
end Dl
/-! L27a: the law's own raise and step. -/
namespace Dl
open PySem PySem.Spec PyProof.Rows L2 NdefX
mutual
theorem Pa.raised_shift (a l : Nat) : ∀ (p : Pa) (k : Nat), p.raised a l k = p.raised a 0 (k + l)
  | .name y, k => rfl
  | .mark n, k => rfl
  | .got n, k => rfl
  | .letter d b, k => by simp only [Pa.raised]; rw [Pl.raised_shift a l b k]
  | .wait d b, k => by simp only [Pa.raised]; rw [Pl.raised_shift a l b (k + 1), show k + 1 + l = k + l + 1 by omega]
theorem Pl.raised_shift (a l : Nat) : ∀ (p : Pl) (k : Nat), p.raised a l k = p.raised a 0 (k + l)
  | .nil, k => rfl
  | .cons c p r, k => by simp only [Pl.raised]; rw [Pa.raised_shift a l p k, Pl.raised_shift a l r k]
end
structure HasLS27 (tbl : Nat → Option DefB) : Prop where
  t88 : tbl 88 = some ⟨3, 6, b__law_raise⟩
  t89 : tbl 89 = some ⟨2, 10, b__law_step⟩
abbrev raBody (C : Cs) : Sd := (sSeq (sIf (tAnd' (dTst (dBin (gEq C.room) (dBin gIx (dName 5) (dC (.int 0))) (dC (.str "got")))) (dTst (dBin (gGe C.room) (dBin gIx (dName 5) (dC (.int 1))) (dName 2)))) (sSet 5 (dTup (aCons (dC (.str "got")) (aCons (dBin gAdd (dBin gIx (dName 5) (dC (.int 1))) (dName 1)) aNil)))) sNil)
  (sSeq (sIf (dTst (dBin (gEq C.room) (dBin gIx (dName 5) (dC (.int 0))) (dC (.str "letter")))) (sSet 5 (dTup (aCons (dC (.str "letter")) (aCons (dBin gIx (dName 5) (dC (.int 1))) (aCons (dCall C 88 (aCons (dBin gIx (dName 5) (dC (.int 2))) (aCons (dName 1) (aCons (dName 2) aNil)))) aNil))))) sNil)
  (sSeq (sIf (dTst (dBin (gEq C.room) (dBin gIx (dName 5) (dC (.int 0))) (dC (.str "wait")))) (sSet 5 (dTup (aCons (dC (.str "wait")) (aCons (dBin gIx (dName 5) (dC (.int 1))) (aCons (dCall C 88 (aCons (dBin gIx (dName 5) (dC (.int 2))) (aCons (dName 1) (aCons (dBin gAdd (dName 2) (dC (.int 1))) aNil)))) aNil))))) sNil)
  (sAppend 3 (dTup (aCons (dName 4) (aCons (dName 5) aNil)))))))
section
variable {tbl : Nat → Option DefB} (T : HasLS27 tbl) {w : World} {a : Nat}
include T
theorem ra_loop : ∀ (r : Pl) (P : D) (k m : Nat) (acc : List D) (s4 s5 : Sl), r.dep ≤ m → acc.length + r.within.length < 16777216 →
    ∃ s4' s5', forGo (gT 2 (gsCons (gN 4) (gsCons (gN 5) gsNil))) (raBody (Den tbl m)) r.ds [.dat P, .dat (.int a), .dat (.int k), .own acc, s4, s5] w = .ok (.nx [.dat P, .dat (.int a), .dat (.int k), .own (acc ++ (r.raised a 0 k).ds), s4', s5']) w
  | .nil, P, k, m, acc, s4, s5, hm, hz => ⟨s4, s5, by simp [Pl.ds, Pl.raised]⟩
  | .cons c p r, P, k, m, acc, s4, s5, hm, hz => by
    simp only [Pl.dep] at hm
    simp only [Pl.within, List.length_cons, List.length_append] at hz
    obtain ⟨s4', s5', e⟩ := ra_loop r P k m (acc ++ [.tup [.int c, (p.raised a 0 k).d]]) (.dat (.int c)) (.dat (p.raised a 0 k).d) (by omega) (by simp; omega)
    refine ⟨s4', s5', ?_⟩
    have h1 : acc.length < 16777216 := by omega
    simp only [List.append_assoc, List.cons_append, List.nil_append] at e
    cases p with
    | name y => simp [Pa.raised, Pa.d] at e; simp [for_cons, Pl.ds, Pl.raised, Pa.raised, Pa.d, at_0, ne_14, ne_6, ne_7, h1, e]
    | mark j => simp [Pa.raised, Pa.d] at e; simp [for_cons, Pl.ds, Pl.raised, Pa.raised, Pa.d, at_0, ne_15, ne_8, ne_9, h1, e]
    | got j =>
      by_cases h : k ≤ j
      · have h' : (k : Int) ≤ j := by omega
        simp [Pa.raised, h, Pa.d] at e
        simp [for_cons, Pl.ds, Pl.raised, Pa.raised, Pa.d, h, h', at_0, at_1, ne_10, ne_11, h1, e]
      · have h' : ¬ (k : Int) ≤ j := by omega
        simp [Pa.raised, h, Pa.d] at e
        simp [for_cons, Pl.ds, Pl.raised, Pa.raised, Pa.d, h, h', at_0, at_1, ne_10, ne_11, h1, e]
    | letter d b =>
      simp only [Pa.dep] at hm
      simp only [Pa.within] at hz
      obtain ⟨m', rfl, hm'⟩ := succ_of (k := b.dep) (n := m) (by omega)
      obtain ⟨t4, t5, eb⟩ := ra_loop b (.tup b.ds) k m' [] .un .un (by omega) (by simp; omega)
      have hc : (Den tbl (m' + 1)).call 88 [.dat (.tup b.ds), .dat (.int a), .dat (.int k)] w = .ok (.dat (.tup (b.raised a 0 k).ds)) w := by
        rw [den_succ T.t88]
        simp only [List.nil_append] at eb
        simp [runB, initE, toSl, b__law_raise, eb]
      simp [Pa.raised, Pa.d] at e
      simp [for_cons, Pl.ds, Pl.raised, Pa.raised, Pa.d, at_0, at_1, at_2, ne_16, ne_4, hc, h1, e]
    | wait d b =>
      simp only [Pa.dep] at hm
      simp only [Pa.within] at hz
      obtain ⟨m', rfl, hm'⟩ := succ_of (k := b.dep) (n := m) (by omega)
      obtain ⟨t4, t5, eb⟩ := ra_loop b (.tup b.ds) (k + 1) m' [] .un .un (by omega) (by simp; omega)
      have hc : (Den tbl (m' + 1)).call 88 [.dat (.tup b.ds), .dat (.int a), .dat (.int (k + 1))] w = .ok (.dat (.tup (b.raised a 0 (k + 1)).ds)) w := by
        rw [den_succ T.t88]
        simp only [List.nil_append] at eb
        simp at eb
        simp [runB, initE, toSl, b__law_raise, eb]
      simp [Pa.raised, Pa.d] at e
      simp [for_cons, Pl.ds, Pl.raised, Pa.raised, Pa.d, at_0, at_1, at_2, ne_17, ne_5, hc, h1, e]
theorem c_lraise {p : Pl} {n : Nat} (hn : p.dep + 1 ≤ n) (hz : p.within.length < 16777216) : (Den tbl n).call 88 [.dat p.d, .dat (.int 1), .dat (.int 1)] w = .ok (.dat p.up.d) w := by
  obtain ⟨m, rfl, hm⟩ := succ_of (k := p.dep) (n := n) (by omega)
  obtain ⟨t4, t5, eb⟩ := ra_loop T (w := w) (a := 1) p (.tup p.ds) 1 m [] .un .un (by omega) (by simpa using hz)
  rw [den_succ T.t88]
  have e : p.up = p.raised 1 0 1 := Pl.raised_shift 1 1 p 0
  rw [e]
  simp only [List.nil_append, Int.cast_ofNat_Int] at eb
  simp [runB, initE, toSl, b__law_raise, eb]
end
theorem seq_nx {a b : Sd} {env env' : Ev} {w w' : World} (h : a env w = .ok (.nx env') w') : sSeq a b env w = b env' w' := by
  rw [sSeq_ap, h]
  rfl
theorem seq_rt {a b : Sd} {env : Ev} {r : RV} {w w' : World} (h : a env w = .ok (.rt r) w') : sSeq a b env w = .ok (.rt r) w' := by
  rw [sSeq_ap, h]
  rfl
def ls1 (C : Cs) : Sd := (sSet 2 (dBin gIx (dName 1) (dC (.int 1))))
def ls2 (C : Cs) : Sd := (sIf (dTst (dBin (gGt C.room) (dBlt cLen (rCons (dName 2) rNil)) (dC (.int 0)))) (sSeq (sIf (tOr' (dTst (dBin (gLt C.room) (dBin gIx (dName 2) (dC (.int 0))) (dC (.int 0)))) (tOr' (dTst (dBin (gGe C.room) (dBin gIx (dName 2) (dC (.int 0))) (dBlt cLen (rCons (dName 0) rNil)))) (dTst (dBin (gEq C.room) (dBlt cLen (rCons (dBin gIx (dBin gIx (dName 0) (dBin gIx (dName 2) (dC (.int 0)))) (dC (.int 1))) rNil)) (dC (.int 2)))))) (sRet (dC .non)) sNil)
  (sSeq (sAsg (gT 2 (gsCons (gN 3) (gsCons (gN 4) gsNil))) (dBin gIx (dName 0) (dBin gIx (dName 2) (dC (.int 0)))))
  (sSeq (sSet 5 (dCall C 89 (aCons (dBin gIx (dName 4) (dC (.int 2))) (aCons (dBin gAdd (dTup (aCons (dBin gIx (dName 1) (dC (.int 0))) (aCons (dSl (dName 2) (some (dC (.int 1))) none) aNil))) (dSl (dName 1) (some (dC (.int 2))) none)) aNil))))
  (sSeq (sIf (dTst (dBin gIs (dName 5) (dC .non))) (sRet (dC .non)) sNil)
  (sRet (dBin gAdd (dBin gAdd (dSl (dName 0) none (some (dBin gIx (dName 2) (dC (.int 0))))) (dTup (aCons (dTup (aCons (dName 3) (aCons (dTup (aCons (dBin gIx (dName 4) (dC (.int 0))) (aCons (dBin gIx (dName 4) (dC (.int 1))) (aCons (dName 5) aNil)))) aNil))) aNil))) (dSl (dName 0) (some (dBin gAdd (dBin gIx (dName 2) (dC (.int 0))) (dC (.int 1)))) none))))))) sNil)
def ls3 (C : Cs) : Sd := (sSet 6 (dBin gIx (dName 1) (dC (.int 2))))
def ls4 (C : Cs) : Sd := (sIf (tOr' (dTst (dBin (gLt C.room) (dName 6) (dC (.int 0)))) (dTst (dBin (gGe C.room) (dName 6) (dBlt cLen (rCons (dName 0) rNil))))) (sRet (dC .non)) sNil)
def ls5 (C : Cs) : Sd := (sAsg (gT 2 (gsCons (gN 3) (gsCons (gN 4) gsNil))) (dBin gIx (dName 0) (dName 6)))
def ls6 (C : Cs) : Sd := (sIf (tOr' (dTst (dBin (gEq C.room) (dBin gIx (dName 1) (dC (.int 0))) (dC (.str "swap")))) (dTst (dBin (gEq C.room) (dBin gIx (dName 1) (dC (.int 0))) (dC (.str "join"))))) (sSeq (sIf (tOr' (dTst (dBin (gEq C.room) (dBin gAdd (dName 6) (dC (.int 1))) (dBlt cLen (rCons (dName 0) rNil)))) (tAnd' (dTst (dBin (gEq C.room) (dBin gIx (dName 1) (dC (.int 0))) (dC (.str "join")))) (dTst (dBin (gNe C.room) (dBin gIx (dBin gIx (dName 0) (dBin gAdd (dName 6) (dC (.int 1)))) (dC (.int 1))) (dName 4))))) (sRet (dC .non)) sNil)
  (sSeq (sIf (dTst (dBin (gEq C.room) (dBin gIx (dName 1) (dC (.int 0))) (dC (.str "swap")))) (sRet (dBin gAdd (dBin gAdd (dSl (dName 0) none (some (dName 6))) (dTup (aCons (dBin gIx (dName 0) (dBin gAdd (dName 6) (dC (.int 1)))) (aCons (dBin gIx (dName 0) (dName 6)) aNil)))) (dSl (dName 0) (some (dBin gAdd (dName 6) (dC (.int 2)))) none))) sNil)
  (sRet (dBin gAdd (dBin gAdd (dSl (dName 0) none (some (dName 6))) (dTup (aCons (dTup (aCons (dBin gAdd (dName 3) (dBin gIx (dBin gIx (dName 0) (dBin gAdd (dName 6) (dC (.int 1)))) (dC (.int 0)))) (aCons (dName 4) aNil))) aNil))) (dSl (dName 0) (some (dBin gAdd (dName 6) (dC (.int 2)))) none))))) sNil)
def ls7 (C : Cs) : Sd := (sIf (dTst (dBin (gEq C.room) (dBin gIx (dName 1) (dC (.int 0))) (dC (.str "split")))) (sSeq (sIf (tOr' (dTst (dBin (gLt C.room) (dBin gIx (dName 1) (dC (.int 3))) (dC (.int 1)))) (dTst (dBin (gGe C.room) (dBin gIx (dName 1) (dC (.int 3))) (dName 3)))) (sRet (dC .non)) sNil)
  (sRet (dBin gAdd (dBin gAdd (dSl (dName 0) none (some (dName 6))) (dTup (aCons (dTup (aCons (dBin gIx (dName 1) (dC (.int 3))) (aCons (dName 4) aNil))) (aCons (dTup (aCons (dBin gSub (dName 3) (dBin gIx (dName 1) (dC (.int 3)))) (aCons (dName 4) aNil))) aNil)))) (dSl (dName 0) (some (dBin gAdd (dName 6) (dC (.int 1)))) none)))) sNil)
def ls8 (C : Cs) : Sd := (sIf (dTst (dBin (gNe C.room) (dBin gIx (dName 4) (dC (.int 0))) (dC (.str "wait")))) (sRet (dC .non)) sNil)
def ls9 (C : Cs) : Sd := (sIf (dTst (dBin (gEq C.room) (dBin gIx (dName 1) (dC (.int 0))) (dC (.str "unfold")))) (sSeq (sIf (tOr' (dTst (dBin (gLt C.room) (dBin gIx (dName 1) (dC (.int 3))) (dC (.int 2)))) (dTst (dBin (gGt C.room) (dBin gMod (dBlt cInt (rCons (dName 3) rNil)) (dBin gIx (dName 1) (dC (.int 3)))) (dC (.int 0))))) (sRet (dC .non)) sNil)
  (sSeq (sSet 5 (dBin gAdd (dBin gIx (dName 4) (dC (.int 2))) (dTup (aCons (dTup (aCons (dBin gSub (dBin gIx (dName 1) (dC (.int 3))) (dC (.int 1))) (aCons (dTup (aCons (dC (.str "wait")) (aCons (dBin gIx (dName 4) (dC (.int 1))) (aCons (dCall C 88 (aCons (dBin gIx (dName 4) (dC (.int 2))) (aCons (dC (.int 1)) (aCons (dC (.int 1)) aNil)))) aNil)))) aNil))) aNil))))
  (sRet (dBin gAdd (dBin gAdd (dSl (dName 0) none (some (dName 6))) (dTup (aCons (dTup (aCons (dBin gFdiv (dName 3) (dBin gIx (dName 1) (dC (.int 3)))) (aCons (dTup (aCons (dC (.str "wait")) (aCons (dBin gIx (dName 4) (dC (.int 1))) (aCons (dName 5) aNil)))) aNil))) aNil))) (dSl (dName 0) (some (dBin gAdd (dName 6) (dC (.int 1)))) none))))) sNil)
def ls10 (C : Cs) : Sd := (sIf (dTst (dBin (gEq C.room) (dBlt cLen (rCons (dBin gIx (dName 4) (dC (.int 2))) rNil)) (dC (.int 0)))) (sRet (dC .non)) sNil)
def ls11 (C : Cs) : Sd := (sSet 7 (dSl (dBin gIx (dName 4) (dC (.int 2))) none (some (dBin gSub (dBlt cLen (rCons (dBin gIx (dName 4) (dC (.int 2))) rNil)) (dC (.int 1))))))
def ls12 (C : Cs) : Sd := (sAsg (gT 2 (gsCons (gN 8) (gsCons (gN 9) gsNil))) (dBin gIx (dBin gIx (dName 4) (dC (.int 2))) (dBin gSub (dBlt cLen (rCons (dBin gIx (dName 4) (dC (.int 2))) rNil)) (dC (.int 1)))))
def ls13 (C : Cs) : Sd := (sIf (dTst (dBin (gNe C.room) (dName 9) (dTup (aCons (dC (.str "wait")) (aCons (dBin gIx (dName 4) (dC (.int 1))) (aCons (dCall C 88 (aCons (dName 7) (aCons (dC (.int 1)) (aCons (dC (.int 1)) aNil)))) aNil)))))) (sRet (dC .non)) sNil)
def ls14 (C : Cs) : Sd := (sRet (dBin gAdd (dBin gAdd (dSl (dName 0) none (some (dName 6))) (dTup (aCons (dTup (aCons (dBin gMul (dName 3) (dBin gAdd (dName 8) (dC (.int 1)))) (aCons (dTup (aCons (dC (.str "wait")) (aCons (dBin gIx (dName 4) (dC (.int 1))) (aCons (dName 7) aNil)))) aNil))) aNil))) (dSl (dName 0) (some (dBin gAdd (dName 6) (dC (.int 1)))) none)))
theorem ls_eq (C : Cs) : b__law_step C = (sSeq (ls1 C) (sSeq (ls2 C) (sSeq (ls3 C) (sSeq (ls4 C) (sSeq (ls5 C) (sSeq (ls6 C) (sSeq (ls7 C) (sSeq (ls8 C) (sSeq (ls9 C) (sSeq (ls10 C) (sSeq (ls11 C) (sSeq (ls12 C) (sSeq (ls13 C) (ls14 C)))))))))))))) := rfl
section
variable {tbl : Nat → Option DefB} (T : HasLS27 tbl) {w : World} {n : Nat}
omit T in
theorem ls_pre {C : Cs} {A B : List D} {c p : D} {nm : Str} {i : Nat} {rest : List D} (h : A.length = i) :
    b__law_step C [.dat (.tup (A ++ .tup [c, p] :: B)), .dat (.tup (.str nm :: .tup [] :: .int i :: rest)), .un, .un, .un, .un, .un, .un, .un, .un] w =
      (sSeq (ls6 C) (sSeq (ls7 C) (sSeq (ls8 C) (sSeq (ls9 C) (sSeq (ls10 C) (sSeq (ls11 C) (sSeq (ls12 C) (sSeq (ls13 C) (ls14 C)))))))))
      [.dat (.tup (A ++ .tup [c, p] :: B)), .dat (.tup (.str nm :: .tup [] :: .int i :: rest)), .dat (.tup []), .dat c, .dat p, .un, .dat (.int i), .un, .un, .un] w := by
  have a1 := at_mid (A := A) (x := .tup [c, p]) (B := B) h
  have q : ¬ (A.length : Int) + (B.length + 1) ≤ i := by omega
  rw [ls_eq]
  refine (seq_nx (env' := [.dat (.tup (A ++ .tup [c, p] :: B)), .dat (.tup (.str nm :: .tup [] :: .int i :: rest)), .dat (.tup []), .un, .un, .un, .un, .un, .un, .un]) (w' := w) (by simp [ls1, at_1])).trans ?_
  refine (seq_nx (env' := [.dat (.tup (A ++ .tup [c, p] :: B)), .dat (.tup (.str nm :: .tup [] :: .int i :: rest)), .dat (.tup []), .un, .un, .un, .un, .un, .un, .un]) (w' := w) (by simp [ls2])).trans ?_
  refine (seq_nx (env' := [.dat (.tup (A ++ .tup [c, p] :: B)), .dat (.tup (.str nm :: .tup [] :: .int i :: rest)), .dat (.tup []), .un, .un, .un, .dat (.int i), .un, .un, .un]) (w' := w) (by simp [ls3, at_2])).trans ?_
  refine (seq_nx (env' := [.dat (.tup (A ++ .tup [c, p] :: B)), .dat (.tup (.str nm :: .tup [] :: .int i :: rest)), .dat (.tup []), .un, .un, .un, .dat (.int i), .un, .un, .un]) (w' := w) (by simp [ls4, q])).trans ?_
  exact seq_nx (by simp [ls5, a1])
include T
theorem c_lstep0 {p : Pl} {s : Mv} (D : Dim p) (hat : s.at_ < p.L.length) (hn : 80 ≤ n) : (Den tbl n).call 89 [.dat p.d, .dat (s.d [])] w = .ok (.dat (optL (here p.L s))) w := by
  obtain ⟨m, rfl, hm⟩ := succ_of (k := 79) hn
  rw [den_succ T.t89]
  cases ea : p.L[s.at_]? with
  | none => rw [List.getElem?_eq_none_iff] at ea; omega
  | some a =>
    obtain ⟨e, hl⟩ := cut_at ea
    generalize p.L.take s.at_ = A at e hl
    generalize p.L.drop (s.at_ + 1) = B at e
    obtain ⟨⟨ik, iok⟩, is1, is2, is3, is4, is5, is6, is7⟩ := D.item e
    have hds : p.ds = A.map itD ++ itD a :: B.map itD := by rw [ds_L, e]; simp
    rw [e, here_at hl]
    have hlA : (A.map itD).length = s.at_ := by simpa using hl
    simp only [Pl.d, hds]
    have hz : sizeLine = 16777216 := sizeLine_eq
    obtain ⟨c, p'⟩ := a
    have dp := Pa.dep_le p'
    have hroom : 200 ≤ (Den tbl m).room := by rw [den_room]; omega
    have cut : ∀ (x : Dl.D), cutD (A.map itD ++ x :: B.map itD) none (some (s.at_ : Int)) = A.map itD := fun x => cut_mid (B := x :: B.map itD) hlA
    cases s with
    | swap i =>
      simp only [Mv.at_] at hl hlA cut
      show endR (b__law_step (Den tbl m) [.dat (.tup (A.map itD ++ .tup [.int c, p'.d] :: B.map itD)), .dat (.tup (.str "swap" :: .tup [] :: .int i :: [])), .un, .un, .un, .un, .un, .un, .un, .un] w) = _
      rw [ls_pre hlA]
      cases B with
      | nil =>
        have q2 : (i : Int) + 1 = (A.length : Int) + 1 := by omega
        have q3 : A.length = i := hl
        refine (congrArg endR (seq_rt (r := .dat .non) (w' := w) (by simp [ls6, at_0, q3]))).trans ?_
        simp [mid, optL]
      | cons y B =>
        have a1 := at_mid (A := A.map itD) (x := Dl.D.tup [.int c, p'.d]) (B := itD y :: B.map itD) hlA
        have a2 := at_mid1 (A := A.map itD) (x := Dl.D.tup [.int c, p'.d]) (y := itD y) (B := B.map itD) hlA
        have c1 := cut_mid (A := A.map itD) (B := Dl.D.tup [.int c, p'.d] :: itD y :: B.map itD) hlA
        have c2 := cut_mid2 (A := A.map itD) (x := Dl.D.tup [.int c, p'.d]) (y := itD y) (B := B.map itD) hlA
        have q : ¬ (i : Int) + 1 = (A.length : Int) + (B.length + 1 + 1) := by omega
        simp only [itD] at a1 a2 c1 c2
        have z1 : A.length + 2 ≤ sizeLine := by simp at is7; omega
        have z2 : A.length + 2 + B.length ≤ sizeLine := by simp at is7; omega
        refine (congrArg endR (seq_rt (r := .dat (.tup (A.map itD ++ [itD y, itD (c, p')] ++ B.map itD))) (w' := w) (by simp [ls6, at_0, q, a1, a2, c1, c2, z1, z2, s_ne1, s_ne5, itD]))).trans ?_
        simp [mid, optL, Mv.wide]
    | join i =>
      simp only [Mv.at_] at hl hlA cut
      show endR (b__law_step (Den tbl m) [.dat (.tup (A.map itD ++ .tup [.int c, p'.d] :: B.map itD)), .dat (.tup (.str "join" :: .tup [] :: .int i :: [])), .un, .un, .un, .un, .un, .un, .un, .un] w) = _
      rw [ls_pre hlA]
      cases B with
      | nil =>
        have q3 : A.length = i := hl
        refine (congrArg endR (seq_rt (r := .dat .non) (w' := w) (by simp [ls6, at_0, q3, s_ne1, s_ne2, s_ne3, s_ne4, s_ne5, s_ne6, s_ne7, s_ne8, s_ne9, s_ne10, s_ne11, s_ne12, s_ne13, s_ne14, s_ne15, s_ne16, s_ne17, s_ne18, s_ne19, s_ne20]))).trans ?_
        simp [mid, optL]
      | cons y B =>
        have a1 := at_mid (A := A.map itD) (x := Dl.D.tup [.int c, p'.d]) (B := itD y :: B.map itD) hlA
        have a2 := at_mid1 (A := A.map itD) (x := Dl.D.tup [.int c, p'.d]) (y := itD y) (B := B.map itD) hlA
        have c1 := cut_mid (A := A.map itD) (B := Dl.D.tup [.int c, p'.d] :: itD y :: B.map itD) hlA
        have c2 := cut_mid2 (A := A.map itD) (x := Dl.D.tup [.int c, p'.d]) (y := itD y) (B := B.map itD) hlA
        have q : ¬ (i : Int) + 1 = (A.length : Int) + (B.length + 1 + 1) := by omega
        simp only [itD] at a1 a2 c1 c2
        have z1 : A.length + 1 ≤ sizeLine := by simp at is7; omega
        have z2 : A.length + 1 + B.length ≤ sizeLine := by simp at is7; omega
        have hd2 : p'.d.dep ≤ (Den tbl m).room := by simp only at is6; omega
        have g : gNe (Den tbl m).room y.2.d p'.d = some (.dat (.bl (!beqP y.2 p'))) := by
          unfold gNe
          rw [if_pos (by omega)]
          rfl
        by_cases hb : beqP y.2 p' = true
        · refine (congrArg endR (seq_rt (r := .dat (.tup (A.map itD ++ [itD (c + y.1, p')] ++ B.map itD))) (w' := w) (by simp [ls6, at_0, at_1, q, a1, a2, c1, c2, z1, z2, s_ne1, s_ne2, s_ne3, s_ne4, s_ne5, s_ne6, s_ne7, s_ne8, s_ne9, s_ne10, s_ne11, s_ne12, s_ne13, s_ne14, s_ne15, s_ne16, s_ne17, s_ne18, s_ne19, s_ne20, itD, g, hb]))).trans ?_
          simp [mid, optL, Mv.wide, hb]
        · refine (congrArg endR (seq_rt (r := .dat .non) (w' := w) (by simp [ls6, at_0, at_1, q, a1, a2, s_ne1, s_ne2, s_ne3, s_ne4, s_ne5, s_ne6, s_ne7, s_ne8, s_ne9, s_ne10, s_ne11, s_ne12, s_ne13, s_ne14, s_ne15, s_ne16, s_ne17, s_ne18, s_ne19, s_ne20, itD, g, hb]))).trans ?_
          simp [mid, optL, Mv.wide, hb]
    | split i k =>
      simp only [Mv.at_] at hl hlA cut
      show endR (b__law_step (Den tbl m) [.dat (.tup (A.map itD ++ .tup [.int c, p'.d] :: B.map itD)), .dat (.tup (.str "split" :: .tup [] :: .int i :: [.int k])), .un, .un, .un, .un, .un, .un, .un, .un] w) = _
      rw [ls_pre hlA]
      refine (congrArg endR (seq_nx (w' := w) (by simp [ls6, at_0, s_ne1, s_ne2, s_ne3, s_ne4, s_ne5, s_ne6, s_ne7, s_ne8, s_ne9, s_ne10, s_ne11, s_ne12, s_ne13, s_ne14, s_ne15, s_ne16, s_ne17, s_ne18, s_ne19, s_ne20]; rfl))).trans ?_
      have c1 := cut_mid (A := A.map itD) (B := Dl.D.tup [.int c, p'.d] :: B.map itD) hlA
      have c2 := cut_mid1 (A := A.map itD) (x := Dl.D.tup [.int c, p'.d]) (B := B.map itD) hlA
      have z1 : A.length + 2 ≤ sizeLine := by omega
      have z2 : A.length + 2 + B.length ≤ sizeLine := by omega
      by_cases h1 : 1 ≤ k ∧ k < c
      · have q1 : ¬ (k : Int) < 1 := by omega
        have q2 : ¬ (c : Int) ≤ k := by omega
        have q2' : ¬ c ≤ k := by omega
        have q3 : (c : Int) - k = ((c - k : Nat) : Int) := by omega
        refine (congrArg endR (seq_rt (r := .dat (.tup (A.map itD ++ [itD (k, p'), itD (c - k, p')] ++ B.map itD))) (w' := w) (by simp [ls7, at_0, at_3, q1, q2, q2', q3, c1, c2, z1, z2, s_ne1, s_ne2, s_ne3, s_ne4, s_ne5, s_ne6, s_ne7, s_ne8, s_ne9, s_ne10, s_ne11, s_ne12, s_ne13, s_ne14, s_ne15, s_ne16, s_ne17, s_ne18, s_ne19, s_ne20, itD]))).trans ?_
        simp [mid, optL, Mv.wide, h1]
      · refine (congrArg endR (seq_rt (r := .dat .non) (w' := w) ?_)).trans ?_
        · by_cases q1 : (k : Int) < 1
          · simp [ls7, at_0, at_3, q1, s_ne1, s_ne2, s_ne3, s_ne4, s_ne5, s_ne6, s_ne7, s_ne8, s_ne9, s_ne10, s_ne11, s_ne12, s_ne13, s_ne14, s_ne15, s_ne16, s_ne17, s_ne18, s_ne19, s_ne20]
          · have q2 : (c : Int) ≤ k := by omega
            have q2' : c ≤ k := by omega
            simp [ls7, at_0, at_3, q1, q2, q2', s_ne1, s_ne2, s_ne3, s_ne4, s_ne5, s_ne6, s_ne7, s_ne8, s_ne9, s_ne10, s_ne11, s_ne12, s_ne13, s_ne14, s_ne15, s_ne16, s_ne17, s_ne18, s_ne19, s_ne20]
        · simp [mid, optL, Mv.wide, h1]
    | fold i =>
      simp only [Mv.at_] at hl hlA cut
      show endR (b__law_step (Den tbl m) [.dat (.tup (A.map itD ++ .tup [.int c, p'.d] :: B.map itD)), .dat (.tup (.str "fold" :: .tup [] :: .int i :: [])), .un, .un, .un, .un, .un, .un, .un, .un] w) = _
      rw [ls_pre hlA]
      refine (congrArg endR (seq_nx (w' := w) (by simp [ls6, at_0, s_ne1, s_ne2, s_ne3, s_ne4, s_ne5, s_ne6, s_ne7, s_ne8, s_ne9, s_ne10, s_ne11, s_ne12, s_ne13, s_ne14, s_ne15, s_ne16, s_ne17, s_ne18, s_ne19, s_ne20]; rfl))).trans ?_
      refine (congrArg endR (seq_nx (w' := w) (by simp [ls7, at_0, s_ne1, s_ne2, s_ne3, s_ne4, s_ne5, s_ne6, s_ne7, s_ne8, s_ne9, s_ne10, s_ne11, s_ne12, s_ne13, s_ne14, s_ne15, s_ne16, s_ne17, s_ne18, s_ne19, s_ne20]; rfl))).trans ?_
      cases p' with
      | name y => refine (congrArg endR (seq_rt (r := .dat .non) (w' := w) (by simp [ls8, Pa.d, at_0, ne_7]))).trans ?_; simp [mid, optL]
      | mark y => refine (congrArg endR (seq_rt (r := .dat .non) (w' := w) (by simp [ls8, Pa.d, at_0, ne_9]))).trans ?_; simp [mid, optL]
      | got y => refine (congrArg endR (seq_rt (r := .dat .non) (w' := w) (by simp [ls8, Pa.d, at_0, ne_11]))).trans ?_; simp [mid, optL]
      | letter y b => refine (congrArg endR (seq_rt (r := .dat .non) (w' := w) (by simp [ls8, Pa.d, at_0, ne_4]))).trans ?_; simp [mid, optL]
      | wait x b =>
        refine (congrArg endR (seq_nx (w' := w) (by simp [ls8, Pa.d, at_0]; rfl))).trans ?_
        refine (congrArg endR (seq_nx (w' := w) (by simp [ls9, at_0, s_ne1, s_ne2, s_ne3, s_ne4, s_ne5, s_ne6, s_ne7, s_ne8, s_ne9, s_ne10, s_ne11, s_ne12, s_ne13, s_ne14, s_ne15, s_ne16, s_ne17, s_ne18, s_ne19, s_ne20]; rfl))).trans ?_
        cases er : b.L.reverse with
        | nil =>
          have eb : b.ds = [] := by rw [ds_L, show b.L = [] by simpa using er]; rfl
          refine (congrArg endR (seq_rt (r := .dat .non) (w' := w) (by simp [ls10, at_2, Pa.d, eb]))).trans ?_
          simp [mid, er, optL]
        | cons mq r =>
          obtain ⟨mm, q⟩ := mq
          have eb := rev_cons er
          have ebd : b.ds = r.reverse.map itD ++ [itD (mm, q)] := by rw [ds_L, eb]; simp
          have hR : r.length = r.reverse.length := by simp
          have emid : mid (c, Pa.wait x b) B.head? (.fold i) = if beqP q (.wait x (ofL r.reverse).up) = true then some [(c * (mm + 1), .wait x (ofL r.reverse))] else none := by
            simp only [mid, er]
          rw [emid]
          generalize r.reverse = R at *
          have hww : b.within.length = wiL R + (1 + q.within.length) := by rw [within_L, eb]; simp
          have hdd : b.dep = max (deL R) q.dep := by rw [dep_L, eb, deL_app]; simp [deL]
          have hsz : b.size = szL R + mm * q.size := by rw [size_L, eb]; simp
          simp only [Pa.size, Pa.within, Pa.dep] at is4 is5 is6
          have qp := Nat.mul_le_mul_left mm (psize_pos q)
          have l4 := lim_4000
          have dq := Pa.dep_le q
          have f := c_lraise T (w := w) (p := ofL R) (n := m) (by rw [dep_ofL]; omega) (by rw [within_ofL]; omega)
          have hne : ¬ ((R.length : Int) + 1 = 0) := by omega
          refine (congrArg endR (seq_nx (w' := w) (by simp [ls10, at_2, Pa.d, ebd, itD]; rfl))).trans ?_
          have c3 := cut_mid (A := R.map itD) (B := [itD (mm, q)]) (i := R.length) (by simp)
          have a3 := at_mid (A := R.map itD) (x := itD (mm, q)) (B := []) (i := R.length) (by simp)
          have e11 : (R.length : Int) + 1 - 1 = R.length := by omega
          simp only [itD] at c3 a3
          refine (congrArg endR (seq_nx (w' := w) (by simp [ls11, at_2, Pa.d, ebd, itD, e11, c3]; rfl))).trans ?_
          refine (congrArg endR (seq_nx (w' := w) (by simp [ls12, at_2, Pa.d, ebd, e11, a3, itD]; rfl))).trans ?_
          have g : gNe (Den tbl m).room q.d (.tup [.str "wait", .str x, .tup (ofL R).up.ds]) = some (.dat (.bl (!beqP q (.wait x (ofL R).up)))) := by
            unfold gNe
            rw [if_pos (by omega)]
            rfl
          have mo : mulOk (c : Int) ((mm : Int) + 1) = true := mulOk_nat (i := c) (j := mm + 1) (by simp only at is3; omega) (by omega)
          have c1 := cut_mid (A := A.map itD) (B := Dl.D.tup [.int c, .tup [.str "wait", .str x, .tup (R.map itD ++ [itD (mm, q)])]] :: B.map itD) hlA
          have c2 := cut_mid1 (A := A.map itD) (x := Dl.D.tup [.int c, .tup [.str "wait", .str x, .tup (R.map itD ++ [itD (mm, q)])]]) (B := B.map itD) hlA
          have z1 : A.length + 1 ≤ sizeLine := by omega
          have z2 : A.length + 1 + B.length ≤ sizeLine := by omega
          have dr : (ofL R).ds = R.map itD := ds_ofL R
          simp only [Pl.d, dr] at f
          simp only [itD] at c1 c2 ebd
          by_cases hb : beqP q (.wait x (ofL R).up) = true
          · refine (congrArg endR (seq_nx (w' := w) (by simp [ls13, at_1, Pa.d, f, g, hb]; rfl))).trans ?_
            simp [ls14, at_1, Pa.d, ebd, hb, mo, c1, c2, z1, z2, optL, Mv.wide, itD, dr]
          · refine (congrArg endR (seq_rt (r := .dat .non) (w' := w) (by simp [ls13, at_1, Pa.d, f, g, hb]))).trans ?_
            simp [hb, optL]
    | unfold i k =>
      simp only [Mv.at_] at hl hlA cut
      show endR (b__law_step (Den tbl m) [.dat (.tup (A.map itD ++ .tup [.int c, p'.d] :: B.map itD)), .dat (.tup (.str "unfold" :: .tup [] :: .int i :: [.int k])), .un, .un, .un, .un, .un, .un, .un, .un] w) = _
      rw [ls_pre hlA]
      refine (congrArg endR (seq_nx (w' := w) (by simp [ls6, at_0, s_ne1, s_ne2, s_ne3, s_ne4, s_ne5, s_ne6, s_ne7, s_ne8, s_ne9, s_ne10, s_ne11, s_ne12, s_ne13, s_ne14, s_ne15, s_ne16, s_ne17, s_ne18, s_ne19, s_ne20]; rfl))).trans ?_
      refine (congrArg endR (seq_nx (w' := w) (by simp [ls7, at_0, s_ne1, s_ne2, s_ne3, s_ne4, s_ne5, s_ne6, s_ne7, s_ne8, s_ne9, s_ne10, s_ne11, s_ne12, s_ne13, s_ne14, s_ne15, s_ne16, s_ne17, s_ne18, s_ne19, s_ne20]; rfl))).trans ?_
      cases p' with
      | name y => refine (congrArg endR (seq_rt (r := .dat .non) (w' := w) (by simp [ls8, Pa.d, at_0, ne_7]))).trans ?_; simp [mid, optL]
      | mark y => refine (congrArg endR (seq_rt (r := .dat .non) (w' := w) (by simp [ls8, Pa.d, at_0, ne_9]))).trans ?_; simp [mid, optL]
      | got y => refine (congrArg endR (seq_rt (r := .dat .non) (w' := w) (by simp [ls8, Pa.d, at_0, ne_11]))).trans ?_; simp [mid, optL]
      | letter y b => refine (congrArg endR (seq_rt (r := .dat .non) (w' := w) (by simp [ls8, Pa.d, at_0, ne_4]))).trans ?_; simp [mid, optL]
      | wait x b =>
        refine (congrArg endR (seq_nx (w' := w) (by simp [ls8, Pa.d, at_0]; rfl))).trans ?_
        simp only [Pa.size, Pa.within, Pa.dep] at is4 is5 is6
        have f := c_lraise T (w := w) (p := b) (n := m) (by omega) (by omega)
        simp only [Pl.d] at f
        have c1 := cut_mid (A := A.map itD) (B := Dl.D.tup [.int c, .tup [.str "wait", .str x, .tup b.ds]] :: B.map itD) hlA
        have c2 := cut_mid1 (A := A.map itD) (x := Dl.D.tup [.int c, .tup [.str "wait", .str x, .tup b.ds]]) (B := B.map itD) hlA
        have z1 : A.length + 1 ≤ sizeLine := by omega
        have z2 : A.length + 1 + B.length ≤ sizeLine := by omega
        have z3 : b.ds.length + 1 ≤ sizeLine := by have := len_within b; omega
        by_cases h1 : 2 ≤ k
        · have q1 : ¬ (k : Int) < 2 := by omega
          have q2 : (0 : Int) < k := by omega
          have q2' : 0 < k := by omega
          have q3 : (c : Int) % (k : Int) = ((c % k : Nat) : Int) := by norm_cast
          have q4 : (c : Int) / (k : Int) = ((c / k : Nat) : Int) := by norm_cast
          have q5 : ((k - 1 : Nat) : Int) = (k : Int) - 1 := by omega
          by_cases h2 : c % k = 0
          · have hkc : k ≤ capN := by
              have : k ≤ c := Nat.le_of_dvd (show 0 < c by simp only at is2; omega) (Nat.dvd_of_mod_eq_zero h2)
              simp only at is3
              omega
            have q6 : (k : Int) < 1073741824 ∨ k.log2 < 8990 := .inr (log_of hkc)
            have q7 : ((c % k : Nat) : Int) = 0 := by rw [h2]; rfl
            have q8 : (c : Int) % (k : Int) = 0 := by rw [q3, q7]
            refine (congrArg endR (seq_rt (r := .dat (.tup (A.map itD ++ [itD (c / k, .wait x (b.app (.cons (k - 1) (.wait x b.up) .nil)))] ++ B.map itD))) (w' := w) ?_)).trans ?_
            · simp only [itD, Pa.d, app_ds, Pl.ds, q5, ← q4]
              simp [ls9, at_0, at_1, at_2, at_3, q1, q2, q2', q6, q8, f, c1, c2, z1, z2, z3, Pa.d]
            · simp [mid, optL, Mv.wide, h1, h2]
          · have q7 : (0 : Int) < (c : Int) % (k : Int) := by rw [q3]; omega
            refine (congrArg endR (seq_rt (r := .dat .non) (w' := w) (by simp [ls9, at_0, at_1, at_2, at_3, q1, q2, q2', q7]))).trans ?_
            simp [mid, optL, Mv.wide, h1, h2]
        · have q1 : (k : Int) < 2 := by omega
          refine (congrArg endR (seq_rt (r := .dat .non) (w' := w) (by simp [ls9, at_0, at_1, at_2, at_3, q1]))).trans ?_
          simp [mid, optL, Mv.wide, h1]
end
end Dl
/-! L27b: the law's step at a place; the step that takes it back. -/
namespace Dl
open PySem PySem.Spec PyProof.Rows L2 NdefX
section
variable {tbl : Nat → Option DefB} (T : HasLS27 tbl) {w : World}
include T
theorem c_lstep {s : Mv} : ∀ (pl : List Nat) (p p' : Pl) (n : Nat), Dim p → stepAt p pl s = some p' → pl.length ≤ 100 → 80 + pl.length ≤ n → (Den tbl n).call 89 [.dat p.d, .dat (s.d pl)] w = .ok (.dat p'.d) w
  | [], p, p', n, D, h, _, hn => by
    unfold stepAt at h
    cases e : here p.L s with
    | none => rw [e] at h; cases h
    | some L' =>
      rw [e] at h
      simp only [Option.map_some, Option.some.injEq] at h
      subst h
      have hat : s.at_ < p.L.length := by
        unfold here at e
        cases ea : p.L[s.at_]? with
        | none => rw [ea] at e; cases e
        | some a => exact (List.getElem?_eq_some_iff.mp ea).1
      rw [c_lstep0 T D hat (by simpa using hn), e]
      simp [optL, ds_ofL]
  | i :: pl, p, p', n, D, h, hpl, hn => by
    simp only [List.length_cons] at hn hpl
    obtain ⟨m, rfl, hm⟩ := succ_of (k := 80 + pl.length) (n := n) (by omega)
    rw [den_succ T.t89]
    unfold stepAt at h
    cases e : p.L[i]? with
    | none => rw [e] at h; cases h
    | some cq =>
      obtain ⟨c, q⟩ := cq
      rw [e] at h
      simp only at h
      cases ew : within1 q with
      | none => rw [ew] at h; cases h
      | some bf =>
        obtain ⟨b, f⟩ := bf
        rw [ew] at h
        simp only at h
        cases es : stepAt b pl s with
        | none => rw [es] at h; cases h
        | some b' =>
          rw [es] at h
          simp only [Option.map_some, Option.some.injEq] at h
          subst h
          obtain ⟨z, x, q1, q2⟩ := within1_d ew
          have ih : (Den tbl m).call 89 [.dat b.d, .dat (s.d pl)] w = .ok (.dat b'.d) w := c_lstep pl b b' m (D.inner e ew) es (by omega) hm
          have z7 := (D.item (cut_at e).1).2.2.2.2.2.2.2
          obtain ⟨ec, hl⟩ := cut_at e
          generalize p.L.take i = A at *
          generalize p.L.drop (i + 1) = B at *
          have hds : p.ds = A.map itD ++ Dl.D.tup [.int c, .tup [.str z, .str x, .tup b.ds]] :: B.map itD := by rw [ds_L, ec]; simp [itD, q1]
          have hd2 : (ofL (A ++ (c, f b') :: B)).ds = A.map itD ++ Dl.D.tup [.int c, .tup [.str z, .str x, .tup b'.ds]] :: B.map itD := by rw [ds_ofL]; simp [itD, q2]
          have hlA : (A.map itD).length = i := by simpa using hl
          have a1 := at_mid (A := A.map itD) (x := Dl.D.tup [.int c, .tup [.str z, .str x, .tup b.ds]]) (B := B.map itD) hlA
          have c1 := cut_mid (A := A.map itD) (B := Dl.D.tup [.int c, .tup [.str z, .str x, .tup b.ds]] :: B.map itD) hlA
          have c2 := cut_mid1 (A := A.map itD) (x := Dl.D.tup [.int c, .tup [.str z, .str x, .tup b.ds]]) (B := B.map itD) hlA
          have z1 : A.length + 1 ≤ sizeLine := by rw [sizeLine_eq]; omega
          have z2 : A.length + 1 + B.length ≤ sizeLine := by rw [sizeLine_eq]; omega
          have z3 : 2 + s.args.length ≤ sizeLine := by rw [sizeLine_eq]; cases s <;> simp [Mv.args]
          have hi : ¬ ((A.length : Int) + (B.length + 1) ≤ i) := by omega
          simp only [Pl.d, Mv.d] at ih
          show endR (b__law_step (Den tbl m) [.dat (.tup p.ds), .dat (s.d (i :: pl)), .un, .un, .un, .un, .un, .un, .un, .un] w) = _
          rw [hds, ls_eq]
          simp only [Mv.d, natsD, List.map_cons] at ih ⊢
          refine (congrArg endR (seq_nx (w' := w) (by simp [ls1, at_1]; rfl))).trans ?_
          refine (congrArg endR (seq_rt (r := .dat (ofL (A ++ (c, f b') :: B)).d) (w' := w) ?_)).trans ?_
          · simp only [Pl.d, hd2]
            simp [ls2, at_0, at_1, at_2, a1, c1, c2, cut_1, cut_2, ih, z1, z2, z3, hi, Dl.D.isN]
          · rfl
end
/-! ### the plan at a place -/
def subAt : Pl → List Nat → Option Pl
  | p, [] => some p
  | p, i :: pl => match p.L[i]? with
    | some (_, q) => (match within1 q with
      | some (b, _) => subAt b pl
      | none => none)
    | none => none
theorem step_sub {s : Mv} : ∀ (pl : List Nat) (p q : Pl) {L' : List It}, subAt p pl = some q → here q.L s = some L' → ∃ p', stepAt p pl s = some p'
  | [], p, q, L', h, e => by
    cases h
    exact ⟨ofL L', by unfold stepAt; rw [e]; rfl⟩
  | i :: pl, p, q, L', h, e => by
    unfold subAt at h
    cases e1 : p.L[i]? with
    | none => rw [e1] at h; cases h
    | some cq =>
      obtain ⟨c, r⟩ := cq
      rw [e1] at h
      simp only at h
      cases ew : within1 r with
      | none => rw [ew] at h; cases h
      | some bf =>
        obtain ⟨b, f⟩ := bf
        rw [ew] at h
        obtain ⟨b', eb⟩ := step_sub pl b q h e
        refine ⟨ofL (p.L.take i ++ (c, f b') :: p.L.drop (i + 1)), ?_⟩
        unfold stepAt
        rw [e1]
        simp only
        rw [ew]
        simp only
        rw [eb]
        rfl
theorem undo_sub {s : Mv} : ∀ (pl : List Nat) (p q : Pl), subAt p pl = some q → undoAt p pl s = undoS q.L s
  | [], p, q, h => by cases h; rfl
  | i :: pl, p, q, h => by
    unfold subAt at h
    cases e1 : p.L[i]? with
    | none => rw [e1] at h; cases h
    | some cq =>
      obtain ⟨c, r⟩ := cq
      rw [e1] at h
      simp only at h
      cases ew : within1 r with
      | none => rw [ew] at h; cases h
      | some bf =>
        obtain ⟨b, f⟩ := bf
        rw [ew] at h
        unfold undoAt
        rw [e1]
        simp only
        rw [ew]
        exact undo_sub pl b q h
theorem step_has_sub {s : Mv} : ∀ (pl : List Nat) (p p' : Pl), stepAt p pl s = some p' → ∃ q L', subAt p pl = some q ∧ here q.L s = some L'
  | [], p, p', h => by
    unfold stepAt at h
    cases e : here p.L s with
    | none => rw [e] at h; cases h
    | some L' => exact ⟨p, L', rfl, e⟩
  | i :: pl, p, p', h => by
    unfold stepAt at h
    cases e : p.L[i]? with
    | none => rw [e] at h; cases h
    | some cq =>
      obtain ⟨c, q⟩ := cq
      rw [e] at h
      simp only at h
      cases ew : within1 q with
      | none => rw [ew] at h; cases h
      | some bf =>
        obtain ⟨b, f⟩ := bf
        rw [ew] at h
        simp only at h
        cases es : stepAt b pl s with
        | none => rw [es] at h; cases h
        | some b' =>
          obtain ⟨q', L', h1, h2⟩ := step_has_sub pl b b' es
          refine ⟨q', L', ?_, h2⟩
          unfold subAt
          rw [e]
          simp only
          rw [ew]
          exact h1
theorem sub_snoc : ∀ (pl : List Nat) (p q b : Pl) {i c : Nat} {r : Pa} {f : Pl → Pa}, subAt p pl = some q → q.L[i]? = some (c, r) → within1 r = some (b, f) → subAt p (pl ++ [i]) = some b
  | [], p, q, b, i, c, r, f, h, e, ew => by
    cases h
    show (match p.L[i]? with
    | some (_, q) => (match within1 q with
      | some (b, _) => subAt b []
      | none => none)
    | none => none) = _
    rw [e]
    simp only
    rw [ew]
    rfl
  | j :: pl, p, q, b, i, c, r, f, h, e, ew => by
    unfold subAt at h
    cases e1 : p.L[j]? with
    | none => rw [e1] at h; cases h
    | some cq =>
      obtain ⟨c', r'⟩ := cq
      rw [e1] at h
      simp only at h
      cases ew1 : within1 r' with
      | none => rw [ew1] at h; cases h
      | some bf =>
        obtain ⟨b1, f1⟩ := bf
        rw [ew1] at h
        show (match p.L[j]? with
          | some (_, q) => (match within1 q with
            | some (b, _) => subAt b (pl ++ [i])
            | none => none)
          | none => none) = _
        rw [e1]
        simp only
        rw [ew1]
        exact sub_snoc pl b1 q b h e ew
theorem Dim.sub : ∀ (pl : List Nat) {p q : Pl}, Dim p → subAt p pl = some q → Dim q
  | [], p, q, D, h => by cases h; exact D
  | i :: pl, p, q, D, h => by
    unfold subAt at h
    cases e1 : p.L[i]? with
    | none => rw [e1] at h; cases h
    | some cq =>
      obtain ⟨c, r⟩ := cq
      rw [e1] at h
      simp only at h
      cases ew : within1 r with
      | none => rw [ew] at h; cases h
      | some bf =>
        obtain ⟨b, f⟩ := bf
        rw [ew] at h
        exact Dim.sub pl (D.inner e1 ew) h
structure HasU (tbl : Nat → Option DefB) : Prop where
  t97 : tbl 97 = some ⟨2, 5, b__law_undoing⟩
section
variable {tbl : Nat → Option DefB} (T : HasU tbl) {w : World}
theorem at_item {q : Pl} {i c : Nat} {r : Pa} (e : q.L[i]? = some (c, r)) : atI q.ds (i : Int) = some (.tup [.int c, r.d]) := by
  obtain ⟨ec, hl⟩ := cut_at e
  rw [ds_L, ec]
  rw [List.map_append, List.map_cons]
  exact at_mid (by simpa using hl)
theorem un_loop : ∀ (pl : List Nat) (p q : Pl) (S0 S1 : Sl) (s3 s4 : Sl), subAt p pl = some q → ∃ s3', forGo (gN 3) (sSet 2 (dBin gIx (dBin gIx (dBin gIx (dName 2) (dName 3)) (dC (.int 1))) (dC (.int 2)))) (natsD pl) [S0, S1, .dat p.d, s3, s4] w = .ok (.nx [S0, S1, .dat q.d, s3', s4]) w
  | [], p, q, S0, S1, s3, s4, h => by cases h; exact ⟨s3, rfl⟩
  | i :: pl, p, q, S0, S1, s3, s4, h => by
    unfold subAt at h
    cases e1 : p.L[i]? with
    | none => rw [e1] at h; cases h
    | some cq =>
      obtain ⟨c, r⟩ := cq
      rw [e1] at h
      simp only at h
      cases ew : within1 r with
      | none => rw [ew] at h; cases h
      | some bf =>
        obtain ⟨b, f⟩ := bf
        rw [ew] at h
        obtain ⟨s3', ih⟩ := un_loop pl b q S0 S1 (.dat (.int i)) s4 h
        obtain ⟨z, x, q1, _⟩ := within1_d ew
        have a1 := at_item e1
        rw [q1] at a1
        refine ⟨s3', ?_⟩
        simp only [natsD, List.map_cons, Pl.d] at ih ⊢
        simp [for_cons, a1, at_1, at_2, ih]
include T
theorem c_undoing {p p' : Pl} {s : Mv} {pl : List Nat} {n : Nat} (D : Dim p) (h : stepAt p pl s = some p') (hn : 1 ≤ n) : (Den tbl n).call 97 [.dat p.d, .dat (s.d pl)] w = .ok (.dat ((undoAt p pl s).d pl)) w := by
  obtain ⟨m, rfl, hm⟩ := succ_of (k := 0) (n := n) hn
  rw [den_succ T.t97]
  obtain ⟨q, L', hs, hh⟩ := step_has_sub pl p p' h
  rw [undo_sub pl p q hs]
  obtain ⟨s3', hl⟩ := un_loop (w := w) pl p q (.dat p.d) (.dat (s.d pl)) .un .un hs
  obtain ⟨a, ea⟩ : ∃ a, q.L[s.at_]? = some a := by
    unfold here at hh
    cases ea : q.L[s.at_]? with
    | none => rw [ea] at hh; cases hh
    | some a => exact ⟨a, rfl⟩
  obtain ⟨c, r⟩ := a
  have a1 := at_item ea
  simp only [Pl.d] at hl a1 ⊢
  cases s with
  | swap i =>
    simp only [Mv.d, Mv.nm, Mv.args, Mv.at_] at hl a1 ⊢
    simp [runB, initE, toSl, b__law_undoing, at_0, at_1, at_2, hl, undoS, Mv.d, Mv.nm, Mv.args]
  | join i =>
    simp only [Mv.d, Mv.nm, Mv.args, Mv.at_] at hl a1 ea ⊢
    simp [runB, initE, toSl, b__law_undoing, at_0, at_1, at_2, hl, a1, undoS, ea, Mv.d, Mv.nm, Mv.args, s_ne1, s_ne2, s_ne3, s_ne4, s_ne5, s_ne6, s_ne7, s_ne8, s_ne9, s_ne10, s_ne11, s_ne12, s_ne13, s_ne14, s_ne15, s_ne16, s_ne17, s_ne18, s_ne19, s_ne20]
  | split i k =>
    simp only [Mv.d, Mv.nm, Mv.args, Mv.at_] at hl a1 ⊢
    simp [runB, initE, toSl, b__law_undoing, at_0, at_1, at_2, hl, a1, undoS, Mv.d, Mv.nm, Mv.args, s_ne1, s_ne2, s_ne3, s_ne4, s_ne5, s_ne6, s_ne7, s_ne8, s_ne9, s_ne10, s_ne11, s_ne12, s_ne13, s_ne14, s_ne15, s_ne16, s_ne17, s_ne18, s_ne19, s_ne20]
  | unfold i k =>
    simp only [Mv.d, Mv.nm, Mv.args, Mv.at_] at hl a1 ⊢
    simp [runB, initE, toSl, b__law_undoing, at_0, at_1, at_2, hl, a1, undoS, Mv.d, Mv.nm, Mv.args, s_ne1, s_ne2, s_ne3, s_ne4, s_ne5, s_ne6, s_ne7, s_ne8, s_ne9, s_ne10, s_ne11, s_ne12, s_ne13, s_ne14, s_ne15, s_ne16, s_ne17, s_ne18, s_ne19, s_ne20]
  | fold i =>
    simp only [Mv.d, Mv.nm, Mv.args, Mv.at_] at hl a1 ea ⊢
    unfold here at hh
    simp only [Mv.at_] at hh
    rw [ea] at hh
    cases r with
    | wait x b =>
      simp only [mid] at hh
      cases er : b.L.reverse with
      | nil => rw [er] at hh; cases hh
      | cons mq r =>
        obtain ⟨mm, qq⟩ := mq
        have eb := rev_cons er
        have ebd : b.ds = r.reverse.map itD ++ [Dl.D.tup [.int mm, qq.d]] := by rw [ds_L, eb]; simp [itD]
        have a3 := at_mid (A := r.reverse.map itD) (x := Dl.D.tup [.int mm, qq.d]) (B := []) (i := r.length) (by simp)
        have e11 : (r.length : Int) + 1 - 1 = r.length := by omega
        simp only [Pa.d, ebd] at a1
        have hg : b.L.getLast? = some (mm, qq) := by rw [eb]; simp
        simp only [List.map_reverse] at a1 a3
        simp [runB, initE, toSl, b__law_undoing, at_0, at_1, at_2, hl, a1, a3, e11, undoS, ea, hg, Mv.d, Mv.nm, Mv.args, s_ne1, s_ne2, s_ne3, s_ne4, s_ne5, s_ne6, s_ne7, s_ne8, s_ne9, s_ne10, s_ne11, s_ne12, s_ne13, s_ne14, s_ne15, s_ne16, s_ne17, s_ne18, s_ne19, s_ne20]
    | name x => simp [mid] at hh
    | mark x => simp [mid] at hh
    | got x => simp [mid] at hh
    | letter x b => simp [mid] at hh
end
end Dl
/-! L27c: drawn plans with marks among the labels. -/
namespace Dl
open PySem PySem.Spec PyProof.Rows L2 NdefX
abbrev lbD : List D := [.str "x", .str "y", .int 0]
structure HasLQ (tbl : Nat → Option DefB) : Prop extends HasPk tbl, HasLS tbl where
  t86 : tbl 86 = some ⟨5, 8, b__law_part_86⟩
  t87 : tbl 87 = some ⟨5, 9, b__law_plan_87⟩
/-- what a drawn part, a drawn plan is -/
def GotPb (tbl : Nat → Option DefB) (z : Str) (n l : Nat) : Prop := ∀ (k : Nat) (rest w : World), k + l < 1000 → TapeOk rest w → ∃ p : Pa, ∃ w', (Den tbl n).call 86 [.wref 0, .dat (.int l), .dat (.int k), .dat (.str z), .dat (.lst lbD)] w = .ok (.dat p.d) w' ∧ TapeOk rest w' ∧ p.ok k = true ∧ p.size ≤ l
def GotPm (tbl : Nat → Option DefB) (z : Str) (n l : Nat) : Prop := ∀ (k : Nat) (rest w : World), k + l < 1000 → TapeOk rest w → ∃ p : Pl, ∃ w', (Den tbl n).call 87 [.wref 0, .dat (.int l), .dat (.int k), .dat (.str z), .dat (.lst lbD)] w = .ok (.dat p.d) w' ∧ TapeOk rest w' ∧ p.ok k = true ∧ p.size ≤ l
abbrev lqBody (C : Cs) : Sd := (sSeq (sIf (tOr' (dTst (dBin (gLt C.room) (dName 1) (dC (.int 1)))) (dTst (dBin (gEq C.room) (dCall C 11 (aCons (dName 0) (aCons (dC (.int 5)) aNil))) (dC (.int 0))))) sBreak sNil)
  (sSeq (sSet 7 (dBin gIx (dLst (aCons (dC (.int 1)) (aCons (dC (.int 1)) (aCons (dC (.int 1)) (aCons (dC (.int 2)) (aCons (dC (.int 3)) aNil)))))) (dCall C 11 (aCons (dName 0) (aCons (dC (.int 5)) aNil)))))
  (sSeq (sIf (dTst (dBin (gGt C.room) (dName 7) (dName 1))) (sSet 7 (dC (.int 1))) sNil)
  (sSeq (sSet 8 (dCall C 86 (aCons (dName 0) (aCons (dBin gFdiv (dName 1) (dName 7)) (aCons (dName 2) (aCons (dName 3) (aCons (dName 4) aNil)))))))
  (sSeq (sAppend 5 (dTup (aCons (dName 7) (aCons (dName 8) aNil))))
  (sSet 1 (dBin gSub (dName 1) (dBin gMul (dName 7) (dCall C 38 (aCons (dName 8) aNil))))))))))
section
variable {tbl : Nat → Option DefB} (T : HasLQ tbl) {z : Str}
include T
theorem lq_loop {m : Nat} {l0 : Nat} (hl0 : l0 < 1000) (hm : 2 * l0 + 1 ≤ m) (hp : ∀ l, 1 ≤ l → l ≤ l0 → GotPb tbl z m l) {k : Nat} (hk : k + l0 < 1000) : ∀ (ts : List D) (l : Nat) (acc : List D) (rest w : World) (s6 s7 s8 : Sl), l ≤ l0 → acc.length + ts.length < 1000 → TapeOk rest w →
    ∃ q : Pl, ∃ s1 s6' s7' s8' w', forGo (gN 6) (lqBody (Den tbl m)) ts [.wref 0, .dat (.int l), .dat (.int k), .dat (.str z), .dat (.lst lbD), .own acc, s6, s7, s8] w = .ok (.nx [.wref 0, s1, .dat (.int k), .dat (.str z), .dat (.lst lbD), .own (acc ++ q.ds), s6', s7', s8']) w' ∧ TapeOk rest w' ∧ q.ok k = true ∧ q.size ≤ l
  | [], l, acc, rest, w, s6, s7, s8, hl, hz, ht => ⟨.nil, .dat (.int l), s6, s7, s8, w, by simp [Pl.ds], ht, by simp [Pl.ok], by simp [Pl.size]⟩
  | t :: ts, l, acc, rest, w, s6, s7, s8, hl, hz, ht => by
    simp only [List.length_cons] at hz
    by_cases h1 : l < 1
    · have h1' : (l : Int) < 1 := by omega
      exact ⟨.nil, .dat (.int l), .dat t, s7, s8, w, by simp [for_cons, h1', Pl.ds], ht, by simp [Pl.ok], by simp [Pl.size]⟩
    · have h1' : ¬ (l : Int) < 1 := by omega
      obtain ⟨r, w1, e1, t1, r1⟩ := c_pick T.toHasPk (n := m) (by omega) ht (m := 5) (by decide) (by decide)
      by_cases h0 : r = 0
      · subst h0
        exact ⟨.nil, .dat (.int l), .dat t, s7, s8, w1, by simp [for_cons, h1', Pl.ds, e1], t1, by simp [Pl.ok], by simp [Pl.size]⟩
      · obtain ⟨r2, w2, e2, t2, r2h⟩ := c_pick T.toHasPk (n := m) (by omega) t1 (m := 5) (by decide) (by decide)
        obtain ⟨c, ec, c1, c3⟩ := cnt5 r2h
        -- the count that is taken
        obtain ⟨c', hc', c1', c3', cl'⟩ : ∃ c' : Nat, (if (l : Int) < c then (1 : Int) else c) = c' ∧ 1 ≤ c' ∧ c' ≤ 3 ∧ c' ≤ l := by
          by_cases h : (l : Int) < c
          · exact ⟨1, by rw [if_pos h]; rfl, by omega, by omega, by omega⟩
          · exact ⟨c, by rw [if_neg h], c1, c3, by omega⟩
        obtain ⟨lq, hlq⟩ : ∃ lq : Nat, lq = l / c' := ⟨_, rfl⟩
        have hq : 1 ≤ lq := by
          rw [hlq, Nat.le_div_iff_mul_le (by omega)]
          omega
        have hql : lq ≤ l := by rw [hlq]; exact Nat.div_le_self _ _
        obtain ⟨p, w3, e3, t3, p1, p2⟩ := hp lq hq (Nat.le_trans hql hl) k rest w2 (by omega) t2
        have hmul : c' * p.size ≤ l := by
          have := Nat.mul_le_mul_left c' p2
          have := Nat.mul_div_le l c'
          rw [← hlq] at this
          omega
        have big := limN_big
        have e64 : 2 ^ 64 = 18446744073709551616 := by decide
        have hps : p.size < limN := by omega
        have hlim := (Pa.lim_size p k p1 hps).1
        have hdep := Pa.dep_size p k p1
        have e4 := c_lpsize T.toHasLS p m w3 (by omega) hlim
        have mo : mulOk (c' : Int) (p.size : Int) = true := mulOk_nat (by omega) hps
        obtain ⟨l2, hl2⟩ : ∃ l2 : Nat, l2 = l - c' * p.size := ⟨_, rfl⟩
        have hsub : (l : Int) - (c' : Int) * (p.size : Int) = (l2 : Int) := by
          rw [hl2, Int.ofNat_sub hmul]
          push_cast
          rfl
        have hdiv : (l : Int) / (c' : Int) = (lq : Int) := by rw [hlq]; norm_cast
        obtain ⟨q, s1, s6', s7', s8', w4, e5, t5, q1, q2⟩ := lq_loop hl0 hm hp hk ts l2 (acc ++ [.tup [.int c', p.d]]) rest w3 (.dat t) (.dat (.int c')) (.dat p.d) (by omega) (by simp; omega) t3
        have hz1 : acc.length < 16777216 := by omega
        have hc1 : (0 : Int) < c' := by omega
        have hc2 : (c' : Int) < 1073741824 := by omega
        refine ⟨.cons c' p q, s1, s6', s7', s8', w4, ?_, t5, by simp [Pl.ok, c1', p1, q1], by simp only [Pl.size]; omega⟩
        have h0' : ¬ (r : Int) = 0 := by omega
        simp only [List.append_assoc, List.cons_append, List.nil_append] at e5
        by_cases h : (l : Int) < c
        · rw [if_pos h] at hc'
          have e1' : c' = 1 := by omega
          subst e1'
          have hdiv1 : (l : Int) / 1 = (lq : Int) := hdiv
          have mo1 : mulOk 1 (p.size : Int) = true := mo
          have hsub1 : (l : Int) - (p.size : Int) = (l2 : Int) := by rw [← hsub]; simp
          simp only [Int.cast_ofNat_Int] at e5
          simp [for_cons, h1', e1, h0, e2, ec, h, hdiv1, e3, hz1, e4, mo1, hsub1]
          simp only [Int.ediv_one] at hdiv1
          simp [hdiv1, e3, hz1, e4, mo1, hsub1, e5, Pl.ds]
        · rw [if_neg h] at hc'
          have e1' : c = c' := by omega
          subst e1'
          simp only [for_cons, gN_ap]
          have hc1n : 0 < c := by omega
          simp [h1', e1, h0, e2, ec, h, hc1, hc2, hc1n, hdiv, e3, hz1, e4, mo, hsub, e5, Pl.ds]
theorem planb_of {m l : Nat} (hl : l < 1000) (hm : 2 * l + 1 ≤ m) (hp : ∀ l', 1 ≤ l' → l' ≤ l → GotPb tbl z m l') : GotPm tbl z (m + 1) l := by
  intro k rest w hk ht
  rw [den_succ T.t87]
  obtain ⟨q, s1, s6, s7, s8, w', e, t, q1, q2⟩ := lq_loop T hl hm hp hk (rngD 0 6) l [] rest w .un .un .un (Nat.le_refl _) (by decide) ht
  refine ⟨q, w', ?_, t, q1, q2⟩
  simp only [List.nil_append] at e
  simp [runB, initE, toSl, b__law_plan_87, e]
abbrev ptS (C : Cs) : Sd := (sSeq (sSet 6 (dBin gIx (dName 3) (dCall C 11 (aCons (dName 0) (aCons (dBlt cLen (rCons (dName 3) rNil)) aNil)))))
  (sSeq (sIf (tAnd' (dTst (dBin (gEq C.room) (dName 5) (dC (.int 0)))) (dTst (dBin (gGt C.room) (dBlt cLen (rCons (dName 4) rNil)) (dC (.int 0))))) (sSeq (sSet 7 (dBin gIx (dName 4) (dCall C 11 (aCons (dName 0) (aCons (dBlt cLen (rCons (dName 4) rNil)) aNil)))))
  (sRet (dTup (aCons (dBin gIx (dLst (aCons (dC (.str "name")) (aCons (dC (.str "mark")) aNil))) (dBlt cInt (rCons (dUn (gIsi [.int]) (dName 7)) rNil))) (aCons (dName 7) aNil))))) sNil)
  (sSeq (sIf (tAnd' (dTst (dBin (gLt C.room) (dName 5) (dC (.int 2)))) (dTst (dBin (gGt C.room) (dName 2) (dC (.int 0))))) (sRet (dTup (aCons (dC (.str "got")) (aCons (dBin gIx (dLst (aCons (dC (.int 0)) (aCons (dC (.int 0)) (aCons (dCall C 11 (aCons (dName 0) (aCons (dName 2) aNil))) aNil)))) (dCall C 11 (aCons (dName 0) (aCons (dC (.int 3)) aNil)))) aNil)))) sNil)
  (sSeq (sIf (tOr' (dTst (dBin (gEq C.room) (dName 5) (dC (.int 2)))) (dTst (dBin (gEq C.room) (dName 5) (dC (.int 4))))) (sRet (dTup (aCons (dC (.str "letter")) (aCons (dName 6) (aCons (dCall C 87 (aCons (dName 0) (aCons (dBin gSub (dName 1) (dC (.int 1))) (aCons (dName 2) (aCons (dName 3) (aCons (dName 4) aNil)))))) aNil))))) sNil)
  (sRet (dTup (aCons (dC (.str "wait")) (aCons (dName 6) (aCons (dCall C 87 (aCons (dName 0) (aCons (dBin gSub (dName 1) (dC (.int 1))) (aCons (dBin gAdd (dName 2) (dC (.int 1))) (aCons (dName 3) (aCons (dName 4) aNil)))))) aNil)))))))))
theorem partb_of {m l : Nat} (hl : l < 1000) (hd : DoorsOf z) (hl1 : 1 ≤ l) (hm : 1 ≤ m) (hp : GotPm tbl z m (l - 1)) : GotPb tbl z (m + 1) l := by
  intro k rest w hk ht
  rw [den_succ T.t86]
  have rest_ok : ∀ (kd : Nat) (w2 : World), TapeOk rest w2 → ∃ p : Pa, ∃ w', ptS (Den tbl m) [.wref 0, .dat (.int l), .dat (.int k), .dat (.str z), .dat (.lst lbD), .dat (.int kd), .un, .un] w2 = .ok (.rt (.dat p.d)) w' ∧ TapeOk rest w' ∧ p.ok k = true ∧ p.size ≤ l := by
    intro kd w2 t2
    obtain ⟨d, w3, e3, t3, dh⟩ := c_pick T.toHasPk (n := m) hm t2 (m := z.length) (by have := hd.1; omega) (by have := hd.2.1; omega)
    obtain ⟨x, ex, hxm⟩ := ix_sign (z := z) (i := d) (by omega)
    have hx := hd.2.2 x hxm
    have e3' : withEnv [Sl.wref 0, .dat (.int l), .dat (.int k), .dat (.str z), .dat (.lst lbD), .dat (.int kd), .un, .un] ((Den tbl m).call 11 [.wref 0, .dat (.int z.length)] w2) = .ok (.dat (.int d)) w3 := by rw [e3]; rfl
    by_cases c1 : kd = 0
    · subst c1
      obtain ⟨r, w4, e4, t4, rh⟩ := c_pick T.toHasPk (n := m) hm t3 (m := 3) (by decide) (by decide)
      have : r = 0 ∨ r = 1 ∨ r = 2 := by omega
      rcases this with rfl | rfl | rfl
      · refine ⟨.name "x", w4, ?_, t4, (show wordB "x" = true by decide +kernel), by simp [Pa.size, hl1]⟩
        simp [e3, ex, lbD, e4, at_0, at_1, Pa.d, D.isTy]
      · refine ⟨.name "y", w4, ?_, t4, (show wordB "y" = true by decide +kernel), by simp [Pa.size, hl1]⟩
        simp [e3, ex, lbD, e4, at_0, at_1, Pa.d, D.isTy]
      · refine ⟨.mark 0, w4, ?_, t4, rfl, by simp [Pa.size, hl1]⟩
        simp [e3, ex, lbD, e4, at_0, at_1, at_2, Pa.d, D.isTy]
    · by_cases c2 : kd < 2 ∧ 0 < k
      · obtain ⟨c2, c3⟩ := c2
        obtain ⟨v, w4, e4, t4, vh⟩ := c_pick T.toHasPk (n := m) hm t3 (m := k) (by omega) (by omega)
        obtain ⟨r, w5, e5, t5, rh⟩ := c_pick T.toHasPk (n := m) hm t4 (m := 3) (by decide) (by decide)
        obtain ⟨j, ej, hj⟩ := at3_k (k := k) (v := v) rh
        obtain ⟨j', rfl, hj'⟩ : ∃ j' : Nat, j = j' ∧ j' < k := by rcases hj with rfl | rfl; exact ⟨0, rfl, c3⟩; exact ⟨v, rfl, by omega⟩
        refine ⟨.got j', w5, ?_, t5, by simp [Pa.ok, hj'], by simp [Pa.size, hl1]⟩
        have c2' : (kd : Int) < 2 := by omega
        simp [e3, ex, c1, c2', c3, e4, e5, ej, Pa.d]
      · have el : ((l : Int) - 1) = ((l - 1 : Nat) : Int) := by omega
        by_cases c3 : kd = 2 ∨ kd = 4
        · obtain ⟨b, w4, e4, t4, b1, b2⟩ := hp k rest w3 (by omega) t3
          refine ⟨.letter x b, w4, ?_, t4, by simp [Pa.ok, hx, b1], by simp only [Pa.size]; omega⟩
          rw [← el] at e4
          rcases c3 with rfl | rfl <;> simp [e3, ex, e4, Pa.d]
        · obtain ⟨b, w4, e4, t4, b1, b2⟩ := hp (k + 1) rest w3 (by omega) t3
          refine ⟨.wait x b, w4, ?_, t4, by simp [Pa.ok, hx, b1], by simp only [Pa.size]; omega⟩
          rw [← el] at e4
          simp only [Int.natCast_add, Int.cast_ofNat_Int] at e4
          have c3a : ¬ kd = 2 := fun h => c3 (.inl h)
          have c3b : ¬ kd = 4 := fun h => c3 (.inr h)
          have c3c : ¬ (kd : Int) = 2 := by omega
          have c3d : ¬ (kd : Int) = 4 := by omega
          by_cases c6 : kd < 2
          · have c5 : k = 0 := by
              cases k with
              | zero => rfl
              | succ k => exact absurd ⟨c6, by omega⟩ c2
            subst c5
            simp at e4
            simp [e3, ex, c1, e4, Pa.d, c3a, c3b, c3c, c3d]
          · have c6' : ¬ (kd : Int) < 2 := by omega
            simp [e3, ex, c1, c6', e4, Pa.d, c3a, c3b, c3c, c3d]
  obtain ⟨r, w1, e1, t1, r1⟩ := c_pick T.toHasPk (n := m) hm ht (m := 6) (by decide) (by decide)
  have hA : ptA (Den tbl m) [.wref 0, .dat (.int l), .dat (.int k), .dat (.str z), .dat (.lst lbD), .un, .un, .un] w = .ok (.nx [.wref 0, .dat (.int l), .dat (.int k), .dat (.str z), .dat (.lst lbD), .dat (.int r), .un, .un]) w1 := by simp [e1]
  obtain ⟨kd, w2, t2, hB⟩ : ∃ kd : Nat, ∃ w2, TapeOk rest w2 ∧ ptB (Den tbl m) [.wref 0, .dat (.int l), .dat (.int k), .dat (.str z), .dat (.lst lbD), .dat (.int r), .un, .un] w1 = .ok (.nx [.wref 0, .dat (.int l), .dat (.int k), .dat (.str z), .dat (.lst lbD), .dat (.int kd), .un, .un]) w2 := by
    by_cases h : (l : Int) < 2
    · by_cases h' : (3 : Int) < r
      · obtain ⟨r2, w2, e2, t2, r2h⟩ := c_pick T.toHasPk (n := m) hm t1 (m := 4) (by decide) (by decide)
        exact ⟨r2, w2, t2, by simp [h, h', e2]⟩
      · exact ⟨r, w1, t1, by simp [h, h']⟩
    · exact ⟨r, w1, t1, by simp [h]⟩
  obtain ⟨p, w', e, t, p1, p2⟩ := rest_ok kd w2 t2
  refine ⟨p, w', ?_, t, p1, p2⟩
  show endR (((ptA (Den tbl m)) [.wref 0, .dat (.int l), .dat (.int k), .dat (.str z), .dat (.lst lbD), .un, .un, .un] w).bind (seqK (sSeq (ptB (Den tbl m)) (ptS (Den tbl m))))) = _
  rw [hA]
  show endR (((ptB (Den tbl m)) _ w1).bind (seqK (ptS (Den tbl m)))) = _
  rw [hB]
  show endR (ptS (Den tbl m) _ w2) = _
  rw [e]
  rfl
theorem c_lplanb (hd : DoorsOf z) : ∀ (l n : Nat), l < 1000 → 2 * l + 2 ≤ n → GotPm tbl z n l := by
  have key : ∀ (l n : Nat), l < 1000 → 2 * l + 1 ≤ n → GotPm tbl z (n + 1) l ∧ (1 ≤ l → GotPb tbl z n l) := by
    intro l
    induction l using Nat.strongRecOn with
    | _ l ih =>
      intro n hl hn
      have part : ∀ l', 1 ≤ l' → l' ≤ l → GotPb tbl z n l' := fun l' h1 h2 => by
        obtain ⟨m, rfl, hm⟩ := succ_of (k := 2 * l') (n := n) (by omega)
        obtain ⟨m', rfl, hm'⟩ := succ_of (k := 2 * l' - 1) (n := m) (by omega)
        exact partb_of T (by omega) hd h1 (by omega) (ih (l' - 1) (by omega) m' (by omega) (by omega)).1
      exact ⟨planb_of T hl (by omega) part, fun h => part l h (Nat.le_refl _)⟩
  intro l n hl hn
  obtain ⟨m, rfl, hm⟩ := succ_of (k := 2 * l + 1) (n := n) (by omega)
  exact (key l m hl hm).1
end
end Dl
/-! L27d: great counts; rich plans. -/
namespace Dl
open PySem PySem.Spec PyProof.Rows L2 NdefX
abbrev gg : Nat := 1073741824
theorem cntG {r : Nat} (h : (r : Int) < 5) : ∃ c : Nat, atI [D.int 1, .int 1, .int 1, .int 1000000007, .int 100000000] (r : Int) = some (.int c) ∧ 1 ≤ c ∧ c ≤ gg := by
  have : r = 0 ∨ r = 1 ∨ r = 2 ∨ r = 3 ∨ r = 4 := by omega
  rcases this with rfl | rfl | rfl | rfl | rfl
  · exact ⟨1, rfl, by decide, by decide⟩
  · exact ⟨1, rfl, by decide, by decide⟩
  · exact ⟨1, rfl, by decide, by decide⟩
  · exact ⟨1000000007, rfl, by decide, by decide⟩
  · exact ⟨100000000, rfl, by decide, by decide⟩
structure HasGr (tbl : Nat → Option DefB) : Prop extends HasPk tbl where
  t90 : tbl 90 = some ⟨2, 5, b__law_great_90⟩
abbrev grBody (C : Cs) : Sd := (sSeq (sIf (dTst (dBin (gEq C.room) (dBlt cLen (rCons (dName 4) rNil)) (dC (.int 3)))) (sSet 4 (dTup (aCons (dBin gIx (dName 4) (dC (.int 0))) (aCons (dBin gIx (dName 4) (dC (.int 1))) (aCons (dCall C 90 (aCons (dName 0) (aCons (dBin gIx (dName 4) (dC (.int 2))) aNil))) aNil))))) sNil)
  (sAppend 2 (dTup (aCons (dBin gMul (dName 3) (dBin gIx (dLst (aCons (dC (.int 1)) (aCons (dC (.int 1)) (aCons (dC (.int 1)) (aCons (dBin gAdd (dBin gPow (dC (.int 10)) (dC (.int 9))) (dC (.int 7))) (aCons (dBin gPow (dC (.int 10)) (dC (.int 8))) aNil)))))) (dCall C 11 (aCons (dName 0) (aCons (dC (.int 5)) aNil))))) (aCons (dName 4) aNil)))))
theorem pow9 : gPow (.int 10) (.int 9) = some (.dat (.int 1000000000)) := by rw [gPow_i, if_pos (by decide)]; rfl
theorem pow8 : gPow (.int 10) (.int 8) = some (.dat (.int 100000000)) := by rw [gPow_i, if_pos (by decide)]; rfl
theorem gpow_mono {a b : Nat} (h : a ≤ b) : gg ^ a ≤ gg ^ b := Nat.pow_le_pow_right (by decide) h
theorem gpow_pos (a : Nat) : 1 ≤ gg ^ a := Nat.pow_pos (n := a) (show 0 < gg by decide)
section
variable {tbl : Nat → Option DefB} (T : HasGr tbl)
include T
theorem gr_loop : ∀ (r : Pl) (k m : Nat) (P : Sl) (acc : List D) (s3 s4 : Sl) (rest w : World), r.ok k = true → r.dep + 1 ≤ m → r.size ≤ 1000 → acc.length + r.within.length < 16777216 → TapeOk rest w →
    ∃ r' : Pl, ∃ s3' s4' w', forGo (gT 2 (gsCons (gN 3) (gsCons (gN 4) gsNil))) (grBody (Den tbl m)) r.ds [.wref 0, P, .own acc, s3, s4] w = .ok (.nx [.wref 0, P, .own (acc ++ r'.ds), s3', s4']) w' ∧ TapeOk rest w' ∧ r'.ok k = true ∧ r'.within.length = r.within.length ∧ r'.dep = r.dep ∧ r'.size ≤ r.size * gg ^ (r.dep + 1)
  | .nil, k, m, P, acc, s3, s4, rest, w, hk, hm, hs, hz, ht => ⟨.nil, s3, s4, w, by simp [Pl.ds], ht, by simp [Pl.ok], rfl, rfl, by simp [Pl.size]⟩
  | .cons c p r, k, m, P, acc, s3, s4, rest, w, hk, hm, hs, hz, ht => by
    simp only [Pl.ok, Bool.and_eq_true, decide_eq_true_eq] at hk
    simp only [Pl.dep] at hm
    simp only [Pl.size] at hs
    simp only [Pl.within, List.length_cons, List.length_append] at hz
    have h3 : 1 * p.size ≤ c * p.size := Nat.mul_le_mul_right _ hk.1.1
    have h4 : c * 1 ≤ c * p.size := Nat.mul_le_mul_left _ (psize_pos p)
    -- the part
    obtain ⟨p1, w1, t1, ok1, len1, dep1, size1, run1⟩ : ∃ p1 : Pa, ∃ w1, TapeOk rest w1 ∧ p1.ok k = true ∧ p1.within.length = p.within.length ∧ p1.dep = p.dep ∧ p1.size ≤ p.size * gg ^ p.dep ∧
        (sIf (dTst (dBin (gEq (Den tbl m).room) (dBlt cLen (rCons (dName 4) rNil)) (dC (.int 3)))) (sSet 4 (dTup (aCons (dBin gIx (dName 4) (dC (.int 0))) (aCons (dBin gIx (dName 4) (dC (.int 1))) (aCons (dCall (Den tbl m) 90 (aCons (dName 0) (aCons (dBin gIx (dName 4) (dC (.int 2))) aNil))) aNil))))) sNil) [.wref 0, P, .own acc, .dat (.int c), .dat p.d] w = .ok (.nx [.wref 0, P, .own acc, .dat (.int c), .dat p1.d]) w1 := by
      have node : ∀ (b : Pl) (f : Pl → Pa), within1 p = some (b, f) → (∀ k' : Nat, b.ok k' = true → ∃ r' : Pl, ∃ s3' s4' w', forGo (gT 2 (gsCons (gN 3) (gsCons (gN 4) gsNil))) (grBody (Den tbl (m - 1))) b.ds [.wref 0, .dat (.tup b.ds), .own [], .un, .un] w = .ok (.nx [.wref 0, .dat (.tup b.ds), .own ([] ++ r'.ds), s3', s4']) w' ∧ TapeOk rest w' ∧ r'.ok k' = true ∧ r'.within.length = b.within.length ∧ r'.dep = b.dep ∧ r'.size ≤ b.size * gg ^ (b.dep + 1)) →
          ∃ p1 : Pa, ∃ w1, TapeOk rest w1 ∧ p1.ok k = true ∧ p1.within.length = p.within.length ∧ p1.dep = p.dep ∧ p1.size ≤ p.size * gg ^ p.dep ∧
        (sIf (dTst (dBin (gEq (Den tbl m).room) (dBlt cLen (rCons (dName 4) rNil)) (dC (.int 3)))) (sSet 4 (dTup (aCons (dBin gIx (dName 4) (dC (.int 0))) (aCons (dBin gIx (dName 4) (dC (.int 1))) (aCons (dCall (Den tbl m) 90 (aCons (dName 0) (aCons (dBin gIx (dName 4) (dC (.int 2))) aNil))) aNil))))) sNil) [.wref 0, P, .own acc, .dat (.int c), .dat p.d] w = .ok (.nx [.wref 0, P, .own acc, .dat (.int c), .dat p1.d]) w1 := fun b f ew ih => by
        obtain ⟨q1, q2, q3, q4, q5, k', q6⟩ := within1_spec ew k
        obtain ⟨ob, of⟩ := q6 hk.1.2
        obtain ⟨z, x, d1, d2⟩ := within1_d ew
        obtain ⟨b', s3', s4', w', e, t, o', l', g', z'⟩ := ih k' ob
        obtain ⟨m', rfl, hm'⟩ := succ_of (k := 0) (n := m) (by omega)
        have hc : (Den tbl (m' + 1)).call 90 [.wref 0, .dat (.tup b.ds)] w = .ok (.dat (.tup b'.ds)) w' := by
          rw [den_succ T.t90]
          simp only [Nat.add_sub_cancel, List.nil_append] at e
          simp [runB, initE, toSl, b__law_great_90, e]
        refine ⟨f b', w', t, of b' o', by rw [q1, q4, q4, l'], by rw [q1, q5, q5, g'], ?_, ?_⟩
        · have a1 : p.size = b.size + 1 := by rw [q1, q3]
          have a2 : p.dep = b.dep + 1 := by rw [q1, q5]
          rw [q3, a1, a2, Nat.add_mul, Nat.one_mul]
          have := gpow_pos (b.dep + 1)
          omega
        · rw [d1, d2]
          simp [at_0, at_1, at_2, hc]
      have leaf : p.l.length = 2 → ∃ p1 : Pa, ∃ w1, TapeOk rest w1 ∧ p1.ok k = true ∧ p1.within.length = p.within.length ∧ p1.dep = p.dep ∧ p1.size ≤ p.size * gg ^ p.dep ∧
        (sIf (dTst (dBin (gEq (Den tbl m).room) (dBlt cLen (rCons (dName 4) rNil)) (dC (.int 3)))) (sSet 4 (dTup (aCons (dBin gIx (dName 4) (dC (.int 0))) (aCons (dBin gIx (dName 4) (dC (.int 1))) (aCons (dCall (Den tbl m) 90 (aCons (dName 0) (aCons (dBin gIx (dName 4) (dC (.int 2))) aNil))) aNil))))) sNil) [.wref 0, P, .own acc, .dat (.int c), .dat p.d] w = .ok (.nx [.wref 0, P, .own acc, .dat (.int c), .dat p1.d]) w1 := fun e2 => by
        refine ⟨p, w, ht, hk.1.2, rfl, rfl, ?_, ?_⟩
        · have := Nat.mul_le_mul_left p.size (gpow_pos p.dep)
          omega
        · simp [Pa.d_l, e2]
      cases p with
      | name x => exact leaf rfl
      | mark x => exact leaf rfl
      | got x => exact leaf rfl
      | letter x b =>
        simp only [Pa.dep, Pa.size, Pa.within] at hm hs hz h3 h4
        exact node b (.letter x) rfl (fun k' ob => gr_loop b k' (m - 1) (.dat (.tup b.ds)) [] .un .un rest w ob (by clear leaf node; omega) (by clear leaf node; omega) (by clear leaf node; simp; omega) ht)
      | wait x b =>
        simp only [Pa.dep, Pa.size, Pa.within] at hm hs hz h3 h4
        exact node b (.wait x) rfl (fun k' ob => gr_loop b k' (m - 1) (.dat (.tup b.ds)) [] .un .un rest w ob (by clear leaf node; omega) (by clear leaf node; omega) (by clear leaf node; simp; omega) ht)
    obtain ⟨j, w2, e2, t2, hj⟩ := c_pick T.toHasPk (n := m) (by omega) t1 (m := 5) (by decide) (by decide)
    obtain ⟨g, eg, g1, g2⟩ := cntG hj
    have g2' : g ≤ 1073741824 := g2
    obtain ⟨r', s3', s4', w3, e3, t3, ok3, len3, dep3, size3⟩ := gr_loop r k m P (acc ++ [.tup [.int ((c * g : Nat)), p1.d]]) (.dat (.int c)) (.dat p1.d) rest w2 hk.2 (by omega) (by omega) (by simp; omega) t2
    refine ⟨.cons (c * g) p1 r', s3', s4', w3, ?_, t3, ?_, ?_, ?_, ?_⟩
    · have big := limN_big
      have e64 : 2 ^ 64 = 18446744073709551616 := by decide
      have mo : mulOk (c : Int) (g : Int) = true := mulOk_nat (by omega) (by omega)
      have hz1 : acc.length < 16777216 := by omega
      have p9 := pow9
      have p8 := pow8
      simp only [Pl.ds, for_cons, grBody, gT_ap, gsCons_ap, gN_ap, gsNil_ap, List.length_cons, List.length_nil, Nat.reduceAdd, if_true, Option.bind_some, List.set_cons_succ, List.set_cons_zero]
      rw [sSeq_ap, run1]
      simp only [bind_ok, seqK_nx]
      simp only [Int.natCast_mul, List.append_assoc, List.cons_append, List.nil_append, grBody] at e3
      simp [-gPow_i, p9, p8, e2, eg, mo, hz1, e3]
    · have : 1 * 1 ≤ c * g := Nat.mul_le_mul hk.1.1 g1
      simp [Pl.ok, ok1, ok3]
      omega
    · simp [Pl.within, len1, len3]
    · simp only [Pl.dep, dep1, dep3]
    · simp only [Pl.size, Pl.dep]
      have a1 : c * g * p1.size ≤ c * p.size * gg ^ (p.dep + 1) := by
        calc c * g * p1.size ≤ c * gg * (p.size * gg ^ p.dep) := Nat.mul_le_mul (Nat.mul_le_mul_left _ g2) size1
          _ = c * p.size * gg ^ (p.dep + 1) := by rw [Nat.pow_succ]; simp only [Nat.mul_assoc, Nat.mul_comm, Nat.mul_left_comm]
      have a2 : c * p.size * gg ^ (p.dep + 1) ≤ c * p.size * gg ^ (max p.dep r.dep + 1) := Nat.mul_le_mul_left _ (gpow_mono (by omega))
      have a3 : r.size * gg ^ (r.dep + 1) ≤ r.size * gg ^ (max p.dep r.dep + 1) := Nat.mul_le_mul_left _ (gpow_mono (by omega))
      rw [Nat.add_mul]
      omega
theorem c_great {p : Pl} {k n : Nat} {rest w : World} (hk : p.ok k = true) (hn : p.dep + 2 ≤ n) (hs : p.size ≤ 1000) (hz : p.within.length < 16777216) (ht : TapeOk rest w) :
    ∃ p' : Pl, ∃ w', (Den tbl n).call 90 [.wref 0, .dat p.d] w = .ok (.dat p'.d) w' ∧ TapeOk rest w' ∧ p'.ok k = true ∧ p'.within.length = p.within.length ∧ p'.dep = p.dep ∧ p'.size ≤ p.size * gg ^ (p.dep + 1) := by
  obtain ⟨m, rfl, hm⟩ := succ_of (k := p.dep + 1) (n := n) hn
  obtain ⟨r', s3', s4', w3, e3, t3, ok3, len3, dep3, size3⟩ := gr_loop T p k m (.dat (.tup p.ds)) [] .un .un rest w hk hm hs (by simpa using hz) ht
  refine ⟨r', w3, ?_, t3, ok3, len3, dep3, size3⟩
  rw [den_succ T.t90]
  simp only [List.nil_append] at e3
  simp [runB, initE, toSl, b__law_great_90, e3]
end
end Dl
/-! L27e: rich plans; drawn steps. -/
namespace Dl
open PySem PySem.Spec PyProof.Rows L2 NdefX
theorem doors_ab' : DoorsOf "ab" := ⟨by decide +kernel, by decide +kernel, by decide +kernel⟩
theorem many4 {r : Nat} (h : (r : Int) < 4) : ∃ c : Nat, atI [D.int 2, .int 3, .int 4, .int 6] (r : Int) = some (.int c) ∧ 1 ≤ c ∧ c ≤ 6 := by
  have : r = 0 ∨ r = 1 ∨ r = 2 ∨ r = 3 := by omega
  rcases this with rfl | rfl | rfl | rfl
  · exact ⟨2, rfl, by decide, by decide⟩
  · exact ⟨3, rfl, by decide, by decide⟩
  · exact ⟨4, rfl, by decide, by decide⟩
  · exact ⟨6, rfl, by decide, by decide⟩
structure HasRi (tbl : Nat → Option DefB) : Prop extends HasLQ tbl where
  t98 : tbl 98 = some ⟨1, 6, b__law_rich⟩
theorem c_rich {tbl : Nat → Option DefB} (T : HasRi tbl) {n : Nat} (hn : 20 ≤ n) {rest w : World} (ht : TapeOk rest w) :
    ∃ p : Pl, ∃ w', (Den tbl n).call 98 [.wref 0] w = .ok (.dat p.d) w' ∧ TapeOk rest w' ∧ p.ok 0 = true ∧ p.within.length ≤ 10 ∧ p.dep ≤ 5 ∧ p.size ≤ 60 := by
  obtain ⟨m, rfl, hm⟩ := succ_of (k := 19) (n := n) hn
  rw [den_succ T.t98]
  obtain ⟨r1, w1, e1, t1, h1⟩ := c_pick T.toHasPk (n := m) (by omega) ht (m := 3) (by decide) (by decide)
  obtain ⟨i, w2, e2, t2, iok, isz⟩ := c_lplanb T.toHasLQ doors_ab' (1 + r1) m (by omega) (by omega) 2 rest w1 (by omega) t1
  obtain ⟨r2, w3, e3, t3, h3⟩ := c_pick T.toHasPk (n := m) (by omega) t2 (m := 4) (by decide) (by decide)
  obtain ⟨mm, em, m1, m6⟩ := many4 h3
  obtain ⟨r3, w4, e4, t4, h4⟩ := c_pick T.toHasPk (n := m) (by omega) t3 (m := 3) (by decide) (by decide)
  obtain ⟨b, w5, e5, t5, bok, bsz⟩ := c_lplanb T.toHasLQ doors_ab' r3 m (by omega) (by omega) 1 rest w4 (by omega) t4
  obtain ⟨r5, w6, e6, t6, h6⟩ := c_pick T.toHasPk (n := m) (by omega) t5 (m := 4) (by decide) (by decide)
  obtain ⟨q, w7, e7, t7, qok, qsz⟩ := c_lplanb T.toHasLQ doors_ab' r5 m (by omega) (by omega) 0 rest w6 (by omega) t6
  obtain ⟨r7, w8, e8, t8, h8⟩ := c_pick T.toHasPk (n := m) (by omega) t7 (m := 2) (by decide) (by decide)
  obtain ⟨r8, w9, e9, t9, h9⟩ := c_pick T.toHasPk (n := m) (by omega) t8 (m := 2) (by decide) (by decide)
  obtain ⟨x, ex, hxm⟩ := ix_sign (z := "ab") (i := r8) (show r8 < 2 by omega)
  have hx := doors_ab'.2.2 x hxm
  have iw := Pl.within_size i 2 iok
  have idp := Pl.dep_size i 2 iok
  have bw := Pl.within_size b 1 bok
  have bdp := Pl.dep_size b 1 bok
  have qw := Pl.within_size q 0 qok
  have qdp := Pl.dep_size q 0 qok
  have ha : doorB "a" = true := by decide +kernel
  refine ⟨q.app (.cons (1 + r7) (.wait x (b.app (.cons mm (.wait "a" i) .nil))) .nil), w9, ?_, t9, ?_, ?_, ?_, ?_⟩
  · have lb := len_within b
    have lq := len_within q
    have z1 : b.ds.length + 1 ≤ sizeLine := by rw [sizeLine_eq]; omega
    have z2 : q.ds.length + 1 ≤ sizeLine := by rw [sizeLine_eq]; omega
    simp only [Pl.d, Int.natCast_add, Int.cast_ofNat_Int, lbD] at e2 e5 e7
    simp only [Pl.d, app_ds, Pl.ds, Pa.d, Int.natCast_add, Int.cast_ofNat_Int]
    simp [runB, initE, toSl, b__law_rich, e1, e2, e3, em, e4, e5, e6, e7, e8, e9, ex, z1, z2]
  · simp [app_ok, qok, Pl.ok, Pa.ok, hx, bok, ha, iok, m1]
  · simp [app_within, Pl.within, Pa.within]; omega
  · simp [app_dep, Pl.dep, Pa.dep]; omega
  · simp only [app_size, Pl.size, Pa.size, Nat.add_zero]
    have a1 : mm * (i.size + 1) ≤ 6 * 4 := Nat.mul_le_mul m6 (by omega)
    have a2 : (1 + r7) * (b.size + mm * (i.size + 1) + 1) ≤ 2 * 27 := Nat.mul_le_mul (by omega) (by omega)
    omega
/-! ### a place -/
structure HasSS (tbl : Nat → Option DefB) : Prop extends HasPk tbl, HasLS27 tbl where
  t91 : tbl 91 = some ⟨2, 12, b__law_some_step⟩
theorem leaf_len {r : Pa} (h : within1 r = none) : r.l.length = 2 := by cases r <;> first | rfl | cases h
theorem node_len {r : Pa} {bf : Pl × (Pl → Pa)} (h : within1 r = some bf) : r.l.length = 3 := by cases r <;> first | rfl | cases h
theorem get_item {q : Pl} {k : Nat} (h : k < q.L.length) : ∃ c r, q.L[k]? = some (c, r) := ⟨q.L[k].1, q.L[k].2, by simp [h]⟩
theorem nodes_go {rm : Nat} {q : Pl} {w : World} {e : Ev} (h3 : (e.set 6 .un)[3]? = some (.dat q.d)) (he : e.length = 12) : ∀ (ks : List Nat), (∀ k ∈ ks, k < q.L.length) → ∃ js : List Nat, compGo (gN 6) (dTst (dBin (gEq rm) (dBlt cLen (rCons (dBin gIx (dBin gIx (dName 3) (dName 6)) (dC (.int 1))) rNil)) (dC (.int 3)))) (dName 6) (e.set 6 .un) (ks.map fun (k : Nat) => D.int (k : Int)) w = .ok (js.map fun (k : Nat) => D.int (k : Int)) w ∧ (∀ j ∈ js, ∃ c r bf, q.L[j]? = some (c, r) ∧ within1 r = some bf) ∧ js.length ≤ ks.length
  | [], _ => ⟨[], rfl, by simp, Nat.le_refl _⟩
  | k :: ks, hk => by
    obtain ⟨js, e1, h1, h2⟩ := nodes_go (rm := rm) (w := w) h3 he ks (fun j hj => hk j (.tail _ hj))
    obtain ⟨c, r, er⟩ := get_item (hk k (.head _))
    have a1 := at_item er
    have h3' : ((e.set 6 .un).set 6 (.dat (.int k)))[3]? = some (.dat q.d) := by rw [List.getElem?_set_ne (by decide)]; exact h3
    have h6' : ((e.set 6 .un).set 6 (.dat (.int k)))[6]? = some (.dat (.int k)) := by rw [List.getElem?_set_self (by simp [he])]
    simp only [Pl.d] at h3'
    cases ew : within1 r with
    | none =>
      have hl := leaf_len ew
      refine ⟨js, ?_, h1, by simp; omega⟩
      rw [Pa.d_l] at a1
      simp only [List.map_cons, go_cons, gN_ap, dTst_ap, dBin_ap, dBlt_ap, rCons_ap, rNil_ap, dName_ap, dC_ap, h3', h6', bind_ok, vals2_ap, val_dat, gIx_t, a1, Option.map_some, lift_some]
      simp [at_1, hl, e1]
    | some bf =>
      have hl := node_len ew
      refine ⟨k :: js, ?_, fun j hj => ?_, by simp; omega⟩
      · rw [Pa.d_l] at a1
        simp only [List.map_cons, go_cons, gN_ap, dTst_ap, dBin_ap, dBlt_ap, rCons_ap, rNil_ap, dName_ap, dC_ap, h3', h6', bind_ok, vals2_ap, val_dat, gIx_t, a1, Option.map_some, lift_some]
        simp [at_1, hl, e1]
      · rcases List.mem_cons.mp hj with rfl | hj
        · exact ⟨c, r, bf, er, ew⟩
        · exact h1 j hj
end Dl
/-! L27f: drawn steps. -/
namespace Dl
open PySem PySem.Spec PyProof.Rows L2 NdefX
def pa1 (C : Cs) : Sd := (sSet 5 (dComp (iRange rg1 (rCons (dBlt cLen (rCons (dName 3) rNil)) rNil)) [6] (gN 6) (dTst (dBin (gEq C.room) (dBlt cLen (rCons (dBin gIx (dBin gIx (dName 3) (dName 6)) (dC (.int 1))) rNil)) (dC (.int 3)))) (dName 6)))
def pa2 (C : Cs) : Sd := (sIf (tOr' (dTst (dBin (gEq C.room) (dBlt cLen (rCons (dName 5) rNil)) (dC (.int 0)))) (dTst (dBin (gEq C.room) (dCall C 11 (aCons (dName 0) (aCons (dC (.int 3)) aNil))) (dC (.int 0))))) sBreak sNil)
def pa3 (C : Cs) : Sd := (sSet 7 (dBin gIx (dName 5) (dCall C 11 (aCons (dName 0) (aCons (dBlt cLen (rCons (dName 5) rNil)) aNil)))))
def pa4 (C : Cs) : Sd := (sSet 2 (dBin gAdd (dName 2) (dTup (aCons (dName 7) aNil))))
def pa5 (C : Cs) : Sd := (sSet 3 (dBin gIx (dBin gIx (dBin gIx (dName 3) (dName 7)) (dC (.int 1))) (dC (.int 2))))
def pb1 (C : Cs) : Sd := (sAsg (gT 2 (gsCons (gN 9) (gsCons (gN 10) gsNil))) (dBin gIx (dName 3) (dName 7)))
def pb2 (C : Cs) : Sd := (sSet 8 (dFrz (dBin gAdd (dName 8) (dLst (aCons (dTup (aCons (dC (.str "swap")) (aCons (dTup aNil) (aCons (dName 7) aNil)))) (aCons (dTup (aCons (dC (.str "join")) (aCons (dTup aNil) (aCons (dName 7) aNil)))) (aCons (dTup (aCons (dC (.str "join")) (aCons (dTup aNil) (aCons (dName 7) aNil)))) (aCons (dTup (aCons (dC (.str "fold")) (aCons (dTup aNil) (aCons (dName 7) aNil)))) (aCons (dTup (aCons (dC (.str "fold")) (aCons (dTup aNil) (aCons (dName 7) aNil)))) aNil)))))))))
def pb3 (C : Cs) : Sd := (sSet 8 (dFrz (dBin gAdd (dName 8) (dLst (aCons (dTup (aCons (dC (.str "split")) (aCons (dTup aNil) (aCons (dName 7) (aCons (dBin gAdd (dC (.int 1)) (dCall C 11 (aCons (dName 0) (aCons (dBlt cMin2 (rCons (dName 9) (rCons (dC (.int 5)) rNil))) aNil)))) aNil))))) aNil)))))
def pb4 (C : Cs) : Sd := (sSet 8 (dFrz (dBin gAdd (dName 8) (dComp (iSeq (dLst (aCons (dC (.int 2)) (aCons (dC (.int 3)) (aCons (dName 9) aNil))))) [6] (gN 6) (dTst (dBin (gEq C.room) (dBin gIx (dName 10) (dC (.int 0))) (dC (.str "wait")))) (dTup (aCons (dC (.str "unfold")) (aCons (dTup aNil) (aCons (dName 7) (aCons (dName 6) aNil)))))))))
abbrev ssA (C : Cs) : Sd := (sSeq (pa1 C) (sSeq (pa2 C) (sSeq (pa3 C) (sSeq (pa4 C) (pa5 C)))))
abbrev ssB (C : Cs) : Sd := (sSeq (pb1 C) (sSeq (pb2 C) (sSeq (pb3 C) (pb4 C))))
def ss1 (C : Cs) : Sd := (sSet 2 (dTup aNil))
def ss2 (C : Cs) : Sd := (sSet 3 (dName 1))
def ss3 (C : Cs) : Sd := (sFor (iRange rg1 (rCons (dC (.int 4)) rNil)) (gN 4) (sSeq (sSet 5 (dComp (iRange rg1 (rCons (dBlt cLen (rCons (dName 3) rNil)) rNil)) [6] (gN 6) (dTst (dBin (gEq C.room) (dBlt cLen (rCons (dBin gIx (dBin gIx (dName 3) (dName 6)) (dC (.int 1))) rNil)) (dC (.int 3)))) (dName 6)))
  (sSeq (sIf (tOr' (dTst (dBin (gEq C.room) (dBlt cLen (rCons (dName 5) rNil)) (dC (.int 0)))) (dTst (dBin (gEq C.room) (dCall C 11 (aCons (dName 0) (aCons (dC (.int 3)) aNil))) (dC (.int 0))))) sBreak sNil)
  (sSeq (sSet 7 (dBin gIx (dName 5) (dCall C 11 (aCons (dName 0) (aCons (dBlt cLen (rCons (dName 5) rNil)) aNil)))))
  (sSeq (sSet 2 (dBin gAdd (dName 2) (dTup (aCons (dName 7) aNil))))
  (sSet 3 (dBin gIx (dBin gIx (dBin gIx (dName 3) (dName 7)) (dC (.int 1))) (dC (.int 2)))))))))
def ss4 (C : Cs) : Sd := (sSet 8 (dFrz (dLst aNil)))
def ss5 (C : Cs) : Sd := (sFor (iRange rg1 (rCons (dBlt cLen (rCons (dName 3) rNil)) rNil)) (gN 7) (sSeq (sAsg (gT 2 (gsCons (gN 9) (gsCons (gN 10) gsNil))) (dBin gIx (dName 3) (dName 7)))
  (sSeq (sSet 8 (dFrz (dBin gAdd (dName 8) (dLst (aCons (dTup (aCons (dC (.str "swap")) (aCons (dTup aNil) (aCons (dName 7) aNil)))) (aCons (dTup (aCons (dC (.str "join")) (aCons (dTup aNil) (aCons (dName 7) aNil)))) (aCons (dTup (aCons (dC (.str "join")) (aCons (dTup aNil) (aCons (dName 7) aNil)))) (aCons (dTup (aCons (dC (.str "fold")) (aCons (dTup aNil) (aCons (dName 7) aNil)))) (aCons (dTup (aCons (dC (.str "fold")) (aCons (dTup aNil) (aCons (dName 7) aNil)))) aNil)))))))))
  (sSeq (sSet 8 (dFrz (dBin gAdd (dName 8) (dLst (aCons (dTup (aCons (dC (.str "split")) (aCons (dTup aNil) (aCons (dName 7) (aCons (dBin gAdd (dC (.int 1)) (dCall C 11 (aCons (dName 0) (aCons (dBlt cMin2 (rCons (dName 9) (rCons (dC (.int 5)) rNil))) aNil)))) aNil))))) aNil)))))
  (sSet 8 (dFrz (dBin gAdd (dName 8) (dComp (iSeq (dLst (aCons (dC (.int 2)) (aCons (dC (.int 3)) (aCons (dName 9) aNil))))) [6] (gN 6) (dTst (dBin (gEq C.room) (dBin gIx (dName 10) (dC (.int 0))) (dC (.str "wait")))) (dTup (aCons (dC (.str "unfold")) (aCons (dTup aNil) (aCons (dName 7) (aCons (dName 6) aNil)))))))))))))
def ss6 (C : Cs) : Sd := (sSet 8 (dFrz (dComp (iSeq (dName 8)) [11] (gN 11) (dTst (dBin gIsNot (dCall C 89 (aCons (dName 3) (aCons (dName 11) aNil))) (dC .non))) (dName 11))))
def ss7 (C : Cs) : Sd := (sIf (dTst (dBin (gEq C.room) (dBlt cLen (rCons (dName 8) rNil)) (dC (.int 0)))) (sRet (dC .non)) sNil)
def ss8 (C : Cs) : Sd := (sSet 11 (dBin gIx (dName 8) (dCall C 11 (aCons (dName 0) (aCons (dBlt cLen (rCons (dName 8) rNil)) aNil)))))
def ss9 (C : Cs) : Sd := (sRet (dBin gAdd (dTup (aCons (dBin gIx (dName 11) (dC (.int 0))) (aCons (dName 2) aNil))) (dSl (dName 11) (some (dC (.int 2))) none)))
theorem ss_eq (C : Cs) : b__law_some_step C = (sSeq (ss1 C) (sSeq (ss2 C) (sSeq (ss3 C) (sSeq (ss4 C) (sSeq (ss5 C) (sSeq (ss6 C) (sSeq (ss7 C) (sSeq (ss8 C) (ss9 C))))))))) := rfl
theorem pb4_run {C : Cs} {S0 P S2 S3 s4 s5 a6 S7 S10 : Sl} {c : Nat} {Z Us : List D} {w : World} (hz : Z.length + Us.length ≤ sizeLine)
    (h : compGo (gN 6) (dTst (dBin (gEq C.room) (dBin gIx (dName 10) (dC (.int 0))) (dC (.str "wait")))) (dTup (aCons (dC (.str "unfold")) (aCons (dTup aNil) (aCons (dName 7) (aCons (dName 6) aNil))))) [S0, P, S2, S3, s4, s5, .un, S7, .dat (.lst Z), .dat (.int c), S10, .un] [.int 2, .int 3, .int c] w = .ok Us w) :
    pb4 C [S0, P, S2, S3, s4, s5, a6, S7, .dat (.lst Z), .dat (.int c), S10, .un] w = .ok (.nx [S0, P, S2, S3, s4, s5, a6, S7, .dat (.lst (Z ++ Us)), .dat (.int c), S10, .un]) w := by
  simp [pb4, h, hz]
section
variable {tbl : Nat → Option DefB} (T : HasSS tbl) {rest : World}
include T
theorem place_loop {p : Pl} (D : Dim p) {m : Nat} (hm : 1 ≤ m) {P : Sl} : ∀ (ts : List Dl.D) (pl : List Nat) (q : Pl) (w : World) (a4 a5 a6 a7 : Sl), subAt p pl = some q → pl.length + ts.length ≤ 4 → TapeOk rest w →
    ∃ pl' q' s4 s5 s6 s7 w', forGo (gN 4) (ssA (Den tbl m)) ts [.wref 0, P, .dat (.tup (natsD pl)), .dat q.d, a4, a5, a6, a7, .un, .un, .un, .un] w = .ok (.nx [.wref 0, P, .dat (.tup (natsD pl')), .dat q'.d, s4, s5, s6, s7, .un, .un, .un, .un]) w' ∧ TapeOk rest w' ∧ subAt p pl' = some q' ∧ pl'.length ≤ 4
  | [], pl, q, w, a4, a5, a6, a7, hs, hl, ht => ⟨pl, q, a4, a5, a6, a7, w, rfl, ht, hs, by simpa using hl⟩
  | t :: ts, pl, q, w, a4, a5, a6, a7, hs, hl, ht => by
    simp only [List.length_cons] at hl
    have Dq := D.sub pl hs
    have lq := Dq.len
    have lq2 : q.L.length ≤ 5000 := by
      have : q.ds.length = q.L.length := by rw [ds_L]; simp
      have := len_within q
      omega
    have ldq : q.ds.length = q.L.length := by rw [ds_L]; simp
    obtain ⟨js, ej, hj, jl⟩ := nodes_go (rm := (Den tbl m).room) (q := q) (w := w) (e := [.wref 0, P, .dat (.tup (natsD pl)), .dat q.d, .dat t, a5, a6, a7, .un, .un, .un, .un]) rfl rfl (List.range q.L.length) (fun k hk => by simpa using hk)
    simp only [List.set_cons_succ, List.set_cons_zero, Pl.d] at ej
    rw [List.length_range] at jl
    have hA : pa1 (Den tbl m) [.wref 0, P, .dat (.tup (natsD pl)), .dat (.tup q.ds), .dat t, a5, a6, a7, .un, .un, .un, .un] w = .ok (.nx [.wref 0, P, .dat (.tup (natsD pl)), .dat (.tup q.ds), .dat t, .own (js.map fun (k : Nat) => Dl.D.int (k : Int)), a6, a7, .un, .un, .un, .un]) w := by
      have hr := rngD_nat q.L.length
      have z1 : q.L.length ≤ 16777216 := by omega
      have z1i : (q.L.length : Int) ≤ 16777216 := by omega
      have z2 : (q.L.length : Int) < 4611686018427387904 := by omega
      have z3 : (-4611686018427387904 : Int) ≤ q.L.length := by omega
      simp [pa1, ldq, z1, z1i, z2, z3, hr, ej]
    simp only [for_cons, gN_ap, List.set_cons_succ, List.set_cons_zero, Pl.d]
    rw [show ssA (Den tbl m) = sSeq (pa1 (Den tbl m)) (sSeq (pa2 (Den tbl m)) (sSeq (pa3 (Den tbl m)) (sSeq (pa4 (Den tbl m)) (pa5 (Den tbl m))))) from rfl, seq_nx hA]
    by_cases h0 : js = []
    · subst h0
      refine ⟨pl, q, .dat t, .own [], a6, a7, w, ?_, ht, hs, by omega⟩
      simp [pa2]
    · have hjs : 0 < js.length := by cases js with | nil => exact absurd rfl h0 | cons a b => simp
      obtain ⟨r, w1, e1, t1, h1⟩ := c_pick T.toHasPk (n := m) hm ht (m := 3) (by decide) (by decide)
      by_cases hr0 : r = 0
      · subst hr0
        refine ⟨pl, q, .dat t, .own (js.map fun (k : Nat) => Dl.D.int (k : Int)), a6, a7, w1, ?_, t1, hs, by omega⟩
        simp [pa2, h0, e1]
      · obtain ⟨r2, w2, e2, t2, h2⟩ := c_pick T.toHasPk (n := m) hm t1 (m := js.length) (by omega) (by omega)
        have hr2 : r2 < js.length := by omega
        have ea : atI (js.map fun (k : Nat) => Dl.D.int (k : Int)) (r2 : Int) = some (.int (js[r2] : Nat)) := by rw [atI_get (by simpa using hr2)]; simp
        obtain ⟨c, rr, bf, er, ew⟩ := hj js[r2] (List.getElem_mem hr2)
        obtain ⟨b, f⟩ := bf
        obtain ⟨z, x, d1, _⟩ := within1_d ew
        have ai := at_item er
        rw [d1] at ai
        have hs2 := sub_snoc pl p q b hs er ew
        obtain ⟨pl', q', s4, s5, s6, s7, w', e, t', hs', hl'⟩ := place_loop D hm ts (pl ++ [js[r2]]) b w2 (.dat t) (.own (js.map fun (k : Nat) => Dl.D.int (k : Int))) a6 (.dat (.int (js[r2] : Nat))) hs2 (by simp; omega) t2
        refine ⟨pl', q', s4, s5, s6, s7, w', ?_, t', hs', hl'⟩
        have hr0' : ¬ (r : Int) = 0 := by omega
        have hpa2 : pa2 (Den tbl m) [.wref 0, P, .dat (.tup (natsD pl)), .dat (.tup q.ds), .dat t, .own (js.map fun (k : Nat) => Dl.D.int (k : Int)), a6, a7, .un, .un, .un, .un] w = .ok (.nx [.wref 0, P, .dat (.tup (natsD pl)), .dat (.tup q.ds), .dat t, .own (js.map fun (k : Nat) => Dl.D.int (k : Int)), a6, a7, .un, .un, .un, .un]) w1 := by simp [pa2, h0, e1, hr0]
        have hpa3 : pa3 (Den tbl m) [.wref 0, P, .dat (.tup (natsD pl)), .dat (.tup q.ds), .dat t, .own (js.map fun (k : Nat) => Dl.D.int (k : Int)), a6, a7, .un, .un, .un, .un] w1 = .ok (.nx [.wref 0, P, .dat (.tup (natsD pl)), .dat (.tup q.ds), .dat t, .own (js.map fun (k : Nat) => Dl.D.int (k : Int)), a6, .dat (.int (js[r2] : Nat)), .un, .un, .un, .un]) w2 := by simp [pa3, e2, ea]
        have zz : (natsD pl).length + 1 ≤ sizeLine := by rw [sizeLine_eq]; simp [natsD]; omega
        have hpa4 : pa4 (Den tbl m) [.wref 0, P, .dat (.tup (natsD pl)), .dat (.tup q.ds), .dat t, .own (js.map fun (k : Nat) => Dl.D.int (k : Int)), a6, .dat (.int (js[r2] : Nat)), .un, .un, .un, .un] w2 = .ok (.nx [.wref 0, P, .dat (.tup (natsD (pl ++ [js[r2]]))), .dat (.tup q.ds), .dat t, .own (js.map fun (k : Nat) => Dl.D.int (k : Int)), a6, .dat (.int (js[r2] : Nat)), .un, .un, .un, .un]) w2 := by simp [pa4, zz]; simp [natsD]
        have hpa5 : pa5 (Den tbl m) [.wref 0, P, .dat (.tup (natsD (pl ++ [js[r2]]))), .dat (.tup q.ds), .dat t, .own (js.map fun (k : Nat) => Dl.D.int (k : Int)), a6, .dat (.int (js[r2] : Nat)), .un, .un, .un, .un] w2 = .ok (.nx [.wref 0, P, .dat (.tup (natsD (pl ++ [js[r2]]))), .dat (.tup b.ds), .dat t, .own (js.map fun (k : Nat) => Dl.D.int (k : Int)), a6, .dat (.int (js[r2] : Nat)), .un, .un, .un, .un]) w2 := by simp [pa5, ai, at_1, at_2]
        rw [seq_nx hpa2, seq_nx hpa3, seq_nx hpa4, hpa5]
        simp only [Pl.d] at e
        simpa using e
abbrev stL (sts : List Mv) : List Dl.D := sts.map fun s => s.d []
theorem steps_loop {q : Pl} (Dq : Dim q) {m : Nat} (hm : 1 ≤ m) {P S2 s4 s5 : Sl} : ∀ (ks : List Nat) (sts : List Mv) (w : World) (a6 a7 a9 a10 : Sl), (∀ k ∈ ks, k < q.L.length) → (∀ s ∈ sts, s.at_ < q.L.length) → sts.length + 9 * ks.length ≤ 1000000 → TapeOk rest w →
    ∃ sts' s6 s7 s9 s10 w', forGo (gN 7) (ssB (Den tbl m)) (ks.map fun (k : Nat) => Dl.D.int (k : Int)) [.wref 0, P, S2, .dat q.d, s4, s5, a6, a7, .dat (.lst (stL sts)), a9, a10, .un] w = .ok (.nx [.wref 0, P, S2, .dat q.d, s4, s5, s6, s7, .dat (.lst (stL sts')), s9, s10, .un]) w' ∧ TapeOk rest w' ∧ (∀ s ∈ sts', s.at_ < q.L.length) ∧ sts'.length ≤ 1000000
  | [], sts, w, a6, a7, a9, a10, hk, hs, hl, ht => ⟨sts, a6, a7, a9, a10, w, rfl, ht, hs, by simpa using hl⟩
  | k :: ks, sts, w, a6, a7, a9, a10, hk, hs, hl, ht => by
    simp only [List.length_cons] at hl
    have hkk := hk k (.head _)
    obtain ⟨c, r, er⟩ := get_item hkk
    have ai := at_item er
    have hc := (Dq.item (cut_at er).1).2.2.1
    have hc2 : (c : Nat) ≥ 1 := hc
    have hmin : (0 : Int) < (if (5 : Int) < (c : Int) then (5 : Int) else (c : Int)) ∧ (if (5 : Int) < (c : Int) then (5 : Int) else (c : Int)) < 1073741824 := by split <;> omega
    obtain ⟨r2, w2, e2, t2, h2⟩ := c_pick T.toHasPk (n := m) hm ht (m := if (5 : Int) < (c : Int) then (5 : Int) else (c : Int)) hmin.1 hmin.2
    have hz : sizeLine = 16777216 := sizeLine_eq
    -- the unfolds
    obtain ⟨us, hus, hul, eu⟩ : ∃ us : List Mv, (∀ s ∈ us, s.at_ = k) ∧ us.length ≤ 3 ∧ compGo (gN 6) (dTst (dBin (gEq (Den tbl m).room) (dBin gIx (dName 10) (dC (.int 0))) (dC (.str "wait")))) (dTup (aCons (dC (.str "unfold")) (aCons (dTup aNil) (aCons (dName 7) (aCons (dName 6) aNil)))))
        [.wref 0, P, S2, .dat (.tup q.ds), s4, s5, .un, .dat (.int k), .dat (.lst (stL (sts ++ [.swap k, .join k, .join k, .fold k, .fold k] ++ [.split k (1 + r2)]))), .dat (.int c), .dat r.d, .un] [.int 2, .int 3, .int c] w2 = .ok (stL us) w2 := by
      have no : ∀ z : Str, atI r.l 0 = some (.str z) → ¬ z = Str.ofString "wait" → ∃ us : List Mv, (∀ s ∈ us, s.at_ = k) ∧ us.length ≤ 3 ∧ compGo (gN 6) (dTst (dBin (gEq (Den tbl m).room) (dBin gIx (dName 10) (dC (.int 0))) (dC (.str "wait")))) (dTup (aCons (dC (.str "unfold")) (aCons (dTup aNil) (aCons (dName 7) (aCons (dName 6) aNil)))))
        [.wref 0, P, S2, .dat (.tup q.ds), s4, s5, .un, .dat (.int k), .dat (.lst (stL (sts ++ [.swap k, .join k, .join k, .fold k, .fold k] ++ [.split k (1 + r2)]))), .dat (.int c), .dat r.d, .un] [.int 2, .int 3, .int c] w2 = .ok (stL us) w2 := fun z hz hne =>
        ⟨[], by simp, by simp, by simp [go_cons, Pa.d_l, hz, hne]⟩
      cases r with
      | name y => exact no _ at_0 ne_7
      | mark y => exact no _ at_0 ne_9
      | got y => exact no _ at_0 ne_11
      | letter y b => exact no _ at_0 ne_4
      | wait y b => exact ⟨[.unfold k 2, .unfold k 3, .unfold k c], by simp [Mv.at_], by simp, by simp [go_cons, Pa.d, at_0, Mv.d, Mv.nm, Mv.args, natsD]⟩
    obtain ⟨sts', s6, s7, s9, s10, w', e, t', hs', hl'⟩ := steps_loop Dq hm ks (sts ++ [.swap k, .join k, .join k, .fold k, .fold k] ++ [.split k (1 + r2)] ++ us) w2 a6 (.dat (.int k)) (.dat (.int c)) (.dat r.d) (fun j hj => hk j (.tail _ hj)) (fun s hs1 => by
      simp only [List.append_assoc, List.mem_append, List.mem_cons, List.not_mem_nil, or_false] at hs1
      rcases hs1 with h | (rfl | rfl | rfl | rfl | rfl) | rfl | h
      · exact hs s h
      · exact hkk
      · exact hkk
      · exact hkk
      · exact hkk
      · exact hkk
      · exact hkk
      · rw [hus s h]; exact hkk) (by simp; omega) t2
    refine ⟨sts', s6, s7, s9, s10, w', ?_, t', hs', hl'⟩
    simp only [List.map_cons, for_cons, gN_ap, List.set_cons_succ, List.set_cons_zero, Pl.d]
    rw [show ssB (Den tbl m) = sSeq (pb1 (Den tbl m)) (sSeq (pb2 (Den tbl m)) (sSeq (pb3 (Den tbl m)) (pb4 (Den tbl m)))) from rfl]
    have q1 : pb1 (Den tbl m) [.wref 0, P, S2, .dat (.tup q.ds), s4, s5, a6, .dat (.int k), .dat (.lst (stL sts)), a9, a10, .un] w = .ok (.nx [.wref 0, P, S2, .dat (.tup q.ds), s4, s5, a6, .dat (.int k), .dat (.lst (stL sts)), .dat (.int c), .dat r.d, .un]) w := by simp [pb1, ai]
    have z1 : sts.length + 5 ≤ sizeLine := by omega
    have q2 : pb2 (Den tbl m) [.wref 0, P, S2, .dat (.tup q.ds), s4, s5, a6, .dat (.int k), .dat (.lst (stL sts)), .dat (.int c), .dat r.d, .un] w = .ok (.nx [.wref 0, P, S2, .dat (.tup q.ds), s4, s5, a6, .dat (.int k), .dat (.lst (stL (sts ++ [.swap k, .join k, .join k, .fold k, .fold k]))), .dat (.int c), .dat r.d, .un]) w := by simp [pb2, z1, Mv.d, Mv.nm, Mv.args, natsD]
    have z2 : sts.length + 5 + 1 ≤ sizeLine := by omega
    have q3 : pb3 (Den tbl m) [.wref 0, P, S2, .dat (.tup q.ds), s4, s5, a6, .dat (.int k), .dat (.lst (stL (sts ++ [.swap k, .join k, .join k, .fold k, .fold k]))), .dat (.int c), .dat r.d, .un] w = .ok (.nx [.wref 0, P, S2, .dat (.tup q.ds), s4, s5, a6, .dat (.int k), .dat (.lst (stL (sts ++ [.swap k, .join k, .join k, .fold k, .fold k] ++ [.split k (1 + r2)]))), .dat (.int c), .dat r.d, .un]) w2 := by
      simp [pb3, e2, z2, Mv.d, Mv.nm, Mv.args, natsD]
    have z3 : sts.length + 5 + 1 + us.length ≤ sizeLine := by omega
    have q4 : pb4 (Den tbl m) [.wref 0, P, S2, .dat (.tup q.ds), s4, s5, a6, .dat (.int k), .dat (.lst (stL (sts ++ [.swap k, .join k, .join k, .fold k, .fold k] ++ [.split k (1 + r2)]))), .dat (.int c), .dat r.d, .un] w2 = .ok (.nx [.wref 0, P, S2, .dat (.tup q.ds), s4, s5, a6, .dat (.int k), .dat (.lst (stL (sts ++ [.swap k, .join k, .join k, .fold k, .fold k] ++ [.split k (1 + r2)] ++ us))), .dat (.int c), .dat r.d, .un]) w2 := by
      have := pb4_run (a6 := a6) (Z := stL (sts ++ [.swap k, .join k, .join k, .fold k, .fold k] ++ [.split k (1 + r2)])) (Us := stL us) (by simp; omega) eu
      simp only [stL, List.map_append] at this ⊢
      exact this
    rw [seq_nx q1, seq_nx q2, seq_nx q3, q4]
    simp only [Pl.d] at e
    simpa using e
end
end Dl
/-! L27g: a drawn step; the law's own look at plans. -/
namespace Dl
open PySem PySem.Spec PyProof.Rows L2 NdefX
section
variable {tbl : Nat → Option DefB} (T : HasSS tbl) {rest : World}
include T
theorem filter_go {q : Pl} (Dq : Dim q) {m : Nat} (hm : 80 ≤ m) {w : World} {b0 b1 b2 b4 b5 b6 b7 b8 b9 b10 : Sl} : ∀ sts : List Mv, (∀ s ∈ sts, s.at_ < q.L.length) →
    compGo (gN 11) (dTst (dBin gIsNot (dCall (Den tbl m) 89 (aCons (dName 3) (aCons (dName 11) aNil))) (dC .non))) (dName 11) [b0, b1, b2, .dat (.tup q.ds), b4, b5, b6, b7, b8, b9, b10, .un] (stL sts) w = .ok (stL (sts.filter fun s => (here q.L s).isSome)) w
  | [], _ => rfl
  | s :: sts, h => by
    have ih := filter_go Dq hm sts (fun x hx => h x (.tail _ hx)) (w := w) (b0 := b0) (b1 := b1) (b2 := b2) (b4 := b4) (b5 := b5) (b6 := b6) (b7 := b7) (b8 := b8) (b9 := b9) (b10 := b10)
    have e := c_lstep0 T.toHasLS27 (w := w) (n := m) Dq (h s (.head _)) hm
    simp only [Pl.d] at e
    simp only [stL, List.map_cons] at ih ⊢
    cases hh : here q.L s with
    | none =>
      rw [hh] at e
      simp only [optL] at e
      simp [go_cons, e, ih, hh]
    | some l =>
      rw [hh] at e
      simp only [optL] at e
      simp [go_cons, e, ih, hh, Dl.D.isN]
theorem c_some_step {p : Pl} (D : Dim p) {n : Nat} (hn : 90 ≤ n) {w : World} (ht : TapeOk rest w) :
    ∃ w', TapeOk rest w' ∧ ((Den tbl n).call 91 [.wref 0, .dat p.d] w = .ok (.dat .non) w' ∨ ∃ s pl p', (Den tbl n).call 91 [.wref 0, .dat p.d] w = .ok (.dat (s.d pl)) w' ∧ stepAt p pl s = some p' ∧ pl.length ≤ 4) := by
  obtain ⟨m, rfl, hm⟩ := succ_of (k := 89) (n := n) hn
  have hrun : (Den tbl (m + 1)).call 91 [.wref 0, .dat p.d] w = endR (b__law_some_step (Den tbl m) [.wref 0, .dat p.d, .un, .un, .un, .un, .un, .un, .un, .un, .un, .un] w) := by
    rw [den_succ T.t91]
    rfl
  rw [hrun, ss_eq]
  obtain ⟨pl, q, s4, s5, s6, s7, w1, e1, t1, hs, hl⟩ := place_loop T D (m := m) (by omega) (P := .dat p.d) (rngD 0 4) [] p w .un .un .un .un rfl (by decide) ht
  have Dq := D.sub pl hs
  have lq := Dq.len
  have ldq : q.ds.length = q.L.length := by rw [ds_L]; simp
  have lq2 : q.L.length ≤ 5000 := by have := len_within q; omega
  obtain ⟨sts, s6', s7', s9, s10, w2, e2, t2, hs2, hl2⟩ := steps_loop T Dq (m := m) (by omega) (P := .dat p.d) (S2 := .dat (.tup (natsD pl))) (s4 := s4) (s5 := s5) (List.range q.L.length) [] w1 s6 s7 .un .un (fun k hk => by simpa using hk) (by simp) (by simp; omega) t1
  have e3 := filter_go T Dq (m := m) (by omega) (w := w2) (b0 := .wref 0) (b1 := .dat p.d) (b2 := .dat (.tup (natsD pl))) (b4 := s4) (b5 := s5) (b6 := s6') (b7 := s7') (b8 := .dat (.lst (stL sts))) (b9 := s9) (b10 := s10) sts hs2
  generalize hf : sts.filter (fun s => (here q.L s).isSome) = fs at e3
  have hfl : fs.length ≤ 1000000 := by rw [← hf]; exact Nat.le_trans (List.length_filter_le _ _) hl2
  have k1 : ss1 (Den tbl m) [.wref 0, .dat p.d, .un, .un, .un, .un, .un, .un, .un, .un, .un, .un] w = .ok (.nx [.wref 0, .dat p.d, .dat (.tup (natsD [])), .un, .un, .un, .un, .un, .un, .un, .un, .un]) w := by simp [ss1, natsD]
  have k2 : ss2 (Den tbl m) [.wref 0, .dat p.d, .dat (.tup (natsD [])), .un, .un, .un, .un, .un, .un, .un, .un, .un] w = .ok (.nx [.wref 0, .dat p.d, .dat (.tup (natsD [])), .dat p.d, .un, .un, .un, .un, .un, .un, .un, .un]) w := by simp [ss2]
  have k3 : ss3 (Den tbl m) [.wref 0, .dat p.d, .dat (.tup (natsD [])), .dat p.d, .un, .un, .un, .un, .un, .un, .un, .un] w = .ok (.nx [.wref 0, .dat p.d, .dat (.tup (natsD pl)), .dat q.d, s4, s5, s6, s7, .un, .un, .un, .un]) w1 := by
    have : ss3 (Den tbl m) = sFor (iRange rg1 (rCons (dC (.int 4)) rNil)) (gN 4) (ssA (Den tbl m)) := rfl
    rw [this]
    simp only [sFor_ap, iRange_ap, rCons_ap, rNil_ap, dC_ap, bind_ok, vals_cons, vals_nil, val_dat, rg1_i]
    rw [if_pos (by decide)]
    exact e1
  have k4 : ss4 (Den tbl m) [.wref 0, .dat p.d, .dat (.tup (natsD pl)), .dat q.d, s4, s5, s6, s7, .un, .un, .un, .un] w1 = .ok (.nx [.wref 0, .dat p.d, .dat (.tup (natsD pl)), .dat q.d, s4, s5, s6, s7, .dat (.lst (stL [])), .un, .un, .un]) w1 := by simp [ss4]
  have k5 : ss5 (Den tbl m) [.wref 0, .dat p.d, .dat (.tup (natsD pl)), .dat q.d, s4, s5, s6, s7, .dat (.lst (stL [])), .un, .un, .un] w1 = .ok (.nx [.wref 0, .dat p.d, .dat (.tup (natsD pl)), .dat q.d, s4, s5, s6', s7', .dat (.lst (stL sts)), s9, s10, .un]) w2 := by
    have : ss5 (Den tbl m) = sFor (iRange rg1 (rCons (dBlt cLen (rCons (dName 3) rNil)) rNil)) (gN 7) (ssB (Den tbl m)) := rfl
    rw [this]
    have hr := rngD_nat q.L.length
    have z1 : q.L.length ≤ 16777216 := by omega
    have z1i : (q.L.length : Int) ≤ 16777216 := by omega
    have z2 : (q.L.length : Int) < 4611686018427387904 := by omega
    have z3 : (-4611686018427387904 : Int) ≤ q.L.length := by omega
    have e2' := e2
    simp only [Pl.d] at e2' ⊢
    simp [-sFor_ap, sFor_ap, ldq, z1, z1i, z2, z3, hr]
    simpa using e2'
  rw [seq_nx k1, seq_nx k2, seq_nx k3, seq_nx k4, seq_nx k5]
  clear k1 k2 k3 k4 k5 e1 e2
  simp only [stL] at e3
  have k6 : ss6 (Den tbl m) [.wref 0, .dat p.d, .dat (.tup (natsD pl)), .dat q.d, s4, s5, s6', s7', .dat (.lst (stL sts)), s9, s10, .un] w2 = .ok (.nx [.wref 0, .dat p.d, .dat (.tup (natsD pl)), .dat q.d, s4, s5, s6', s7', .dat (.lst (stL fs)), s9, s10, .un]) w2 := by
    simp only [stL]
    simp [ss6, e3]
  rw [seq_nx k6]
  clear k6
  by_cases h0 : fs = []
  · subst h0
    have k7 : ss7 (Den tbl m) [.wref 0, .dat p.d, .dat (.tup (natsD pl)), .dat q.d, s4, s5, s6', s7', .dat (.lst (stL [])), s9, s10, .un] w2 = .ok (.rt (.dat .non)) w2 := by simp [ss7]
    refine ⟨w2, t2, .inl ?_⟩
    rw [seq_rt k7]
    rfl
  · have hfs : 0 < fs.length := by cases fs with | nil => exact absurd rfl h0 | cons a b => simp
    obtain ⟨r, w3, e4, t3, hr⟩ := c_pick T.toHasPk (n := m) (by omega) t2 (m := fs.length) (by omega) (by omega)
    have hr2 : r < fs.length := by omega
    have ea : atI (stL fs) (r : Int) = some (fs[r].d []) := by rw [atI_get (by simpa using hr2)]; simp
    have hmem : fs[r] ∈ sts.filter (fun s => (here q.L s).isSome) := by rw [hf]; exact List.getElem_mem hr2
    generalize fs[r] = s at ea hmem
    obtain ⟨l, el⟩ := Option.isSome_iff_exists.mp (List.mem_filter.mp hmem).2
    obtain ⟨p', ep⟩ := step_sub pl p q hs el
    refine ⟨w3, t3, .inr ⟨s, pl, p', ?_, ep, hl⟩⟩
    have k7 : ss7 (Den tbl m) [.wref 0, .dat p.d, .dat (.tup (natsD pl)), .dat q.d, s4, s5, s6', s7', .dat (.lst (stL fs)), s9, s10, .un] w2 = .ok (.nx [.wref 0, .dat p.d, .dat (.tup (natsD pl)), .dat q.d, s4, s5, s6', s7', .dat (.lst (stL fs)), s9, s10, .un]) w2 := by simp [ss7, h0]
    have k8 : ss8 (Den tbl m) [.wref 0, .dat p.d, .dat (.tup (natsD pl)), .dat q.d, s4, s5, s6', s7', .dat (.lst (stL fs)), s9, s10, .un] w2 = .ok (.nx [.wref 0, .dat p.d, .dat (.tup (natsD pl)), .dat q.d, s4, s5, s6', s7', .dat (.lst (stL fs)), s9, s10, .dat (s.d [])]) w3 := by
      simp only [stL] at ea ⊢
      simp [ss8, e4, ea]
    have z3 : 2 + s.args.length ≤ sizeLine := by rw [sizeLine_eq]; cases s <;> simp [Mv.args]
    have k9 : ss9 (Den tbl m) [.wref 0, .dat p.d, .dat (.tup (natsD pl)), .dat q.d, s4, s5, s6', s7', .dat (.lst (stL fs)), s9, s10, .dat (s.d [])] w3 = .ok (.rt (.dat (s.d pl))) w3 := by
      simp [ss9, Mv.d, at_0, cut_2, z3]
    rw [seq_nx k7, seq_nx k8, k9]
    rfl
end
/-! ### the law's own look -/
theorem notin2l {rm : Nat} (h : 1 ≤ rm) {z a b : Str} : inD true rm (.str z) (.lst [.str a, .str b]) = some (.dat (.bl (!(decide (a = z) || decide (b = z))))) := by
  have e : 1 + min (depAll [.str a, .str b]) (D.str z).dep ≤ rm := by
    rw [dep_s]
    omega
  show (if 1 + min (depAll [.str a, .str b]) (D.str z).dep ≤ rm then some (RV.dat (.bl (true ^^ [D.str a, D.str b].any fun y => y.eq (.str z)))) else none) = _
  rw [if_pos e]
  simp
structure HasOL (tbl : Nat → Option DefB) : Prop where
  t92 : tbl 92 = some ⟨1, 1, b__law_is_int⟩
  t93 : tbl 93 = some ⟨2, 3, b__law_is_word⟩
  t94 : tbl 94 = some ⟨2, 3, b__law_is_plan⟩
  t95 : tbl 95 = some ⟨2, 2, b__law_is_part⟩
theorem ord_s {rm : Nat} {a b : Str} : gLt rm (.str a) (.str b) = some (.dat (.bl ((D.str a).lt (.str b)))) ∧ gGt rm (.str a) (.str b) = some (.dat (.bl ((D.str b).lt (.str a)))) := by
  have h : ordOk rm (.str a) (.str b) = true := by
    unfold ordOk
    simp only [dep_s, Nat.min_self, Nat.zero_le, decide_true, Bool.and_true]
    rfl
  constructor
  · show (if ordOk rm (.str a) (.str b) = true then some (RV.dat (.bl ((D.str a).lt (.str b)))) else none) = _
    rw [if_pos h]
  · show (if ordOk rm (.str a) (.str b) = true then some (RV.dat (.bl ((D.str b).lt (.str a)))) else none) = _
    rw [if_pos h]
theorem small_lt : ∀ c ∈ smallS.cps.toList, (D.str ⟨#[c]⟩).lt (.str "a") = false ∧ (D.str "z").lt (.str ⟨#[c]⟩) = false := by decide +kernel
section
variable {tbl : Nat → Option DefB} (T : HasOL tbl) {w : World}
include T
theorem c_lint {n : Nat} (hn : 1 ≤ n) (d : D) : (Den tbl n).call 92 [.dat d] w = .ok (.dat (.bl (isI d))) w := by
  obtain ⟨m, rfl, _⟩ := succ_of (k := 0) hn
  rw [den_succ T.t92]
  cases d <;> simp [runB, initE, toSl, b__law_is_int, D.isTy, isI]
theorem c_lword {n : Nat} (hn : 1 ≤ n) {x : Str} {k : Nat} (h1 : 1 ≤ x.length) (h2 : x.length ≤ k) (h3 : ∀ c ∈ x.cps.toList, c ∈ smallS.cps.toList) : (Den tbl n).call 93 [.dat (.str x), .dat (.int k)] w = .ok (.dat (.bl true)) w := by
  obtain ⟨m, rfl, _⟩ := succ_of (k := 0) hn
  rw [den_succ T.t93]
  have e1 : ¬ (x.length : Int) < 1 := by omega
  have e2 : ¬ (k : Int) < x.length := by omega
  have g : ∀ l : List Nat, (∀ c ∈ l, c ∈ smallS.cps.toList) → compGo (gN 2) (tOr' (dTst (dBin (gLt (Den tbl m).room) (dName 2) (dC (.str "a")))) (dTst (dBin (gGt (Den tbl m).room) (dName 2) (dC (.str "z"))))) (dName 2) [.dat (.str x), .dat (.int k), .un] (l.map fun c => D.str ⟨#[c]⟩) w = .ok [] w := by
    intro l
    induction l with
    | nil => intro _; rfl
    | cons c l ih =>
      intro h
      have ih := ih (fun y hy => h y (.tail _ hy))
      obtain ⟨s1, s2⟩ := small_lt c (h c (.head _))
      simp [go_cons, ord_s, s1, s2, ih]
  have g := g x.cps.toList h3
  have hc : chs x = x.cps.toList.map fun c => D.str ⟨#[c]⟩ := rfl
  rw [← hc] at g
  simp [runB, initE, toSl, b__law_is_word, D.isTy, e1, e2, iTxt, g]
mutual
theorem c_lpart : ∀ (p : Pa) (k n : Nat), p.ok k = true → 2 * p.dep + 3 ≤ n → (Den tbl n).call 95 [.dat p.d, .dat (.int k)] w = .ok (.dat (.bl true)) w
  | .name x, k, n, h, hn => by
    obtain ⟨m, rfl, hm⟩ := succ_of (k := 2) (n := n) (by simp only [Pa.dep] at hn; omega)
    rw [den_succ T.t95]
    simp only [Pa.ok, wordB, Bool.and_eq_true, decide_eq_true_eq, List.all_eq_true] at h
    have e := c_lword T (n := m) (w := w) (by omega) (k := 8) h.1.1 h.1.2 (by simpa using h.2)
    simp only [Int.cast_ofNat_Int] at e
    simp [runB, initE, toSl, b__law_is_part, Pa.d, D.isTy, at_0, at_1, e]
  | .mark j, k, n, h, hn => by
    obtain ⟨m, rfl, hm⟩ := succ_of (k := 2) (n := n) (by simp only [Pa.dep] at hn; omega)
    rw [den_succ T.t95]
    have e := c_lint T (n := m) (w := w) (by omega) (.int j)
    have e2 : ¬ (j : Int) < 0 := by omega
    simp [runB, initE, toSl, b__law_is_part, Pa.d, D.isTy, at_0, at_1, e, e2, isI, ne_1]
  | .got j, k, n, h, hn => by
    obtain ⟨m, rfl, hm⟩ := succ_of (k := 2) (n := n) (by simp only [Pa.dep] at hn; omega)
    rw [den_succ T.t95]
    have e := c_lint T (n := m) (w := w) (by omega) (.int j)
    have e2 : ¬ (j : Int) < 0 := by omega
    simp only [Pa.ok, decide_eq_true_eq] at h
    simp [runB, initE, toSl, b__law_is_part, Pa.d, D.isTy, at_0, at_1, e, e2, isI, ne_2, ne_3, h]
  | .letter x b, k, n, h, hn => by
    simp only [Pa.dep] at hn
    obtain ⟨m, rfl, hm⟩ := succ_of (k := 2) (n := n) (by omega)
    obtain ⟨m', rfl, hm'⟩ := succ_of (k := 1) (n := m) (by omega)
    rw [den_succ T.t95]
    simp only [Pa.ok, doorB, wordB, Bool.and_eq_true, decide_eq_true_eq, List.all_eq_true] at h
    have e := c_lword T (n := m' + 1) (w := w) (by omega) (k := 1) (x := x) h.1.1.1.1 (by omega) (by simpa using h.1.1.2)
    simp only [Int.cast_ofNat_Int] at e
    have hb : (Den tbl (m' + 1)).call 94 [.dat (.tup b.ds), .dat (.int k)] w = .ok (.dat (.bl true)) w := by
      rw [den_succ T.t94]
      obtain ⟨s', e⟩ := c_lloop b (.tup b.ds) k m' .un h.2 (by omega)
      simp [runB, initE, toSl, b__law_is_plan, D.isTy, e]
    have hr := fun (z a c : Str) => notin2l (rm := (Den tbl (m' + 1)).room) (z := z) (a := a) (b := c) (by rw [den_room]; omega)
    simp [runB, initE, toSl, b__law_is_part, Pa.d, D.isTy, at_0, at_1, at_2, e, hr, hb, ne_4]
  | .wait x b, k, n, h, hn => by
    simp only [Pa.dep] at hn
    obtain ⟨m, rfl, hm⟩ := succ_of (k := 2) (n := n) (by omega)
    obtain ⟨m', rfl, hm'⟩ := succ_of (k := 1) (n := m) (by omega)
    rw [den_succ T.t95]
    simp only [Pa.ok, doorB, wordB, Bool.and_eq_true, decide_eq_true_eq, List.all_eq_true] at h
    have e := c_lword T (n := m' + 1) (w := w) (by omega) (k := 1) (x := x) h.1.1.1.1 (by omega) (by simpa using h.1.1.2)
    simp only [Int.cast_ofNat_Int] at e
    have hb : (Den tbl (m' + 1)).call 94 [.dat (.tup b.ds), .dat (.int (k + 1))] w = .ok (.dat (.bl true)) w := by
      rw [den_succ T.t94]
      obtain ⟨s', e⟩ := c_lloop b (.tup b.ds) (k + 1) m' .un h.2 (by omega)
      simp only [Int.natCast_add, Int.cast_ofNat_Int] at e
      simp [runB, initE, toSl, b__law_is_plan, D.isTy, e]
    have hr := fun (z a c : Str) => notin2l (rm := (Den tbl (m' + 1)).room) (z := z) (a := a) (b := c) (by rw [den_room]; omega)
    simp [runB, initE, toSl, b__law_is_part, Pa.d, D.isTy, at_0, at_1, at_2, e, hr, hb]
theorem c_lloop : ∀ (r : Pl) (P : D) (k m : Nat) (s : Sl), r.ok k = true → 2 * r.dep + 3 ≤ m →
    ∃ s', forGo (gN 2) (sSeq (sIf (tOr' (tNot' (dTru (dUn (gIsi [.tuple]) (dName 2)))) (tOr' (dTst (dBin (gNe (Den tbl m).room) (dBlt cLen (rCons (dName 2) rNil)) (dC (.int 2)))) (tOr' (tNot' (dTru (dCall (Den tbl m) 92 (aCons (dBin gIx (dName 2) (dC (.int 0))) aNil)))) (dTst (dBin (gLt (Den tbl m).room) (dBin gIx (dName 2) (dC (.int 0))) (dC (.int 1))))))) (sRet (dC (.bl false))) sNil)
  (sIf (tNot' (dTru (dCall (Den tbl m) 95 (aCons (dBin gIx (dName 2) (dC (.int 1))) (aCons (dName 1) aNil))))) (sRet (dC (.bl false))) sNil)) r.ds [.dat P, .dat (.int k), s] w = .ok (.nx [.dat P, .dat (.int k), s']) w
  | .nil, P, k, m, s, h, hm => ⟨s, by simp [Pl.ds]⟩
  | .cons c p r, P, k, m, s, h, hm => by
    simp only [Pl.dep] at hm
    simp only [Pl.ok, Bool.and_eq_true, decide_eq_true_eq] at h
    have h1 := c_lpart p k m h.1.2 (by omega)
    obtain ⟨s', h2⟩ := c_lloop r P k m (.dat (.tup [.int c, p.d])) h.2 (by omega)
    have e1 := c_lint T (n := m) (w := w) (by omega) (.int c)
    have e2 : ¬ (c : Int) < 1 := by omega
    have e3 : ¬ c < 1 := by omega
    have e4 : ¬ c = 0 := by omega
    refine ⟨s', ?_⟩
    simp [Pl.ds, for_cons, D.isTy, at_0, at_1, e1, e2, e3, e4, isI, h1, h2]
end
theorem c_lplanok {p : Pl} {k n : Nat} (h : p.ok k = true) (hn : 2 * p.dep + 4 ≤ n) : (Den tbl n).call 94 [.dat p.d, .dat (.int k)] w = .ok (.dat (.bl true)) w := by
  obtain ⟨m, rfl, hm⟩ := succ_of (k := 2 * p.dep + 3) hn
  rw [den_succ T.t94]
  obtain ⟨s', e⟩ := c_lloop T (w := w) p (.tup p.ds) k m .un h hm
  simp [runB, initE, toSl, b__law_is_plan, D.isTy, e]
end
end Dl
namespace Dl
open PySem PySem.Spec PyProof.Rows L2 NdefX
namespace K27
def top (i : Nat) : Stmt := PySem.Challenge.pw_sealedplans_k27_whole_steps_by_own_rules.main.body.getD i (.Pass ⟨0, 0, 0, 0⟩)
abbrev FnP (K : PySem.W.Frag) (x : Str) (st : Stmt) (f : Addr) (fd : FuncData) : Prop := FunD K x x (defArgs st) (defBody st) (defScope st) [] [] f fd
def rowsD : List (Nat × DefB) := [(1, ⟨1, 1, b_is_integer⟩), (2, ⟨3, 3, b_is_within⟩), (4, ⟨1, 1, b_is_pair⟩), (27, ⟨1, 1, b_is_triple⟩), (24, ⟨1, 2, b_is_word⟩), (26, ⟨1, 1, b_is_door⟩), (28, ⟨2, 2, b_is_part⟩), (25, ⟨2, 3, b_is_plan_in⟩), (31, ⟨1, 1, b_check_plan⟩), (30, ⟨1, 1, b_part_size⟩), (29, ⟨1, 3, b_size_of⟩), (47, ⟨1, 1, b_size⟩), (32, ⟨1, 4, b_parts_within⟩), (52, ⟨1, 1, b_items_in⟩), (51, ⟨1, 3, b_nesting⟩), (34, ⟨3, 8, b_mapped⟩), (57, ⟨3, 4, b_raised⟩), (84, ⟨1, 2, b_has_step_form⟩), (78, ⟨2, 2, b_joined_pair⟩), (79, ⟨2, 4, b_split_item⟩), (80, ⟨1, 6, b_folded_item⟩), (81, ⟨2, 5, b_unfolded_item⟩), (83, ⟨2, 6, b_done_here⟩), (82, ⟨3, 7, b_done_at⟩), (85, ⟨2, 3, b_step_done⟩), (96, ⟨2, 3, b_stepped⟩), (22, ⟨1, 1, b__law_tape⟩), (11, ⟨2, 5, b__law_pick⟩), (87, ⟨5, 9, b__law_plan_87⟩), (86, ⟨5, 8, b__law_part_86⟩), (38, ⟨1, 1, b__law_part_size⟩), (41, ⟨1, 3, b__law_size⟩), (88, ⟨3, 6, b__law_raise⟩), (89, ⟨2, 10, b__law_step⟩), (98, ⟨1, 6, b__law_rich⟩), (90, ⟨2, 5, b__law_great_90⟩), (91, ⟨2, 12, b__law_some_step⟩), (99, ⟨3, 7, b__law_walk⟩), (97, ⟨2, 5, b__law_undoing⟩), (92, ⟨1, 1, b__law_is_int⟩), (93, ⟨2, 3, b__law_is_word⟩), (95, ⟨2, 2, b__law_is_part⟩), (94, ⟨2, 3, b__law_is_plan⟩), (100, ⟨1, 9, b_law_100⟩), (55, ⟨4, 4, b_raised'clo⟩)]
def tbl (i : Nat) : Option DefB := rowsD.lookup i
def x_raised : ND := ⟨"lift", "raised.<locals>.lift", C8.fnArgs (stAt 0 (defBody (top 26))), .inl (C8.fnBody (stAt 0 (defBody (top 26)))), C8.fnScope (stAt 0 (defBody (top 26))), ["part", "depth"], ["least", "by"]⟩
def ndT (i : Nat) : Option ND := if i = 55 then some x_raised else none
abbrev T0 (cts : Cts) : Tbs := TT ndT cts
structure Facts (K : PySem.W.Frag) (w : PySem.World) (mg : Str → Option Value) (cts : Cts) : Prop where
  f_is_integer : ∃ a fd, mg "is_integer" = some (.ref a) ∧ FnP K "is_integer" (top 7) a fd
  f_is_within : ∃ a fd, mg "is_within" = some (.ref a) ∧ FnP K "is_within" (top 8) a fd
  f_is_pair : ∃ a fd, mg "is_pair" = some (.ref a) ∧ FnP K "is_pair" (top 9) a fd
  f_is_triple : ∃ a fd, mg "is_triple" = some (.ref a) ∧ FnP K "is_triple" (top 10) a fd
  f_is_word : ∃ a fd, mg "is_word" = some (.ref a) ∧ FnP K "is_word" (top 11) a fd
  f_is_door : ∃ a fd, mg "is_door" = some (.ref a) ∧ FnP K "is_door" (top 12) a fd
  f_is_part : ∃ a fd, mg "is_part" = some (.ref a) ∧ FnP K "is_part" (top 13) a fd
  f_is_plan_in : ∃ a fd, mg "is_plan_in" = some (.ref a) ∧ FnP K "is_plan_in" (top 14) a fd
  f_check_plan : ∃ a fd, mg "check_plan" = some (.ref a) ∧ FnP K "check_plan" (top 15) a fd
  f_part_size : ∃ a fd, mg "part_size" = some (.ref a) ∧ FnP K "part_size" (top 19) a fd
  f_size_of : ∃ a fd, mg "size_of" = some (.ref a) ∧ FnP K "size_of" (top 20) a fd
  f_size : ∃ a fd, mg "size" = some (.ref a) ∧ FnP K "size" (top 21) a fd
  f_parts_within : ∃ a fd, mg "parts_within" = some (.ref a) ∧ FnP K "parts_within" (top 22) a fd
  f_items_in : ∃ a fd, mg "items_in" = some (.ref a) ∧ FnP K "items_in" (top 23) a fd
  f_nesting : ∃ a fd, mg "nesting" = some (.ref a) ∧ FnP K "nesting" (top 24) a fd
  f_mapped : ∃ a fd, mg "mapped" = some (.ref a) ∧ FnP K "mapped" (top 25) a fd
  f_raised : ∃ a fd c Pt, mg "raised" = some (.ref a) ∧ FnP K "raised" (top 26) a fd ∧ fd.code = .ref c ∧ ((c, Pt, ("raised.<locals>.lift" : Str)) : Addr × Addr × Str) ∈ cts
  f_has_step_form : ∃ a fd, mg "has_step_form" = some (.ref a) ∧ FnP K "has_step_form" (top 29) a fd
  f_joined_pair : ∃ a fd, mg "joined_pair" = some (.ref a) ∧ FnP K "joined_pair" (top 30) a fd
  f_split_item : ∃ a fd, mg "split_item" = some (.ref a) ∧ FnP K "split_item" (top 31) a fd
  f_folded_item : ∃ a fd, mg "folded_item" = some (.ref a) ∧ FnP K "folded_item" (top 32) a fd
  f_unfolded_item : ∃ a fd, mg "unfolded_item" = some (.ref a) ∧ FnP K "unfolded_item" (top 33) a fd
  f_done_here : ∃ a fd, mg "done_here" = some (.ref a) ∧ FnP K "done_here" (top 34) a fd
  f_done_at : ∃ a fd, mg "done_at" = some (.ref a) ∧ FnP K "done_at" (top 35) a fd
  f_step_done : ∃ a fd, mg "step_done" = some (.ref a) ∧ FnP K "step_done" (top 36) a fd
  f_stepped : ∃ a fd, mg "stepped" = some (.ref a) ∧ FnP K "stepped" (top 37) a fd
  f__law_tape : ∃ a fd, mg "_law_tape" = some (.ref a) ∧ FnP K "_law_tape" (top 39) a fd
  f__law_pick : ∃ a fd, mg "_law_pick" = some (.ref a) ∧ FnP K "_law_pick" (top 40) a fd
  f__law_plan : ∃ a fd, mg "_law_plan" = some (.ref a) ∧ FnP K "_law_plan" (top 41) a fd
  f__law_part : ∃ a fd, mg "_law_part" = some (.ref a) ∧ FnP K "_law_part" (top 42) a fd
  f__law_part_size : ∃ a fd, mg "_law_part_size" = some (.ref a) ∧ FnP K "_law_part_size" (top 43) a fd
  f__law_size : ∃ a fd, mg "_law_size" = some (.ref a) ∧ FnP K "_law_size" (top 44) a fd
  f__law_raise : ∃ a fd, mg "_law_raise" = some (.ref a) ∧ FnP K "_law_raise" (top 45) a fd
  f__law_step : ∃ a fd, mg "_law_step" = some (.ref a) ∧ FnP K "_law_step" (top 46) a fd
  f__law_rich : ∃ a fd, mg "_law_rich" = some (.ref a) ∧ FnP K "_law_rich" (top 47) a fd
  f__law_great : ∃ a fd, mg "_law_great" = some (.ref a) ∧ FnP K "_law_great" (top 48) a fd
  f__law_some_step : ∃ a fd, mg "_law_some_step" = some (.ref a) ∧ FnP K "_law_some_step" (top 49) a fd
  f__law_walk : ∃ a fd, mg "_law_walk" = some (.ref a) ∧ FnP K "_law_walk" (top 50) a fd
  f__law_undoing : ∃ a fd, mg "_law_undoing" = some (.ref a) ∧ FnP K "_law_undoing" (top 51) a fd
  f__law_is_int : ∃ a fd, mg "_law_is_int" = some (.ref a) ∧ FnP K "_law_is_int" (top 52) a fd
  f__law_is_word : ∃ a fd, mg "_law_is_word" = some (.ref a) ∧ FnP K "_law_is_word" (top 53) a fd
  f__law_is_part : ∃ a fd, mg "_law_is_part" = some (.ref a) ∧ FnP K "_law_is_part" (top 54) a fd
  f__law_is_plan : ∃ a fd, mg "_law_is_plan" = some (.ref a) ∧ FnP K "_law_is_plan" (top 55) a fd
  f_law : ∃ a fd, mg "law" = some (.ref a) ∧ FnP K "law" (top 56) a fd
  h_all : mg "all" = none
  h_bool : mg "bool" = none
  h_int : mg "int" = none
  h_isinstance : mg "isinstance" = none
  h_len : mg "len" = none
  h_list : mg "list" = none
  h_max : mg "max" = none
  h_min : mg "min" = none
  h_range : mg "range" = none
  h_str : mg "str" = none
  h_sum : mg "sum" = none
  h_tuple : mg "tuple" = none
  k_SMALL : ∃ t, mg "SMALL" = some (.str "abcdefghijklmnopqrstuvwxyz" t)
  k_MOST_WORD : ∃ t, mg "MOST_WORD" = some (.int 8 t)
  k_MOST_NESTED : ∃ t, mg "MOST_NESTED" = some (.int 120 t)
  k_MOST_ITEMS : ∃ t, mg "MOST_ITEMS" = some (.int 5000 t)
  d_LENGTHS : TabAt K w mg "LENGTHS" t_LENGTHS
structure Defs (P : Program) (w : PySem.World) (K : PySem.W.Frag) (mg : Str → Option Value) (base : Heap) (cts : Cts) (n : Nat) : Prop where
  c_is_integer : Dfn P w K mg base (T0 cts) (Den tbl n) n "is_integer" 1
  c_is_within : Dfn P w K mg base (T0 cts) (Den tbl n) n "is_within" 2
  c_is_pair : Dfn P w K mg base (T0 cts) (Den tbl n) n "is_pair" 4
  c_is_triple : Dfn P w K mg base (T0 cts) (Den tbl n) n "is_triple" 27
  c_is_word : Dfn P w K mg base (T0 cts) (Den tbl n) n "is_word" 24
  c_is_door : Dfn P w K mg base (T0 cts) (Den tbl n) n "is_door" 26
  c_is_part : Dfn P w K mg base (T0 cts) (Den tbl n) n "is_part" 28
  c_is_plan_in : Dfn P w K mg base (T0 cts) (Den tbl n) n "is_plan_in" 25
  c_check_plan : Dfn P w K mg base (T0 cts) (Den tbl n) n "check_plan" 31
  c_part_size : Dfn P w K mg base (T0 cts) (Den tbl n) n "part_size" 30
  c_size_of : Dfn P w K mg base (T0 cts) (Den tbl n) n "size_of" 29
  c_size : Dfn P w K mg base (T0 cts) (Den tbl n) n "size" 47
  c_parts_within : Dfn P w K mg base (T0 cts) (Den tbl n) n "parts_within" 32
  c_items_in : Dfn P w K mg base (T0 cts) (Den tbl n) n "items_in" 52
  c_nesting : Dfn P w K mg base (T0 cts) (Den tbl n) n "nesting" 51
  c_mapped : Dfn P w K mg base (T0 cts) (Den tbl n) n "mapped" 34
  c_raised : Dfn P w K mg base (T0 cts) (Den tbl n) n "raised" 57
  c_has_step_form : Dfn P w K mg base (T0 cts) (Den tbl n) n "has_step_form" 84
  c_joined_pair : Dfn P w K mg base (T0 cts) (Den tbl n) n "joined_pair" 78
  c_split_item : Dfn P w K mg base (T0 cts) (Den tbl n) n "split_item" 79
  c_folded_item : Dfn P w K mg base (T0 cts) (Den tbl n) n "folded_item" 80
  c_unfolded_item : Dfn P w K mg base (T0 cts) (Den tbl n) n "unfolded_item" 81
  c_done_here : Dfn P w K mg base (T0 cts) (Den tbl n) n "done_here" 83
  c_done_at : Dfn P w K mg base (T0 cts) (Den tbl n) n "done_at" 82
  c_step_done : Dfn P w K mg base (T0 cts) (Den tbl n) n "step_done" 85
  c_stepped : Dfn P w K mg base (T0 cts) (Den tbl n) n "stepped" 96
  c__law_tape : Dfn P w K mg base (T0 cts) (Den tbl n) n "_law_tape" 22
  c__law_pick : Dfn P w K mg base (T0 cts) (Den tbl n) n "_law_pick" 11
  c__law_plan : Dfn P w K mg base (T0 cts) (Den tbl n) n "_law_plan" 87
  c__law_part : Dfn P w K mg base (T0 cts) (Den tbl n) n "_law_part" 86
  c__law_part_size : Dfn P w K mg base (T0 cts) (Den tbl n) n "_law_part_size" 38
  c__law_size : Dfn P w K mg base (T0 cts) (Den tbl n) n "_law_size" 41
  c__law_raise : Dfn P w K mg base (T0 cts) (Den tbl n) n "_law_raise" 88
  c__law_step : Dfn P w K mg base (T0 cts) (Den tbl n) n "_law_step" 89
  c__law_rich : Dfn P w K mg base (T0 cts) (Den tbl n) n "_law_rich" 98
  c__law_great : Dfn P w K mg base (T0 cts) (Den tbl n) n "_law_great" 90
  c__law_some_step : Dfn P w K mg base (T0 cts) (Den tbl n) n "_law_some_step" 91
  c__law_walk : Dfn P w K mg base (T0 cts) (Den tbl n) n "_law_walk" 99
  c__law_undoing : Dfn P w K mg base (T0 cts) (Den tbl n) n "_law_undoing" 97
  c__law_is_int : Dfn P w K mg base (T0 cts) (Den tbl n) n "_law_is_int" 92
  c__law_is_word : Dfn P w K mg base (T0 cts) (Den tbl n) n "_law_is_word" 93
  c__law_is_part : Dfn P w K mg base (T0 cts) (Den tbl n) n "_law_is_part" 95
  c__law_is_plan : Dfn P w K mg base (T0 cts) (Den tbl n) n "_law_is_plan" 94
  c_law : Dfn P w K mg base (T0 cts) (Den tbl n) n "law" 100
  clos : Clos P w K mg base (T0 cts) (Den tbl n) n
section
variable {P : Program} {w : PySem.World} {K : PySem.W.Frag} {mg : Str → Option Value} {base : Heap} {n : Nat} {cts : Cts}
theorem sc_x_raised : NScope ["part", "depth", "least", "by"] x_raised.ps x_raised.fr x_raised.scope := nscope_by (by decide +kernel)
theorem ck_raised {caps : List D} (E : Facts K w mg cts) (D : Defs P w K mg base cts n) (hc : caps.length = x_raised.fr.length) : COk P w K mg base (n + 1) x_raised (spC ⟨K, mg, (T0 cts)⟩ ((Den tbl (n + 1)).call 55) caps) := by
  refine clo_def (N := ["part", "depth", "least", "by"]) (nd := x_raised) (b := (C8.fnBody (stAt 0 (defBody (top 26))))) (bd := b_raised'clo) rfl sc_x_raised (fun cl c' doc pm ctv us hl => match us, hl with | [_, _], _ => rfl) rfl hc fun f cl c' A outer s H E0 hr => ?_
  have nd : (["part", "depth", "least", "by"] : List Str).Nodup := sc_x_raised.nd
  have hu : (A.deeper (envF ((x_raised).nf (C8.fnBody (stAt 0 (defBody (top 26)))) cl c') f s.heap.objs.size)).units + (Den tbl n).room < cLine := by rw [den_room]; have := hr.un; omega
  unfold b_raised'clo
  refine jss_cons ?_ ?_
  · refine js_if (jt_bool (jw_and (jt_cmp (os_eq hu) (je_ix (je_name (pv 0)) je_int) je_str) (jw_and1 (jt_cmp (os_ge hu) (je_ix (je_name (pv 0)) je_int) (je_bin os_add (je_name (pv 1)) (je_name (pv 2))))))) ?_ ?_
    · refine jss_one ?_
      exact (js_ret (je_tup (ja_cons (je_tup (ja_cons je_int (ja_cons (je_tup (ja_cons je_str (ja_cons (je_bin os_add (je_ix (je_name (pv 0)) je_int) (je_name (pv 3))) ja_nil))) ja_nil))) ja_nil)))
    exact jss_nil
  refine jss_one ?_
  exact (js_ret (je_tup (ja_cons (je_tup (ja_cons je_int (ja_cons (je_name (pv 0)) ja_nil))) ja_nil)))
theorem cls_succ (E : Facts K w mg cts) (D : Defs P w K mg base cts n) : Clos P w K mg base (T0 cts) (Den tbl (n + 1)) (n + 1) := by
  intro i nd caps hi hc
  have hi : ndT i = some nd := hi
  unfold ndT at hi
  split at hi
  · rename_i ei; cases hi; subst ei; exact ck_raised E D hc
  · cases hi
theorem sc_is_integer : FnScope ["thing"] ["thing"] (defScope (top 7)) := ⟨rfl, rfl, rfl, by decide +kernel, rfl, by decide +kernel, by decide +kernel⟩
theorem fo_is_integer (E : Facts K w mg cts) (D : Defs P w K mg base cts n) {f : Addr} {fd : FuncData} (F : FnP K "is_integer" (top 7) f fd) : FnOk P w K mg base (L2.CX P w) (n + 1) f fd ["thing"] (spD ⟨K, mg, (T0 cts)⟩ ((Den tbl (n + 1)).call 1)) := by
  refine def_ok F sc_is_integer (bd := b_is_integer) rfl fun cdv A outer s H E0 hr => ?_
  have nd := (sc_is_integer).nd
  have hu : (A.deeper (envOfC "is_integer" (defScope (top 7)) s.heap.objs.size f cdv)).units + (Den tbl n).room < cLine := by rw [den_room]; have := hr.un; omega
  have tk : Takes (cxOf (L2.CX P w) P w K mg base ["thing"] "is_integer" (defScope (top 7)) f cdv A outer s H E0) (fun cls d _ H => E0 cls d H) := takes_of rfl rfl rfl rfl
  unfold b_is_integer
  refine jss_one ?_
  exact (js_ret (je_and (je_isi rfl E.h_isinstance rfl E.h_int (by decide +kernel) (je_name (pv 0))) (je_one (je_not (je_isi rfl E.h_isinstance rfl E.h_bool (by decide +kernel) (je_name (pv 0)))))))
theorem ok_is_integer (E : Facts K w mg cts) (B : Makes base mg cts) (D : Defs P w K mg base cts n) : Dfn P w K mg base (T0 cts) (Den tbl (n + 1)) (n + 1) "is_integer" 1 := by
  obtain ⟨f, fd, hf, F⟩ := E.f_is_integer
  exact ⟨f, fd, ["thing"], hf, F.kp, F.bindsN fun _ _ _ _ _ _ us hl => (match us, hl with | [_], _ => rfl), fo_is_integer E D F⟩
theorem sc_is_within : FnScope ["thing", "least", "most"] ["thing", "least", "most"] (defScope (top 8)) := ⟨rfl, rfl, rfl, by decide +kernel, rfl, by decide +kernel, by decide +kernel⟩
theorem fo_is_within (E : Facts K w mg cts) (D : Defs P w K mg base cts n) {f : Addr} {fd : FuncData} (F : FnP K "is_within" (top 8) f fd) : FnOk P w K mg base (L2.CX P w) (n + 1) f fd ["thing", "least", "most"] (spD ⟨K, mg, (T0 cts)⟩ ((Den tbl (n + 1)).call 2)) := by
  refine def_ok F sc_is_within (bd := b_is_within) rfl fun cdv A outer s H E0 hr => ?_
  have nd := (sc_is_within).nd
  have hu : (A.deeper (envOfC "is_within" (defScope (top 8)) s.heap.objs.size f cdv)).units + (Den tbl n).room < cLine := by rw [den_room]; have := hr.un; omega
  have tk : Takes (cxOf (L2.CX P w) P w K mg base ["thing", "least", "most"] "is_within" (defScope (top 8)) f cdv A outer s H E0) (fun cls d _ H => E0 cls d H) := takes_of rfl rfl rfl rfl
  unfold b_is_within
  refine jss_one ?_
  exact (js_ret (je_and (je_call D.c_is_integer.cal hr tk rfl (ja_cons (je_name (pv 0)) ja_nil)) (je_one (je_chain (os_le hu) (os_le hu) (je_name (pv 1)) (je_name (pv 0)) (je_name (pv 2))))))
theorem ok_is_within (E : Facts K w mg cts) (B : Makes base mg cts) (D : Defs P w K mg base cts n) : Dfn P w K mg base (T0 cts) (Den tbl (n + 1)) (n + 1) "is_within" 2 := by
  obtain ⟨f, fd, hf, F⟩ := E.f_is_within
  exact ⟨f, fd, ["thing", "least", "most"], hf, F.kp, F.bindsN fun _ _ _ _ _ _ us hl => (match us, hl with | [_, _, _], _ => rfl), fo_is_within E D F⟩
theorem sc_is_pair : FnScope ["thing"] ["thing"] (defScope (top 9)) := ⟨rfl, rfl, rfl, by decide +kernel, rfl, by decide +kernel, by decide +kernel⟩
theorem fo_is_pair (E : Facts K w mg cts) (D : Defs P w K mg base cts n) {f : Addr} {fd : FuncData} (F : FnP K "is_pair" (top 9) f fd) : FnOk P w K mg base (L2.CX P w) (n + 1) f fd ["thing"] (spD ⟨K, mg, (T0 cts)⟩ ((Den tbl (n + 1)).call 4)) := by
  refine def_ok F sc_is_pair (bd := b_is_pair) rfl fun cdv A outer s H E0 hr => ?_
  have nd := (sc_is_pair).nd
  have hu : (A.deeper (envOfC "is_pair" (defScope (top 9)) s.heap.objs.size f cdv)).units + (Den tbl n).room < cLine := by rw [den_room]; have := hr.un; omega
  have tk : Takes (cxOf (L2.CX P w) P w K mg base ["thing"] "is_pair" (defScope (top 9)) f cdv A outer s H E0) (fun cls d _ H => E0 cls d H) := takes_of rfl rfl rfl rfl
  unfold b_is_pair
  refine jss_one ?_
  exact (js_ret (je_and (je_isi rfl E.h_isinstance rfl E.h_tuple (by decide +kernel) (je_name (pv 0))) (je_one (je_cmp (os_eq hu) (je_blt cs_len rfl E.h_len boot_len (jr_cons (je_name (pv 0)) jr_nil)) je_int))))
theorem ok_is_pair (E : Facts K w mg cts) (B : Makes base mg cts) (D : Defs P w K mg base cts n) : Dfn P w K mg base (T0 cts) (Den tbl (n + 1)) (n + 1) "is_pair" 4 := by
  obtain ⟨f, fd, hf, F⟩ := E.f_is_pair
  exact ⟨f, fd, ["thing"], hf, F.kp, F.bindsN fun _ _ _ _ _ _ us hl => (match us, hl with | [_], _ => rfl), fo_is_pair E D F⟩
theorem sc_is_triple : FnScope ["thing"] ["thing"] (defScope (top 10)) := ⟨rfl, rfl, rfl, by decide +kernel, rfl, by decide +kernel, by decide +kernel⟩
theorem fo_is_triple (E : Facts K w mg cts) (D : Defs P w K mg base cts n) {f : Addr} {fd : FuncData} (F : FnP K "is_triple" (top 10) f fd) : FnOk P w K mg base (L2.CX P w) (n + 1) f fd ["thing"] (spD ⟨K, mg, (T0 cts)⟩ ((Den tbl (n + 1)).call 27)) := by
  refine def_ok F sc_is_triple (bd := b_is_triple) rfl fun cdv A outer s H E0 hr => ?_
  have nd := (sc_is_triple).nd
  have hu : (A.deeper (envOfC "is_triple" (defScope (top 10)) s.heap.objs.size f cdv)).units + (Den tbl n).room < cLine := by rw [den_room]; have := hr.un; omega
  have tk : Takes (cxOf (L2.CX P w) P w K mg base ["thing"] "is_triple" (defScope (top 10)) f cdv A outer s H E0) (fun cls d _ H => E0 cls d H) := takes_of rfl rfl rfl rfl
  unfold b_is_triple
  refine jss_one ?_
  exact (js_ret (je_and (je_isi rfl E.h_isinstance rfl E.h_tuple (by decide +kernel) (je_name (pv 0))) (je_one (je_cmp (os_eq hu) (je_blt cs_len rfl E.h_len boot_len (jr_cons (je_name (pv 0)) jr_nil)) je_int))))
theorem ok_is_triple (E : Facts K w mg cts) (B : Makes base mg cts) (D : Defs P w K mg base cts n) : Dfn P w K mg base (T0 cts) (Den tbl (n + 1)) (n + 1) "is_triple" 27 := by
  obtain ⟨f, fd, hf, F⟩ := E.f_is_triple
  exact ⟨f, fd, ["thing"], hf, F.kp, F.bindsN fun _ _ _ _ _ _ us hl => (match us, hl with | [_], _ => rfl), fo_is_triple E D F⟩
theorem sc_is_word : FnScope ["thing", "sign"] ["thing"] (defScope (top 11)) := ⟨rfl, rfl, rfl, by decide +kernel, rfl, by decide +kernel, by decide +kernel⟩
theorem fo_is_word (E : Facts K w mg cts) (D : Defs P w K mg base cts n) {f : Addr} {fd : FuncData} (F : FnP K "is_word" (top 11) f fd) : FnOk P w K mg base (L2.CX P w) (n + 1) f fd ["thing"] (spD ⟨K, mg, (T0 cts)⟩ ((Den tbl (n + 1)).call 24)) := by
  refine def_ok F sc_is_word (bd := b_is_word) rfl fun cdv A outer s H E0 hr => ?_
  have nd := (sc_is_word).nd
  have hu : (A.deeper (envOfC "is_word" (defScope (top 11)) s.heap.objs.size f cdv)).units + (Den tbl n).room < cLine := by rw [den_room]; have := hr.un; omega
  have tk : Takes (cxOf (L2.CX P w) P w K mg base ["thing", "sign"] "is_word" (defScope (top 11)) f cdv A outer s H E0) (fun cls d _ H => E0 cls d H) := takes_of rfl rfl rfl rfl
  unfold b_is_word
  refine jss_cons ?_ ?_
  · refine js_if (jt_bool (jw_or (jt_not (jt_truth (je_isi rfl E.h_isinstance rfl E.h_str (by decide +kernel) (je_name (pv 0))))) (jw_or1 (jt_not (jt_chain (os_le hu) (os_le hu) je_int (je_blt cs_len rfl E.h_len boot_len (jr_cons (je_name (pv 0)) jr_nil)) (je_const (pe_globI rfl E.k_MOST_WORD) (fun _ => .int _))))))) ?_ ?_
    · refine jss_one ?_
      exact (js_ret je_bl)
    exact jss_nil
  refine jss_one ?_
  exact (js_ret (je_blt (cs_all rfl) rfl E.h_all (by decide +kernel) (jr_cons (je_comp rfl nd (ji_txt (je_name (pv 0))) (blkOk_by (N := ["thing", "sign"]) (sc := defScope (top 11)) (own := [("sign", 1)]) (by decide +kernel)) (us := [1]) rfl (by decide) (fun _ _ _ _ _ => (jg_name (pg_name (i := 1) nd rfl (by first | exact .inl rfl | exact .inr rfl)))) (fun _ _ _ _ _ => jts_nil) (fun _ _ _ _ _ => (je_cmp (os_in hu) (je_name (pv 1)) (je_const (pe_globS rfl E.k_SMALL) (fun _ => .str _ ⟨by decide +kernel, by decide +kernel⟩))))) jr_nil)))
theorem ok_is_word (E : Facts K w mg cts) (B : Makes base mg cts) (D : Defs P w K mg base cts n) : Dfn P w K mg base (T0 cts) (Den tbl (n + 1)) (n + 1) "is_word" 24 := by
  obtain ⟨f, fd, hf, F⟩ := E.f_is_word
  exact ⟨f, fd, ["thing"], hf, F.kp, F.bindsN fun _ _ _ _ _ _ us hl => (match us, hl with | [_], _ => rfl), fo_is_word E D F⟩
theorem sc_is_door : FnScope ["thing"] ["thing"] (defScope (top 12)) := ⟨rfl, rfl, rfl, by decide +kernel, rfl, by decide +kernel, by decide +kernel⟩
theorem fo_is_door (E : Facts K w mg cts) (D : Defs P w K mg base cts n) {f : Addr} {fd : FuncData} (F : FnP K "is_door" (top 12) f fd) : FnOk P w K mg base (L2.CX P w) (n + 1) f fd ["thing"] (spD ⟨K, mg, (T0 cts)⟩ ((Den tbl (n + 1)).call 26)) := by
  refine def_ok F sc_is_door (bd := b_is_door) rfl fun cdv A outer s H E0 hr => ?_
  have nd := (sc_is_door).nd
  have hu : (A.deeper (envOfC "is_door" (defScope (top 12)) s.heap.objs.size f cdv)).units + (Den tbl n).room < cLine := by rw [den_room]; have := hr.un; omega
  have tk : Takes (cxOf (L2.CX P w) P w K mg base ["thing"] "is_door" (defScope (top 12)) f cdv A outer s H E0) (fun cls d _ H => E0 cls d H) := takes_of rfl rfl rfl rfl
  unfold b_is_door
  refine jss_one ?_
  exact (js_ret (je_and (je_call D.c_is_word.cal hr tk rfl (ja_cons (je_name (pv 0)) ja_nil)) (je_one (je_cmp (os_eq hu) (je_blt cs_len rfl E.h_len boot_len (jr_cons (je_name (pv 0)) jr_nil)) je_int))))
theorem ok_is_door (E : Facts K w mg cts) (B : Makes base mg cts) (D : Defs P w K mg base cts n) : Dfn P w K mg base (T0 cts) (Den tbl (n + 1)) (n + 1) "is_door" 26 := by
  obtain ⟨f, fd, hf, F⟩ := E.f_is_door
  exact ⟨f, fd, ["thing"], hf, F.kp, F.bindsN fun _ _ _ _ _ _ us hl => (match us, hl with | [_], _ => rfl), fo_is_door E D F⟩
theorem sc_is_part : FnScope ["thing", "depth"] ["thing", "depth"] (defScope (top 13)) := ⟨rfl, rfl, rfl, by decide +kernel, rfl, by decide +kernel, by decide +kernel⟩
theorem fo_is_part (E : Facts K w mg cts) (D : Defs P w K mg base cts n) {f : Addr} {fd : FuncData} (F : FnP K "is_part" (top 13) f fd) : FnOk P w K mg base (L2.CX P w) (n + 1) f fd ["thing", "depth"] (spD ⟨K, mg, (T0 cts)⟩ ((Den tbl (n + 1)).call 28)) := by
  refine def_ok F sc_is_part (bd := b_is_part) rfl fun cdv A outer s H E0 hr => ?_
  have nd := (sc_is_part).nd
  have hu : (A.deeper (envOfC "is_part" (defScope (top 13)) s.heap.objs.size f cdv)).units + (Den tbl n).room < cLine := by rw [den_room]; have := hr.un; omega
  have tk : Takes (cxOf (L2.CX P w) P w K mg base ["thing", "depth"] "is_part" (defScope (top 13)) f cdv A outer s H E0) (fun cls d _ H => E0 cls d H) := takes_of rfl rfl rfl rfl
  unfold b_is_part
  refine jss_cons ?_ ?_
  · refine js_if (jt_truth (je_call D.c_is_pair.cal hr tk rfl (ja_cons (je_name (pv 0)) ja_nil))) ?_ ?_
    · refine jss_cons ?_ ?_
      · refine js_if (jt_cmp (os_eq hu) (je_ix (je_name (pv 0)) je_int) je_str) ?_ ?_
        · refine jss_one ?_
          exact (js_ret (je_call D.c_is_word.cal hr tk rfl (ja_cons (je_ix (je_name (pv 0)) je_int) ja_nil)))
        exact jss_nil
      refine jss_cons ?_ ?_
      · refine js_if (jt_cmp (os_eq hu) (je_ix (je_name (pv 0)) je_int) je_str) ?_ ?_
        · refine jss_one ?_
          exact (js_ret (je_and (je_call D.c_is_integer.cal hr tk rfl (ja_cons (je_ix (je_name (pv 0)) je_int) ja_nil)) (je_one (je_cmp (os_ge hu) (je_ix (je_name (pv 0)) je_int) je_int))))
        exact jss_nil
      refine jss_one ?_
      exact (js_ret (je_and (je_cmp (os_eq hu) (je_ix (je_name (pv 0)) je_int) je_str) (je_one (je_call D.c_is_within.cal hr tk rfl (ja_cons (je_ix (je_name (pv 0)) je_int) (ja_cons je_int (ja_cons (je_bin os_sub (je_name (pv 1)) je_int) ja_nil)))))))
    exact jss_nil
  refine jss_cons ?_ ?_
  · refine js_if (jt_bool (jw_or (jt_not (jt_truth (je_call D.c_is_triple.cal hr tk rfl (ja_cons (je_name (pv 0)) ja_nil)))) (jw_or (jt_cmp (os_notin hu) (je_ix (je_name (pv 0)) je_int) (je_tup (ja_cons je_str (ja_cons je_str ja_nil)))) (jw_or1 (jt_not (jt_truth (je_call D.c_is_door.cal hr tk rfl (ja_cons (je_ix (je_name (pv 0)) je_int) ja_nil)))))))) ?_ ?_
    · refine jss_one ?_
      exact (js_ret je_bl)
    exact jss_nil
  refine jss_one ?_
  exact (js_ret (je_call D.c_is_plan_in.cal hr tk rfl (ja_cons (je_ix (je_name (pv 0)) je_int) (ja_cons (je_if (jt_cmp (os_eq hu) (je_ix (je_name (pv 0)) je_int) je_str) (je_bin os_add (je_name (pv 1)) je_int) (je_name (pv 1))) ja_nil))))
theorem ok_is_part (E : Facts K w mg cts) (B : Makes base mg cts) (D : Defs P w K mg base cts n) : Dfn P w K mg base (T0 cts) (Den tbl (n + 1)) (n + 1) "is_part" 28 := by
  obtain ⟨f, fd, hf, F⟩ := E.f_is_part
  exact ⟨f, fd, ["thing", "depth"], hf, F.kp, F.bindsN fun _ _ _ _ _ _ us hl => (match us, hl with | [_, _], _ => rfl), fo_is_part E D F⟩
theorem sc_is_plan_in : FnScope ["thing", "depth", "item"] ["thing", "depth"] (defScope (top 14)) := ⟨rfl, rfl, rfl, by decide +kernel, rfl, by decide +kernel, by decide +kernel⟩
theorem fo_is_plan_in (E : Facts K w mg cts) (D : Defs P w K mg base cts n) {f : Addr} {fd : FuncData} (F : FnP K "is_plan_in" (top 14) f fd) : FnOk P w K mg base (L2.CX P w) (n + 1) f fd ["thing", "depth"] (spD ⟨K, mg, (T0 cts)⟩ ((Den tbl (n + 1)).call 25)) := by
  refine def_ok F sc_is_plan_in (bd := b_is_plan_in) rfl fun cdv A outer s H E0 hr => ?_
  have nd := (sc_is_plan_in).nd
  have hu : (A.deeper (envOfC "is_plan_in" (defScope (top 14)) s.heap.objs.size f cdv)).units + (Den tbl n).room < cLine := by rw [den_room]; have := hr.un; omega
  have tk : Takes (cxOf (L2.CX P w) P w K mg base ["thing", "depth", "item"] "is_plan_in" (defScope (top 14)) f cdv A outer s H E0) (fun cls d _ H => E0 cls d H) := takes_of rfl rfl rfl rfl
  unfold b_is_plan_in
  refine jss_cons ?_ ?_
  · refine js_if (jt_not (jt_truth (je_isi rfl E.h_isinstance rfl E.h_tuple (by decide +kernel) (je_name (pv 0))))) ?_ ?_
    · refine jss_one ?_
      exact (js_ret je_bl)
    exact jss_nil
  refine jss_cons ?_ ?_
  · refine js_for (passes_of rfl) rfl (ji_seq (je_name (pv 0))) (jg_name (pg_name (i := 2) nd rfl (by first | exact .inl rfl | exact .inr rfl))) ?_
    refine jss_one ?_
    refine js_if (jt_bool (jw_or (jt_not (jt_truth (je_call D.c_is_pair.cal hr tk rfl (ja_cons (je_name (pv 2)) ja_nil)))) (jw_or (jt_not (jt_truth (je_call D.c_is_integer.cal hr tk rfl (ja_cons (je_ix (je_name (pv 2)) je_int) ja_nil)))) (jw_or (jt_cmp (os_lt hu) (je_ix (je_name (pv 2)) je_int) je_int) (jw_or1 (jt_not (jt_truth (je_call D.c_is_part.cal hr tk rfl (ja_cons (je_ix (je_name (pv 2)) je_int) (ja_cons (je_name (pv 1)) ja_nil)))))))))) ?_ ?_
    · refine jss_one ?_
      exact (js_ret je_bl)
    exact jss_nil
  refine jss_one ?_
  exact (js_ret je_bl)
theorem ok_is_plan_in (E : Facts K w mg cts) (B : Makes base mg cts) (D : Defs P w K mg base cts n) : Dfn P w K mg base (T0 cts) (Den tbl (n + 1)) (n + 1) "is_plan_in" 25 := by
  obtain ⟨f, fd, hf, F⟩ := E.f_is_plan_in
  exact ⟨f, fd, ["thing", "depth"], hf, F.kp, F.bindsN fun _ _ _ _ _ _ us hl => (match us, hl with | [_, _], _ => rfl), fo_is_plan_in E D F⟩
theorem sc_check_plan : FnScope ["thing"] ["thing"] (defScope (top 15)) := ⟨rfl, rfl, rfl, by decide +kernel, rfl, by decide +kernel, by decide +kernel⟩
theorem fo_check_plan (E : Facts K w mg cts) (D : Defs P w K mg base cts n) {f : Addr} {fd : FuncData} (F : FnP K "check_plan" (top 15) f fd) : FnOk P w K mg base (L2.CX P w) (n + 1) f fd ["thing"] (spD ⟨K, mg, (T0 cts)⟩ ((Den tbl (n + 1)).call 31)) := by
  refine def_ok F sc_check_plan (bd := b_check_plan) rfl fun cdv A outer s H E0 hr => ?_
  have nd := (sc_check_plan).nd
  have hu : (A.deeper (envOfC "check_plan" (defScope (top 15)) s.heap.objs.size f cdv)).units + (Den tbl n).room < cLine := by rw [den_room]; have := hr.un; omega
  have tk : Takes (cxOf (L2.CX P w) P w K mg base ["thing"] "check_plan" (defScope (top 15)) f cdv A outer s H E0) (fun cls d _ H => E0 cls d H) := takes_of rfl rfl rfl rfl
  unfold b_check_plan
  refine jss_one ?_
  refine js_if (jt_not (jt_truth (je_call D.c_is_plan_in.cal hr tk rfl (ja_cons (je_name (pv 0)) (ja_cons je_int ja_nil))))) ?_ ?_
  · refine jss_one ?_
    exact js_never
  exact jss_nil
theorem ok_check_plan (E : Facts K w mg cts) (B : Makes base mg cts) (D : Defs P w K mg base cts n) : Dfn P w K mg base (T0 cts) (Den tbl (n + 1)) (n + 1) "check_plan" 31 := by
  obtain ⟨f, fd, hf, F⟩ := E.f_check_plan
  exact ⟨f, fd, ["thing"], hf, F.kp, F.bindsN fun _ _ _ _ _ _ us hl => (match us, hl with | [_], _ => rfl), fo_check_plan E D F⟩
theorem sc_part_size : FnScope ["part"] ["part"] (defScope (top 19)) := ⟨rfl, rfl, rfl, by decide +kernel, rfl, by decide +kernel, by decide +kernel⟩
theorem fo_part_size (E : Facts K w mg cts) (D : Defs P w K mg base cts n) {f : Addr} {fd : FuncData} (F : FnP K "part_size" (top 19) f fd) : FnOk P w K mg base (L2.CX P w) (n + 1) f fd ["part"] (spD ⟨K, mg, (T0 cts)⟩ ((Den tbl (n + 1)).call 30)) := by
  refine def_ok F sc_part_size (bd := b_part_size) rfl fun cdv A outer s H E0 hr => ?_
  have nd := (sc_part_size).nd
  have hu : (A.deeper (envOfC "part_size" (defScope (top 19)) s.heap.objs.size f cdv)).units + (Den tbl n).room < cLine := by rw [den_room]; have := hr.un; omega
  have tk : Takes (cxOf (L2.CX P w) P w K mg base ["part"] "part_size" (defScope (top 19)) f cdv A outer s H E0) (fun cls d _ H => E0 cls d H) := takes_of rfl rfl rfl rfl
  unfold b_part_size
  refine jss_one ?_
  exact (js_ret (je_if (jt_cmp (os_eq hu) (je_blt cs_len rfl E.h_len boot_len (jr_cons (je_name (pv 0)) jr_nil)) je_int) (je_bin os_add je_int (je_call D.c_size_of.cal hr tk rfl (ja_cons (je_ix (je_name (pv 0)) je_int) ja_nil))) je_int))
theorem ok_part_size (E : Facts K w mg cts) (B : Makes base mg cts) (D : Defs P w K mg base cts n) : Dfn P w K mg base (T0 cts) (Den tbl (n + 1)) (n + 1) "part_size" 30 := by
  obtain ⟨f, fd, hf, F⟩ := E.f_part_size
  exact ⟨f, fd, ["part"], hf, F.kp, F.bindsN fun _ _ _ _ _ _ us hl => (match us, hl with | [_], _ => rfl), fo_part_size E D F⟩
theorem sc_size_of : FnScope ["plan", "count", "part"] ["plan"] (defScope (top 20)) := ⟨rfl, rfl, rfl, by decide +kernel, rfl, by decide +kernel, by decide +kernel⟩
theorem fo_size_of (E : Facts K w mg cts) (D : Defs P w K mg base cts n) {f : Addr} {fd : FuncData} (F : FnP K "size_of" (top 20) f fd) : FnOk P w K mg base (L2.CX P w) (n + 1) f fd ["plan"] (spD ⟨K, mg, (T0 cts)⟩ ((Den tbl (n + 1)).call 29)) := by
  refine def_ok F sc_size_of (bd := b_size_of) rfl fun cdv A outer s H E0 hr => ?_
  have nd := (sc_size_of).nd
  have hu : (A.deeper (envOfC "size_of" (defScope (top 20)) s.heap.objs.size f cdv)).units + (Den tbl n).room < cLine := by rw [den_room]; have := hr.un; omega
  have tk : Takes (cxOf (L2.CX P w) P w K mg base ["plan", "count", "part"] "size_of" (defScope (top 20)) f cdv A outer s H E0) (fun cls d _ H => E0 cls d H) := takes_of rfl rfl rfl rfl
  unfold b_size_of
  refine jss_one ?_
  exact (js_ret (je_blt (cs_sum rfl) rfl E.h_sum (by decide +kernel) (jr_cons (je_comp rfl nd (ji_seq (je_name (pv 0))) (blkOk_by (N := ["plan", "count", "part"]) (sc := defScope (top 20)) (own := [("count", 1), ("part", 2)]) (by decide +kernel)) (us := [1, 2]) rfl (by decide) (fun _ _ _ _ _ => (jg_tup rfl (jgs_cons (jg_name (pg_name (i := 1) nd rfl (by first | exact .inl rfl | exact .inr rfl))) (jgs_cons (jg_name (pg_name (i := 2) nd rfl (by first | exact .inl rfl | exact .inr rfl))) jgs_nil)))) (fun _ _ _ _ _ => jts_nil) (fun _ _ _ _ _ => (je_bin os_mul (je_name (pv 1)) (je_call D.c_part_size.cal hr takes0 rfl (ja_cons (je_name (pv 2)) ja_nil))))) jr_nil)))
theorem ok_size_of (E : Facts K w mg cts) (B : Makes base mg cts) (D : Defs P w K mg base cts n) : Dfn P w K mg base (T0 cts) (Den tbl (n + 1)) (n + 1) "size_of" 29 := by
  obtain ⟨f, fd, hf, F⟩ := E.f_size_of
  exact ⟨f, fd, ["plan"], hf, F.kp, F.bindsN fun _ _ _ _ _ _ us hl => (match us, hl with | [_], _ => rfl), fo_size_of E D F⟩
theorem sc_size : FnScope ["plan"] ["plan"] (defScope (top 21)) := ⟨rfl, rfl, rfl, by decide +kernel, rfl, by decide +kernel, by decide +kernel⟩
theorem fo_size (E : Facts K w mg cts) (D : Defs P w K mg base cts n) {f : Addr} {fd : FuncData} (F : FnP K "size" (top 21) f fd) : FnOk P w K mg base (L2.CX P w) (n + 1) f fd ["plan"] (spD ⟨K, mg, (T0 cts)⟩ ((Den tbl (n + 1)).call 47)) := by
  refine def_ok F sc_size (bd := b_size) rfl fun cdv A outer s H E0 hr => ?_
  have nd := (sc_size).nd
  have hu : (A.deeper (envOfC "size" (defScope (top 21)) s.heap.objs.size f cdv)).units + (Den tbl n).room < cLine := by rw [den_room]; have := hr.un; omega
  have tk : Takes (cxOf (L2.CX P w) P w K mg base ["plan"] "size" (defScope (top 21)) f cdv A outer s H E0) (fun cls d _ H => E0 cls d H) := takes_of rfl rfl rfl rfl
  unfold b_size
  refine jss_cons ?_ ?_
  · exact (js_expr (je_call D.c_check_plan.cal hr tk rfl (ja_cons (je_name (pv 0)) ja_nil)))
  refine jss_one ?_
  exact (js_ret (je_call D.c_size_of.cal hr tk rfl (ja_cons (je_name (pv 0)) ja_nil)))
theorem ok_size (E : Facts K w mg cts) (B : Makes base mg cts) (D : Defs P w K mg base cts n) : Dfn P w K mg base (T0 cts) (Den tbl (n + 1)) (n + 1) "size" 47 := by
  obtain ⟨f, fd, hf, F⟩ := E.f_size
  exact ⟨f, fd, ["plan"], hf, F.kp, F.bindsN fun _ _ _ _ _ _ us hl => (match us, hl with | [_], _ => rfl), fo_size E D F⟩
theorem sc_parts_within : FnScope ["plan", "found", "count", "part"] ["plan"] (defScope (top 22)) := ⟨rfl, rfl, rfl, by decide +kernel, rfl, by decide +kernel, by decide +kernel⟩
theorem fo_parts_within (E : Facts K w mg cts) (D : Defs P w K mg base cts n) {f : Addr} {fd : FuncData} (F : FnP K "parts_within" (top 22) f fd) : FnOk P w K mg base (L2.CX P w) (n + 1) f fd ["plan"] (spD ⟨K, mg, (T0 cts)⟩ ((Den tbl (n + 1)).call 32)) := by
  refine def_ok F sc_parts_within (bd := b_parts_within) rfl fun cdv A outer s H E0 hr => ?_
  have nd := (sc_parts_within).nd
  have hu : (A.deeper (envOfC "parts_within" (defScope (top 22)) s.heap.objs.size f cdv)).units + (Den tbl n).room < cLine := by rw [den_room]; have := hr.un; omega
  have tk : Takes (cxOf (L2.CX P w) P w K mg base ["plan", "found", "count", "part"] "parts_within" (defScope (top 22)) f cdv A outer s H E0) (fun cls d _ H => E0 cls d H) := takes_of rfl rfl rfl rfl
  unfold b_parts_within
  refine jss_cons ?_ ?_
  · exact (js_set (i := 1) nd rfl (by first | exact .inl rfl | exact .inr rfl) (je_lst ja_nil))
  refine jss_cons ?_ ?_
  · refine js_for (passes_of rfl) rfl (ji_seq (je_name (pv 0))) (jg_tup rfl (jgs_cons (jg_name (pg_name (i := 2) nd rfl (by first | exact .inl rfl | exact .inr rfl))) (jgs_cons (jg_name (pg_name (i := 3) nd rfl (by first | exact .inl rfl | exact .inr rfl))) jgs_nil))) ?_
    refine jss_cons ?_ ?_
    · exact (js_append (pv 1) (je_name (pv 3)))
    refine jss_one ?_
    refine js_if (jt_cmp (os_eq hu) (je_blt cs_len rfl E.h_len boot_len (jr_cons (je_name (pv 3)) jr_nil)) je_int) ?_ ?_
    · refine jss_one ?_
      exact (js_extend (pv 1) (je_call D.c_parts_within.cal hr tk rfl (ja_cons (je_ix (je_name (pv 3)) je_int) ja_nil)))
    exact jss_nil
  refine jss_one ?_
  exact (js_ret (je_name (pv 1)))
theorem ok_parts_within (E : Facts K w mg cts) (B : Makes base mg cts) (D : Defs P w K mg base cts n) : Dfn P w K mg base (T0 cts) (Den tbl (n + 1)) (n + 1) "parts_within" 32 := by
  obtain ⟨f, fd, hf, F⟩ := E.f_parts_within
  exact ⟨f, fd, ["plan"], hf, F.kp, F.bindsN fun _ _ _ _ _ _ us hl => (match us, hl with | [_], _ => rfl), fo_parts_within E D F⟩
theorem sc_items_in : FnScope ["plan"] ["plan"] (defScope (top 23)) := ⟨rfl, rfl, rfl, by decide +kernel, rfl, by decide +kernel, by decide +kernel⟩
theorem fo_items_in (E : Facts K w mg cts) (D : Defs P w K mg base cts n) {f : Addr} {fd : FuncData} (F : FnP K "items_in" (top 23) f fd) : FnOk P w K mg base (L2.CX P w) (n + 1) f fd ["plan"] (spD ⟨K, mg, (T0 cts)⟩ ((Den tbl (n + 1)).call 52)) := by
  refine def_ok F sc_items_in (bd := b_items_in) rfl fun cdv A outer s H E0 hr => ?_
  have nd := (sc_items_in).nd
  have hu : (A.deeper (envOfC "items_in" (defScope (top 23)) s.heap.objs.size f cdv)).units + (Den tbl n).room < cLine := by rw [den_room]; have := hr.un; omega
  have tk : Takes (cxOf (L2.CX P w) P w K mg base ["plan"] "items_in" (defScope (top 23)) f cdv A outer s H E0) (fun cls d _ H => E0 cls d H) := takes_of rfl rfl rfl rfl
  unfold b_items_in
  refine jss_one ?_
  exact (js_ret (je_blt cs_len rfl E.h_len boot_len (jr_cons (je_call D.c_parts_within.cal hr tk rfl (ja_cons (je_name (pv 0)) ja_nil)) jr_nil)))
theorem ok_items_in (E : Facts K w mg cts) (B : Makes base mg cts) (D : Defs P w K mg base cts n) : Dfn P w K mg base (T0 cts) (Den tbl (n + 1)) (n + 1) "items_in" 52 := by
  obtain ⟨f, fd, hf, F⟩ := E.f_items_in
  exact ⟨f, fd, ["plan"], hf, F.kp, F.bindsN fun _ _ _ _ _ _ us hl => (match us, hl with | [_], _ => rfl), fo_items_in E D F⟩
theorem sc_nesting : FnScope ["plan", "count", "part"] ["plan"] (defScope (top 24)) := ⟨rfl, rfl, rfl, by decide +kernel, rfl, by decide +kernel, by decide +kernel⟩
theorem fo_nesting (E : Facts K w mg cts) (D : Defs P w K mg base cts n) {f : Addr} {fd : FuncData} (F : FnP K "nesting" (top 24) f fd) : FnOk P w K mg base (L2.CX P w) (n + 1) f fd ["plan"] (spD ⟨K, mg, (T0 cts)⟩ ((Den tbl (n + 1)).call 51)) := by
  refine def_ok F sc_nesting (bd := b_nesting) rfl fun cdv A outer s H E0 hr => ?_
  have nd := (sc_nesting).nd
  have hu : (A.deeper (envOfC "nesting" (defScope (top 24)) s.heap.objs.size f cdv)).units + (Den tbl n).room < cLine := by rw [den_room]; have := hr.un; omega
  have tk : Takes (cxOf (L2.CX P w) P w K mg base ["plan", "count", "part"] "nesting" (defScope (top 24)) f cdv A outer s H E0) (fun cls d _ H => E0 cls d H) := takes_of rfl rfl rfl rfl
  unfold b_nesting
  refine jss_one ?_
  exact (js_ret (je_blt (cs_max1 rfl) rfl E.h_max (by decide +kernel) (jr_cons (je_bin os_add (je_lst (ja_cons je_int ja_nil)) (je_comp rfl nd (ji_seq (je_name (pv 0))) (blkOk_by (N := ["plan", "count", "part"]) (sc := defScope (top 24)) (own := [("count", 1), ("part", 2)]) (by decide +kernel)) (us := [1, 2]) rfl (by decide) (fun _ _ _ _ _ => (jg_tup rfl (jgs_cons (jg_name (pg_name (i := 1) nd rfl (by first | exact .inl rfl | exact .inr rfl))) (jgs_cons (jg_name (pg_name (i := 2) nd rfl (by first | exact .inl rfl | exact .inr rfl))) jgs_nil)))) (fun _ _ _ _ _ => (jts_one (jt_cmp (os_eq hu) (je_blt cs_len rfl E.h_len boot_len (jr_cons (je_name (pv 2)) jr_nil)) je_int))) (fun _ _ _ _ _ => (je_bin os_add je_int (je_call D.c_nesting.cal hr takes0 rfl (ja_cons (je_ix (je_name (pv 2)) je_int) ja_nil)))))) jr_nil)))
theorem ok_nesting (E : Facts K w mg cts) (B : Makes base mg cts) (D : Defs P w K mg base cts n) : Dfn P w K mg base (T0 cts) (Den tbl (n + 1)) (n + 1) "nesting" 51 := by
  obtain ⟨f, fd, hf, F⟩ := E.f_nesting
  exact ⟨f, fd, ["plan"], hf, F.kp, F.bindsN fun _ _ _ _ _ _ us hl => (match us, hl with | [_], _ => rfl), fo_nesting E D F⟩
theorem sc_mapped : FnScope ["plan", "depth", "action", "found", "count", "part", "many", "other"] ["plan", "depth", "action"] (defScope (top 25)) := ⟨rfl, rfl, rfl, by decide +kernel, rfl, by decide +kernel, by decide +kernel⟩
theorem fo_mapped (E : Facts K w mg cts) (D : Defs P w K mg base cts n) {f : Addr} {fd : FuncData} (F : FnP K "mapped" (top 25) f fd) : FnOk P w K mg base (L2.CX P w) (n + 1) f fd ["plan", "depth", "action"] (spD ⟨K, mg, (T0 cts)⟩ ((Den tbl (n + 1)).call 34)) := by
  refine def_ok F sc_mapped (bd := b_mapped) rfl fun cdv A outer s H E0 hr => ?_
  have nd := (sc_mapped).nd
  have hu : (A.deeper (envOfC "mapped" (defScope (top 25)) s.heap.objs.size f cdv)).units + (Den tbl n).room < cLine := by rw [den_room]; have := hr.un; omega
  have tk : Takes (cxOf (L2.CX P w) P w K mg base ["plan", "depth", "action", "found", "count", "part", "many", "other"] "mapped" (defScope (top 25)) f cdv A outer s H E0) (fun cls d _ H => E0 cls d H) := takes_of rfl rfl rfl rfl
  unfold b_mapped
  refine jss_cons ?_ ?_
  · exact (js_set (i := 3) nd rfl (by first | exact .inl rfl | exact .inr rfl) (je_lst ja_nil))
  refine jss_cons ?_ ?_
  · refine js_for (passes_of rfl) rfl (ji_seq (je_name (pv 0))) (jg_tup rfl (jgs_cons (jg_name (pg_name (i := 4) nd rfl (by first | exact .inl rfl | exact .inr rfl))) (jgs_cons (jg_name (pg_name (i := 5) nd rfl (by first | exact .inl rfl | exact .inr rfl))) jgs_nil))) ?_
    refine jss_one ?_
    refine js_if (jt_cmp (os_eq hu) (je_ix (je_name (pv 5)) je_int) je_str) ?_ ?_
    · refine jss_one ?_
      exact (js_append (pv 3) (je_tup (ja_cons (je_name (pv 4)) (ja_cons (je_tup (ja_cons je_str (ja_cons (je_ix (je_name (pv 5)) je_int) (ja_cons (je_call D.c_mapped.cal hr tk rfl (ja_cons (je_ix (je_name (pv 5)) je_int) (ja_cons (je_name (pv 1)) (ja_cons (je_name (pv 2)) ja_nil)))) ja_nil)))) ja_nil))))
    refine jss_one ?_
    refine js_if (jt_cmp (os_eq hu) (je_ix (je_name (pv 5)) je_int) je_str) ?_ ?_
    · refine jss_one ?_
      exact (js_append (pv 3) (je_tup (ja_cons (je_name (pv 4)) (ja_cons (je_tup (ja_cons je_str (ja_cons (je_ix (je_name (pv 5)) je_int) (ja_cons (je_call D.c_mapped.cal hr tk rfl (ja_cons (je_ix (je_name (pv 5)) je_int) (ja_cons (je_bin os_add (je_name (pv 1)) je_int) (ja_cons (je_name (pv 2)) ja_nil)))) ja_nil)))) ja_nil))))
    refine jss_one ?_
    exact (js_extend (pv 3) (je_comp rfl nd (ji_seq (je_act D.clos hr (ja_cons (je_name (pv 5)) (ja_cons (je_name (pv 1)) ja_nil)))) (blkOk_by (N := ["plan", "depth", "action", "found", "count", "part", "many", "other"]) (sc := defScope (top 25)) (own := [("many", 6), ("other", 7)]) (by decide +kernel)) (us := [6, 7]) rfl (by decide) (fun _ _ _ _ _ => (jg_tup rfl (jgs_cons (jg_name (pg_name (i := 6) nd rfl (by first | exact .inl rfl | exact .inr rfl))) (jgs_cons (jg_name (pg_name (i := 7) nd rfl (by first | exact .inl rfl | exact .inr rfl))) jgs_nil)))) (fun _ _ _ _ _ => jts_nil) (fun _ _ _ _ _ => (je_tup (ja_cons (je_bin os_mul (je_name (pv 4)) (je_name (pv 6))) (ja_cons (je_name (pv 7)) ja_nil))))))
  refine jss_one ?_
  exact (js_ret (je_bty cs_tuple rfl E.h_tuple (by decide +kernel) (jr_cons (je_name (pv 3)) jr_nil)))
theorem ok_mapped (E : Facts K w mg cts) (B : Makes base mg cts) (D : Defs P w K mg base cts n) : Dfn P w K mg base (T0 cts) (Den tbl (n + 1)) (n + 1) "mapped" 34 := by
  obtain ⟨f, fd, hf, F⟩ := E.f_mapped
  exact ⟨f, fd, ["plan", "depth", "action"], hf, F.kp, F.bindsN fun _ _ _ _ _ _ us hl => (match us, hl with | [_, _, _], _ => rfl), fo_mapped E D F⟩
theorem sc_raised : FnScope ["plan", "by", "least", "lift"] ["plan", "by", "least"] (defScope (top 26)) := ⟨rfl, rfl, rfl, by decide +kernel, rfl, by decide +kernel, by decide +kernel⟩
theorem fo_raised (E : Facts K w mg cts) (D : Defs P w K mg base cts n) {f : Addr} {fd : FuncData} (F : FnP K "raised" (top 26) f fd) {Pt : Addr} (hm : ∃ c, fd.code = .ref c ∧ LamX.TabB base mg c Pt) (hM : (Pt, x_raised.qual) ∈ cts.map (·.2)) (hU : ∀ p ∈ cts.map (·.2), p.1 = Pt → p.2 = x_raised.qual) : FnOk P w K mg base (L2.CX P w) (n + 1) f fd ["plan", "by", "least"] (spD ⟨K, mg, (T0 cts)⟩ ((Den tbl (n + 1)).call 57)) := by
  refine def_okM F hm sc_raised (bd := b_raised) rfl fun c A outer s H E0 TB hr => ?_
  have nd := (sc_raised).nd
  have hu : (A.deeper (envOfC "raised" (defScope (top 26)) s.heap.objs.size f (.ref c))).units + (Den tbl n).room < cLine := by rw [den_room]; have := hr.un; omega
  have tk : Takes (cxOf (L2.CX P w) P w K mg base ["plan", "by", "least", "lift"] "raised" (defScope (top 26)) f (.ref c) A outer s H E0) (fun cls d _ H => E0 cls d H) := takes_of rfl rfl rfl rfl
  unfold b_raised
  exact js_defret (st := stAt 0 (defBody (top 26))) (nm := fun _ _ => (x_raised).qual) (nd := x_raised) (i := 3) rfl TB rfl (tt_mem hM) rfl (tt_uni hU) (show ∀ y ∈ (C8.fnScope (stAt 0 (defBody (top 26)))).names, y.2 = .free → (defScope (top 26)).names.lookup y.1 = some .cell ∨ (defScope (top 26)).names.lookup y.1 = some .free by decide +kernel) rfl rfl rfl nd rfl (by first | exact .inl rfl | exact .inr rfl) (by first | exact .inl rfl | exact .inr rfl) rfl rfl (pe_clo (nd := x_raised) D.c_mapped.cal hr rfl (jal_cons zat_lasts (je_name (pv 0)) (jal_cons zat_lasts je_int (jal_name (pv 3)))) rfl rfl (show ∀ y ∈ (x_raised).scope.names, y.2 = .free → (defScope (top 26)).names.lookup y.1 = some .cell ∨ (defScope (top 26)).names.lookup y.1 = some .free by decide +kernel) (show ∀ y ∈ (x_raised).fr, (y, NameKind.free) ∈ (x_raised).scope.names by decide +kernel) (fun y hy => fr_of (fr := (x_raised).fr) (ns := (x_raised).scope.names) (by decide +kernel) hy) rfl (fun y hy => own_of (l := (x_raised).fr) (by rfl) hy))
theorem ok_raised (E : Facts K w mg cts) (B : Makes base mg cts) (D : Defs P w K mg base cts n) : Dfn P w K mg base (T0 cts) (Den tbl (n + 1)) (n + 1) "raised" 57 := by
  obtain ⟨f, fd, c, Pt, hf, F, hcd, hm⟩ := E.f_raised
  exact ⟨f, fd, ["plan", "by", "least"], hf, F.kp, F.bindsN fun _ _ _ _ _ _ us hl => (match us, hl with | [_, _, _], _ => rfl), fo_raised E D F ⟨c, hcd, B.tb _ hm⟩ (B.mem hm) (B.uni hm)⟩
theorem sc_has_step_form : FnScope ["thing", "number"] ["thing"] (defScope (top 29)) := ⟨rfl, rfl, rfl, by decide +kernel, rfl, by decide +kernel, by decide +kernel⟩
theorem fo_has_step_form (E : Facts K w mg cts) (D : Defs P w K mg base cts n) {f : Addr} {fd : FuncData} (F : FnP K "has_step_form" (top 29) f fd) : FnOk P w K mg base (L2.CX P w) (n + 1) f fd ["thing"] (spD ⟨K, mg, (T0 cts)⟩ ((Den tbl (n + 1)).call 84)) := by
  refine def_ok F sc_has_step_form (bd := b_has_step_form) rfl fun cdv A outer s H E0 hr => ?_
  have nd := (sc_has_step_form).nd
  have hu : (A.deeper (envOfC "has_step_form" (defScope (top 29)) s.heap.objs.size f cdv)).units + (Den tbl n).room < cLine := by rw [den_room]; have := hr.un; omega
  have tk : Takes (cxOf (L2.CX P w) P w K mg base ["thing", "number"] "has_step_form" (defScope (top 29)) f cdv A outer s H E0) (fun cls d _ H => E0 cls d H) := takes_of rfl rfl rfl rfl
  unfold b_has_step_form
  refine jss_cons ?_ ?_
  · refine js_if (jt_bool (jw_or (jt_not (jt_truth (je_isi rfl E.h_isinstance rfl E.h_tuple (by decide +kernel) (je_name (pv 0))))) (jw_or (jt_cmp (os_lt hu) (je_blt cs_len rfl E.h_len boot_len (jr_cons (je_name (pv 0)) jr_nil)) je_int) (jw_or1 (jt_not (jt_truth (je_isi rfl E.h_isinstance rfl E.h_str (by decide +kernel) (je_ix (je_name (pv 0)) je_int)))))))) ?_ ?_
    · refine jss_one ?_
      exact (js_ret je_bl)
    exact jss_nil
  refine jss_cons ?_ ?_
  · refine js_if (jt_bool (jw_or (jt_cmp (os_ne hu) (je_getK2 E.d_LENGTHS rfl (je_ix (je_name (pv 0)) je_int) pe_int) (je_blt cs_len rfl E.h_len boot_len (jr_cons (je_name (pv 0)) jr_nil))) (jw_or1 (jt_not (jt_truth (je_isi rfl E.h_isinstance rfl E.h_tuple (by decide +kernel) (je_ix (je_name (pv 0)) je_int))))))) ?_ ?_
    · refine jss_one ?_
      exact (js_ret je_bl)
    exact jss_nil
  refine jss_one ?_
  exact (js_ret (je_blt (cs_all rfl) rfl E.h_all (by decide +kernel) (jr_cons (je_comp rfl nd (ji_seq (je_bin os_add (je_ix (je_name (pv 0)) je_int) (je_slice (je_name (pv 0)) (jo_some je_int) jo_none))) (blkOk_by (N := ["thing", "number"]) (sc := defScope (top 29)) (own := [("number", 1)]) (by decide +kernel)) (us := [1]) rfl (by decide) (fun _ _ _ _ _ => (jg_name (pg_name (i := 1) nd rfl (by first | exact .inl rfl | exact .inr rfl)))) (fun _ _ _ _ _ => jts_nil) (fun _ _ _ _ _ => (je_call D.c_is_integer.cal hr takes0 rfl (ja_cons (je_name (pv 1)) ja_nil)))) jr_nil)))
theorem ok_has_step_form (E : Facts K w mg cts) (B : Makes base mg cts) (D : Defs P w K mg base cts n) : Dfn P w K mg base (T0 cts) (Den tbl (n + 1)) (n + 1) "has_step_form" 84 := by
  obtain ⟨f, fd, hf, F⟩ := E.f_has_step_form
  exact ⟨f, fd, ["thing"], hf, F.kp, F.bindsN fun _ _ _ _ _ _ us hl => (match us, hl with | [_], _ => rfl), fo_has_step_form E D F⟩
theorem sc_joined_pair : FnScope ["one", "other"] ["one", "other"] (defScope (top 30)) := ⟨rfl, rfl, rfl, by decide +kernel, rfl, by decide +kernel, by decide +kernel⟩
theorem fo_joined_pair (E : Facts K w mg cts) (D : Defs P w K mg base cts n) {f : Addr} {fd : FuncData} (F : FnP K "joined_pair" (top 30) f fd) : FnOk P w K mg base (L2.CX P w) (n + 1) f fd ["one", "other"] (spD ⟨K, mg, (T0 cts)⟩ ((Den tbl (n + 1)).call 78)) := by
  refine def_ok F sc_joined_pair (bd := b_joined_pair) rfl fun cdv A outer s H E0 hr => ?_
  have nd := (sc_joined_pair).nd
  have hu : (A.deeper (envOfC "joined_pair" (defScope (top 30)) s.heap.objs.size f cdv)).units + (Den tbl n).room < cLine := by rw [den_room]; have := hr.un; omega
  have tk : Takes (cxOf (L2.CX P w) P w K mg base ["one", "other"] "joined_pair" (defScope (top 30)) f cdv A outer s H E0) (fun cls d _ H => E0 cls d H) := takes_of rfl rfl rfl rfl
  unfold b_joined_pair
  refine jss_cons ?_ ?_
  · refine js_if (jt_cmp (os_ne hu) (je_ix (je_name (pv 0)) je_int) (je_ix (je_name (pv 1)) je_int)) ?_ ?_
    · refine jss_one ?_
      exact (js_ret je_non)
    exact jss_nil
  refine jss_one ?_
  exact (js_ret (je_tup (ja_cons (je_tup (ja_cons (je_bin os_add (je_ix (je_name (pv 0)) je_int) (je_ix (je_name (pv 1)) je_int)) (ja_cons (je_ix (je_name (pv 0)) je_int) ja_nil))) ja_nil)))
theorem ok_joined_pair (E : Facts K w mg cts) (B : Makes base mg cts) (D : Defs P w K mg base cts n) : Dfn P w K mg base (T0 cts) (Den tbl (n + 1)) (n + 1) "joined_pair" 78 := by
  obtain ⟨f, fd, hf, F⟩ := E.f_joined_pair
  exact ⟨f, fd, ["one", "other"], hf, F.kp, F.bindsN fun _ _ _ _ _ _ us hl => (match us, hl with | [_, _], _ => rfl), fo_joined_pair E D F⟩
theorem sc_split_item : FnScope ["item", "many", "count", "part"] ["item", "many"] (defScope (top 31)) := ⟨rfl, rfl, rfl, by decide +kernel, rfl, by decide +kernel, by decide +kernel⟩
theorem fo_split_item (E : Facts K w mg cts) (D : Defs P w K mg base cts n) {f : Addr} {fd : FuncData} (F : FnP K "split_item" (top 31) f fd) : FnOk P w K mg base (L2.CX P w) (n + 1) f fd ["item", "many"] (spD ⟨K, mg, (T0 cts)⟩ ((Den tbl (n + 1)).call 79)) := by
  refine def_ok F sc_split_item (bd := b_split_item) rfl fun cdv A outer s H E0 hr => ?_
  have nd := (sc_split_item).nd
  have hu : (A.deeper (envOfC "split_item" (defScope (top 31)) s.heap.objs.size f cdv)).units + (Den tbl n).room < cLine := by rw [den_room]; have := hr.un; omega
  have tk : Takes (cxOf (L2.CX P w) P w K mg base ["item", "many", "count", "part"] "split_item" (defScope (top 31)) f cdv A outer s H E0) (fun cls d _ H => E0 cls d H) := takes_of rfl rfl rfl rfl
  unfold b_split_item
  refine jss_cons ?_ ?_
  · exact (js_asg (jg_tup rfl (jgs_cons (jg_name (pg_name (i := 2) nd rfl (by first | exact .inl rfl | exact .inr rfl))) (jgs_cons (jg_name (pg_name (i := 3) nd rfl (by first | exact .inl rfl | exact .inr rfl))) jgs_nil))) (je_name (pv 0)))
  refine jss_cons ?_ ?_
  · refine js_if (jt_not (jt_truth (je_call D.c_is_within.cal hr tk rfl (ja_cons (je_name (pv 1)) (ja_cons je_int (ja_cons (je_bin os_sub (je_name (pv 2)) je_int) ja_nil)))))) ?_ ?_
    · refine jss_one ?_
      exact (js_ret je_non)
    exact jss_nil
  refine jss_one ?_
  exact (js_ret (je_tup (ja_cons (je_tup (ja_cons (je_name (pv 1)) (ja_cons (je_name (pv 3)) ja_nil))) (ja_cons (je_tup (ja_cons (je_bin os_sub (je_name (pv 2)) (je_name (pv 1))) (ja_cons (je_name (pv 3)) ja_nil))) ja_nil))))
theorem ok_split_item (E : Facts K w mg cts) (B : Makes base mg cts) (D : Defs P w K mg base cts n) : Dfn P w K mg base (T0 cts) (Den tbl (n + 1)) (n + 1) "split_item" 79 := by
  obtain ⟨f, fd, hf, F⟩ := E.f_split_item
  exact ⟨f, fd, ["item", "many"], hf, F.kp, F.bindsN fun _ _ _ _ _ _ us hl => (match us, hl with | [_, _], _ => rfl), fo_split_item E D F⟩
theorem sc_folded_item : FnScope ["item", "count", "part", "rest", "many", "inner"] ["item"] (defScope (top 32)) := ⟨rfl, rfl, rfl, by decide +kernel, rfl, by decide +kernel, by decide +kernel⟩
theorem fo_folded_item (E : Facts K w mg cts) (D : Defs P w K mg base cts n) {f : Addr} {fd : FuncData} (F : FnP K "folded_item" (top 32) f fd) : FnOk P w K mg base (L2.CX P w) (n + 1) f fd ["item"] (spD ⟨K, mg, (T0 cts)⟩ ((Den tbl (n + 1)).call 80)) := by
  refine def_ok F sc_folded_item (bd := b_folded_item) rfl fun cdv A outer s H E0 hr => ?_
  have nd := (sc_folded_item).nd
  have hu : (A.deeper (envOfC "folded_item" (defScope (top 32)) s.heap.objs.size f cdv)).units + (Den tbl n).room < cLine := by rw [den_room]; have := hr.un; omega
  have tk : Takes (cxOf (L2.CX P w) P w K mg base ["item", "count", "part", "rest", "many", "inner"] "folded_item" (defScope (top 32)) f cdv A outer s H E0) (fun cls d _ H => E0 cls d H) := takes_of rfl rfl rfl rfl
  unfold b_folded_item
  refine jss_cons ?_ ?_
  · exact (js_asg (jg_tup rfl (jgs_cons (jg_name (pg_name (i := 1) nd rfl (by first | exact .inl rfl | exact .inr rfl))) (jgs_cons (jg_name (pg_name (i := 2) nd rfl (by first | exact .inl rfl | exact .inr rfl))) jgs_nil))) (je_name (pv 0)))
  refine jss_cons ?_ ?_
  · refine js_if (jt_bool (jw_or (jt_cmp (os_ne hu) (je_ix (je_name (pv 2)) je_int) je_str) (jw_or1 (jt_not (jt_truth (je_ix (je_name (pv 2)) je_int)))))) ?_ ?_
    · refine jss_one ?_
      exact (js_ret je_non)
    exact jss_nil
  refine jss_cons ?_ ?_
  · exact (js_set (i := 3) nd rfl (by first | exact .inl rfl | exact .inr rfl) (je_slice (je_ix (je_name (pv 2)) je_int) jo_none (jo_some (je_neg je_int))))
  refine jss_cons ?_ ?_
  · exact (js_asg (jg_tup rfl (jgs_cons (jg_name (pg_name (i := 4) nd rfl (by first | exact .inl rfl | exact .inr rfl))) (jgs_cons (jg_name (pg_name (i := 5) nd rfl (by first | exact .inl rfl | exact .inr rfl))) jgs_nil))) (je_ix (je_ix (je_name (pv 2)) je_int) (je_neg je_int)))
  refine jss_cons ?_ ?_
  · refine js_if (jt_cmp (os_ne hu) (je_name (pv 5)) (je_tup (ja_cons je_str (ja_cons (je_ix (je_name (pv 2)) je_int) (ja_cons (je_call D.c_raised.cal hr tk rfl (ja_cons (je_name (pv 3)) (ja_cons je_int (ja_cons je_int ja_nil)))) ja_nil))))) ?_ ?_
    · refine jss_one ?_
      exact (js_ret je_non)
    exact jss_nil
  refine jss_one ?_
  exact (js_ret (je_tup (ja_cons (je_tup (ja_cons (je_bin os_mul (je_name (pv 1)) (je_bin os_add (je_name (pv 4)) je_int)) (ja_cons (je_tup (ja_cons je_str (ja_cons (je_ix (je_name (pv 2)) je_int) (ja_cons (je_name (pv 3)) ja_nil)))) ja_nil))) ja_nil)))
theorem ok_folded_item (E : Facts K w mg cts) (B : Makes base mg cts) (D : Defs P w K mg base cts n) : Dfn P w K mg base (T0 cts) (Den tbl (n + 1)) (n + 1) "folded_item" 80 := by
  obtain ⟨f, fd, hf, F⟩ := E.f_folded_item
  exact ⟨f, fd, ["item"], hf, F.kp, F.bindsN fun _ _ _ _ _ _ us hl => (match us, hl with | [_], _ => rfl), fo_folded_item E D F⟩
theorem sc_unfolded_item : FnScope ["item", "k", "count", "part", "inner"] ["item", "k"] (defScope (top 33)) := ⟨rfl, rfl, rfl, by decide +kernel, rfl, by decide +kernel, by decide +kernel⟩
theorem fo_unfolded_item (E : Facts K w mg cts) (D : Defs P w K mg base cts n) {f : Addr} {fd : FuncData} (F : FnP K "unfolded_item" (top 33) f fd) : FnOk P w K mg base (L2.CX P w) (n + 1) f fd ["item", "k"] (spD ⟨K, mg, (T0 cts)⟩ ((Den tbl (n + 1)).call 81)) := by
  refine def_ok F sc_unfolded_item (bd := b_unfolded_item) rfl fun cdv A outer s H E0 hr => ?_
  have nd := (sc_unfolded_item).nd
  have hu : (A.deeper (envOfC "unfolded_item" (defScope (top 33)) s.heap.objs.size f cdv)).units + (Den tbl n).room < cLine := by rw [den_room]; have := hr.un; omega
  have tk : Takes (cxOf (L2.CX P w) P w K mg base ["item", "k", "count", "part", "inner"] "unfolded_item" (defScope (top 33)) f cdv A outer s H E0) (fun cls d _ H => E0 cls d H) := takes_of rfl rfl rfl rfl
  unfold b_unfolded_item
  refine jss_cons ?_ ?_
  · exact (js_asg (jg_tup rfl (jgs_cons (jg_name (pg_name (i := 2) nd rfl (by first | exact .inl rfl | exact .inr rfl))) (jgs_cons (jg_name (pg_name (i := 3) nd rfl (by first | exact .inl rfl | exact .inr rfl))) jgs_nil))) (je_name (pv 0)))
  refine jss_cons ?_ ?_
  · refine js_if (jt_bool (jw_or (jt_cmp (os_ne hu) (je_ix (je_name (pv 3)) je_int) je_str) (jw_or (jt_cmp (os_lt hu) (je_name (pv 1)) je_int) (jw_or1 (jt_cmp (os_ne hu) (je_bin os_mod (je_name (pv 2)) (je_name (pv 1))) je_int))))) ?_ ?_
    · refine jss_one ?_
      exact (js_ret je_non)
    exact jss_nil
  refine jss_cons ?_ ?_
  · exact (js_set (i := 4) nd rfl (by first | exact .inl rfl | exact .inr rfl) (je_tup (ja_cons (je_bin os_sub (je_name (pv 1)) je_int) (ja_cons (je_tup (ja_cons je_str (ja_cons (je_ix (je_name (pv 3)) je_int) (ja_cons (je_call D.c_raised.cal hr tk rfl (ja_cons (je_ix (je_name (pv 3)) je_int) (ja_cons je_int (ja_cons je_int ja_nil)))) ja_nil)))) ja_nil))))
  refine jss_one ?_
  exact (js_ret (je_tup (ja_cons (je_tup (ja_cons (je_bin os_fdiv (je_name (pv 2)) (je_name (pv 1))) (ja_cons (je_tup (ja_cons je_str (ja_cons (je_ix (je_name (pv 3)) je_int) (ja_cons (je_bin os_add (je_ix (je_name (pv 3)) je_int) (je_tup (ja_cons (je_name (pv 4)) ja_nil))) ja_nil)))) ja_nil))) ja_nil)))
theorem ok_unfolded_item (E : Facts K w mg cts) (B : Makes base mg cts) (D : Defs P w K mg base cts n) : Dfn P w K mg base (T0 cts) (Den tbl (n + 1)) (n + 1) "unfolded_item" 81 := by
  obtain ⟨f, fd, hf, F⟩ := E.f_unfolded_item
  exact ⟨f, fd, ["item", "k"], hf, F.kp, F.bindsN fun _ _ _ _ _ _ us hl => (match us, hl with | [_, _], _ => rfl), fo_unfolded_item E D F⟩
theorem sc_done_here : FnScope ["plan", "step", "kind", "at", "wide", "made"] ["plan", "step"] (defScope (top 34)) := ⟨rfl, rfl, rfl, by decide +kernel, rfl, by decide +kernel, by decide +kernel⟩
theorem fo_done_here (E : Facts K w mg cts) (D : Defs P w K mg base cts n) {f : Addr} {fd : FuncData} (F : FnP K "done_here" (top 34) f fd) : FnOk P w K mg base (L2.CX P w) (n + 1) f fd ["plan", "step"] (spD ⟨K, mg, (T0 cts)⟩ ((Den tbl (n + 1)).call 83)) := by
  refine def_ok F sc_done_here (bd := b_done_here) rfl fun cdv A outer s H E0 hr => ?_
  have nd := (sc_done_here).nd
  have hu : (A.deeper (envOfC "done_here" (defScope (top 34)) s.heap.objs.size f cdv)).units + (Den tbl n).room < cLine := by rw [den_room]; have := hr.un; omega
  have tk : Takes (cxOf (L2.CX P w) P w K mg base ["plan", "step", "kind", "at", "wide", "made"] "done_here" (defScope (top 34)) f cdv A outer s H E0) (fun cls d _ H => E0 cls d H) := takes_of rfl rfl rfl rfl
  unfold b_done_here
  refine jss_cons ?_ ?_
  · exact (js_par rfl nd rfl rfl (by decide) rfl rfl (ja_cons (je_ix (je_name (pv 1)) je_int) (ja_cons (je_ix (je_name (pv 1)) je_int) ja_nil)) rfl)
  refine jss_cons ?_ ?_
  · exact (js_set (i := 4) nd rfl (by first | exact .inl rfl | exact .inr rfl) (je_if (jt_cmp (os_in hu) (je_name (pv 2)) (je_tup (ja_cons je_str (ja_cons je_str ja_nil)))) je_int je_int))
  refine jss_cons ?_ ?_
  · refine js_if (jt_not (jt_truth (je_call D.c_is_within.cal hr tk rfl (ja_cons (je_name (pv 3)) (ja_cons je_int (ja_cons (je_bin os_sub (je_blt cs_len rfl E.h_len boot_len (jr_cons (je_name (pv 0)) jr_nil)) (je_name (pv 4))) ja_nil)))))) ?_ ?_
    · refine jss_one ?_
      exact (js_ret je_non)
    exact jss_nil
  refine jss_cons ?_ ?_
  · refine js_if (jt_cmp (os_eq hu) (je_name (pv 2)) je_str) ?_ ?_
    · refine jss_one ?_
      exact (js_set (i := 5) nd rfl (by first | exact .inl rfl | exact .inr rfl) (je_tup (ja_cons (je_ix (je_name (pv 0)) (je_bin os_add (je_name (pv 3)) je_int)) (ja_cons (je_ix (je_name (pv 0)) (je_name (pv 3))) ja_nil))))
    refine jss_one ?_
    refine js_if (jt_cmp (os_eq hu) (je_name (pv 2)) je_str) ?_ ?_
    · refine jss_one ?_
      exact (js_set (i := 5) nd rfl (by first | exact .inl rfl | exact .inr rfl) (je_call D.c_joined_pair.cal hr tk rfl (ja_cons (je_ix (je_name (pv 0)) (je_name (pv 3))) (ja_cons (je_ix (je_name (pv 0)) (je_bin os_add (je_name (pv 3)) je_int)) ja_nil))))
    refine jss_one ?_
    refine js_if (jt_cmp (os_eq hu) (je_name (pv 2)) je_str) ?_ ?_
    · refine jss_one ?_
      exact (js_set (i := 5) nd rfl (by first | exact .inl rfl | exact .inr rfl) (je_call D.c_split_item.cal hr tk rfl (ja_cons (je_ix (je_name (pv 0)) (je_name (pv 3))) (ja_cons (je_ix (je_name (pv 1)) je_int) ja_nil))))
    refine jss_one ?_
    refine js_if (jt_cmp (os_eq hu) (je_name (pv 2)) je_str) ?_ ?_
    · refine jss_one ?_
      exact (js_set (i := 5) nd rfl (by first | exact .inl rfl | exact .inr rfl) (je_call D.c_folded_item.cal hr tk rfl (ja_cons (je_ix (je_name (pv 0)) (je_name (pv 3))) ja_nil)))
    refine jss_one ?_
    exact (js_set (i := 5) nd rfl (by first | exact .inl rfl | exact .inr rfl) (je_call D.c_unfolded_item.cal hr tk rfl (ja_cons (je_ix (je_name (pv 0)) (je_name (pv 3))) (ja_cons (je_ix (je_name (pv 1)) je_int) ja_nil))))
  refine jss_one ?_
  exact (js_ret (je_if (jt_cmp os_is (je_name (pv 5)) je_non) je_non (je_bin os_add (je_bin os_add (je_slice (je_name (pv 0)) jo_none (jo_some (je_name (pv 3)))) (je_name (pv 5))) (je_slice (je_name (pv 0)) (jo_some (je_bin os_add (je_name (pv 3)) (je_name (pv 4)))) jo_none))))
theorem ok_done_here (E : Facts K w mg cts) (B : Makes base mg cts) (D : Defs P w K mg base cts n) : Dfn P w K mg base (T0 cts) (Den tbl (n + 1)) (n + 1) "done_here" 83 := by
  obtain ⟨f, fd, hf, F⟩ := E.f_done_here
  exact ⟨f, fd, ["plan", "step"], hf, F.kp, F.bindsN fun _ _ _ _ _ _ us hl => (match us, hl with | [_, _], _ => rfl), fo_done_here E D F⟩
theorem sc_done_at : FnScope ["plan", "place", "step", "at", "count", "part", "inner"] ["plan", "place", "step"] (defScope (top 35)) := ⟨rfl, rfl, rfl, by decide +kernel, rfl, by decide +kernel, by decide +kernel⟩
theorem fo_done_at (E : Facts K w mg cts) (D : Defs P w K mg base cts n) {f : Addr} {fd : FuncData} (F : FnP K "done_at" (top 35) f fd) : FnOk P w K mg base (L2.CX P w) (n + 1) f fd ["plan", "place", "step"] (spD ⟨K, mg, (T0 cts)⟩ ((Den tbl (n + 1)).call 82)) := by
  refine def_ok F sc_done_at (bd := b_done_at) rfl fun cdv A outer s H E0 hr => ?_
  have nd := (sc_done_at).nd
  have hu : (A.deeper (envOfC "done_at" (defScope (top 35)) s.heap.objs.size f cdv)).units + (Den tbl n).room < cLine := by rw [den_room]; have := hr.un; omega
  have tk : Takes (cxOf (L2.CX P w) P w K mg base ["plan", "place", "step", "at", "count", "part", "inner"] "done_at" (defScope (top 35)) f cdv A outer s H E0) (fun cls d _ H => E0 cls d H) := takes_of rfl rfl rfl rfl
  unfold b_done_at
  refine jss_cons ?_ ?_
  · refine js_if (jt_not (jt_truth (je_name (pv 1)))) ?_ ?_
    · refine jss_one ?_
      exact (js_ret (je_call D.c_done_here.cal hr tk rfl (ja_cons (je_name (pv 0)) (ja_cons (je_name (pv 2)) ja_nil))))
    exact jss_nil
  refine jss_cons ?_ ?_
  · exact (js_set (i := 3) nd rfl (by first | exact .inl rfl | exact .inr rfl) (je_ix (je_name (pv 1)) je_int))
  refine jss_cons ?_ ?_
  · refine js_if (jt_bool (jw_or (jt_not (jt_truth (je_call D.c_is_within.cal hr tk rfl (ja_cons (je_name (pv 3)) (ja_cons je_int (ja_cons (je_bin os_sub (je_blt cs_len rfl E.h_len boot_len (jr_cons (je_name (pv 0)) jr_nil)) je_int) ja_nil)))))) (jw_or1 (jt_cmp (os_ne hu) (je_blt cs_len rfl E.h_len boot_len (jr_cons (je_ix (je_ix (je_name (pv 0)) (je_name (pv 3))) je_int) jr_nil)) je_int)))) ?_ ?_
    · refine jss_one ?_
      exact (js_ret je_non)
    exact jss_nil
  refine jss_cons ?_ ?_
  · exact (js_asg (jg_tup rfl (jgs_cons (jg_name (pg_name (i := 4) nd rfl (by first | exact .inl rfl | exact .inr rfl))) (jgs_cons (jg_name (pg_name (i := 5) nd rfl (by first | exact .inl rfl | exact .inr rfl))) jgs_nil))) (je_ix (je_name (pv 0)) (je_name (pv 3))))
  refine jss_cons ?_ ?_
  · exact (js_set (i := 6) nd rfl (by first | exact .inl rfl | exact .inr rfl) (je_call D.c_done_at.cal hr tk rfl (ja_cons (je_ix (je_name (pv 5)) je_int) (ja_cons (je_slice (je_name (pv 1)) (jo_some je_int) jo_none) (ja_cons (je_name (pv 2)) ja_nil)))))
  refine jss_cons ?_ ?_
  · refine js_if (jt_cmp os_is (je_name (pv 6)) je_non) ?_ ?_
    · refine jss_one ?_
      exact (js_ret je_non)
    exact jss_nil
  refine jss_one ?_
  exact (js_ret (je_bin os_add (je_bin os_add (je_slice (je_name (pv 0)) jo_none (jo_some (je_name (pv 3)))) (je_tup (ja_cons (je_tup (ja_cons (je_name (pv 4)) (ja_cons (je_tup (ja_cons (je_ix (je_name (pv 5)) je_int) (ja_cons (je_ix (je_name (pv 5)) je_int) (ja_cons (je_name (pv 6)) ja_nil)))) ja_nil))) ja_nil))) (je_slice (je_name (pv 0)) (jo_some (je_bin os_add (je_name (pv 3)) je_int)) jo_none)))
theorem ok_done_at (E : Facts K w mg cts) (B : Makes base mg cts) (D : Defs P w K mg base cts n) : Dfn P w K mg base (T0 cts) (Den tbl (n + 1)) (n + 1) "done_at" 82 := by
  obtain ⟨f, fd, hf, F⟩ := E.f_done_at
  exact ⟨f, fd, ["plan", "place", "step"], hf, F.kp, F.bindsN fun _ _ _ _ _ _ us hl => (match us, hl with | [_, _, _], _ => rfl), fo_done_at E D F⟩
theorem sc_step_done : FnScope ["plan", "step", "made"] ["plan", "step"] (defScope (top 36)) := ⟨rfl, rfl, rfl, by decide +kernel, rfl, by decide +kernel, by decide +kernel⟩
theorem fo_step_done (E : Facts K w mg cts) (D : Defs P w K mg base cts n) {f : Addr} {fd : FuncData} (F : FnP K "step_done" (top 36) f fd) : FnOk P w K mg base (L2.CX P w) (n + 1) f fd ["plan", "step"] (spD ⟨K, mg, (T0 cts)⟩ ((Den tbl (n + 1)).call 85)) := by
  refine def_ok F sc_step_done (bd := b_step_done) rfl fun cdv A outer s H E0 hr => ?_
  have nd := (sc_step_done).nd
  have hu : (A.deeper (envOfC "step_done" (defScope (top 36)) s.heap.objs.size f cdv)).units + (Den tbl n).room < cLine := by rw [den_room]; have := hr.un; omega
  have tk : Takes (cxOf (L2.CX P w) P w K mg base ["plan", "step", "made"] "step_done" (defScope (top 36)) f cdv A outer s H E0) (fun cls d _ H => E0 cls d H) := takes_of rfl rfl rfl rfl
  unfold b_step_done
  refine jss_cons ?_ ?_
  · refine js_if (jt_not (jt_truth (je_call D.c_has_step_form.cal hr tk rfl (ja_cons (je_name (pv 1)) ja_nil)))) ?_ ?_
    · refine jss_one ?_
      exact (js_ret je_non)
    exact jss_nil
  refine jss_cons ?_ ?_
  · exact (js_set (i := 2) nd rfl (by first | exact .inl rfl | exact .inr rfl) (je_call D.c_done_at.cal hr tk rfl (ja_cons (je_name (pv 0)) (ja_cons (je_ix (je_name (pv 1)) je_int) (ja_cons (je_name (pv 1)) ja_nil)))))
  refine jss_cons ?_ ?_
  · refine js_if (jt_bool (jw_or (jt_cmp os_is (je_name (pv 2)) je_non) (jw_or (jt_cmp (os_gt hu) (je_call D.c_items_in.cal hr tk rfl (ja_cons (je_name (pv 2)) ja_nil)) (je_const (pe_globI rfl E.k_MOST_ITEMS) (fun _ => .int _))) (jw_or1 (jt_cmp (os_gt hu) (je_call D.c_nesting.cal hr tk rfl (ja_cons (je_name (pv 2)) ja_nil)) (je_const (pe_globI rfl E.k_MOST_NESTED) (fun _ => .int _))))))) ?_ ?_
    · refine jss_one ?_
      exact (js_ret je_non)
    exact jss_nil
  refine jss_one ?_
  exact (js_ret (je_name (pv 2)))
theorem ok_step_done (E : Facts K w mg cts) (B : Makes base mg cts) (D : Defs P w K mg base cts n) : Dfn P w K mg base (T0 cts) (Den tbl (n + 1)) (n + 1) "step_done" 85 := by
  obtain ⟨f, fd, hf, F⟩ := E.f_step_done
  exact ⟨f, fd, ["plan", "step"], hf, F.kp, F.bindsN fun _ _ _ _ _ _ us hl => (match us, hl with | [_, _], _ => rfl), fo_step_done E D F⟩
theorem sc_stepped : FnScope ["plan", "step", "made"] ["plan", "step"] (defScope (top 37)) := ⟨rfl, rfl, rfl, by decide +kernel, rfl, by decide +kernel, by decide +kernel⟩
theorem fo_stepped (E : Facts K w mg cts) (D : Defs P w K mg base cts n) {f : Addr} {fd : FuncData} (F : FnP K "stepped" (top 37) f fd) : FnOk P w K mg base (L2.CX P w) (n + 1) f fd ["plan", "step"] (spD ⟨K, mg, (T0 cts)⟩ ((Den tbl (n + 1)).call 96)) := by
  refine def_ok F sc_stepped (bd := b_stepped) rfl fun cdv A outer s H E0 hr => ?_
  have nd := (sc_stepped).nd
  have hu : (A.deeper (envOfC "stepped" (defScope (top 37)) s.heap.objs.size f cdv)).units + (Den tbl n).room < cLine := by rw [den_room]; have := hr.un; omega
  have tk : Takes (cxOf (L2.CX P w) P w K mg base ["plan", "step", "made"] "stepped" (defScope (top 37)) f cdv A outer s H E0) (fun cls d _ H => E0 cls d H) := takes_of rfl rfl rfl rfl
  unfold b_stepped
  refine jss_cons ?_ ?_
  · exact (js_expr (je_call D.c_check_plan.cal hr tk rfl (ja_cons (je_name (pv 0)) ja_nil)))
  refine jss_cons ?_ ?_
  · exact (js_set (i := 2) nd rfl (by first | exact .inl rfl | exact .inr rfl) (je_call D.c_step_done.cal hr tk rfl (ja_cons (je_name (pv 0)) (ja_cons (je_name (pv 1)) ja_nil))))
  refine jss_cons ?_ ?_
  · refine js_if (jt_cmp os_is (je_name (pv 2)) je_non) ?_ ?_
    · refine jss_one ?_
      exact js_never
    exact jss_nil
  refine jss_one ?_
  exact (js_ret (je_name (pv 2)))
theorem ok_stepped (E : Facts K w mg cts) (B : Makes base mg cts) (D : Defs P w K mg base cts n) : Dfn P w K mg base (T0 cts) (Den tbl (n + 1)) (n + 1) "stepped" 96 := by
  obtain ⟨f, fd, hf, F⟩ := E.f_stepped
  exact ⟨f, fd, ["plan", "step"], hf, F.kp, F.bindsN fun _ _ _ _ _ _ us hl => (match us, hl with | [_, _], _ => rfl), fo_stepped E D F⟩
theorem sc__law_tape : FnScope ["_law_script"] ["_law_script"] (defScope (top 39)) := ⟨rfl, rfl, rfl, by decide +kernel, rfl, by decide +kernel, by decide +kernel⟩
theorem fo__law_tape (E : Facts K w mg cts) (D : Defs P w K mg base cts n) {f : Addr} {fd : FuncData} (F : FnP K "_law_tape" (top 39) f fd) : FnOk P w K mg base (L2.CX P w) (n + 1) f fd ["_law_script"] (spD ⟨K, mg, (T0 cts)⟩ ((Den tbl (n + 1)).call 22)) := by
  refine def_ok F sc__law_tape (bd := b__law_tape) rfl fun cdv A outer s H E0 hr => ?_
  have nd := (sc__law_tape).nd
  have hu : (A.deeper (envOfC "_law_tape" (defScope (top 39)) s.heap.objs.size f cdv)).units + (Den tbl n).room < cLine := by rw [den_room]; have := hr.un; omega
  have tk : Takes (cxOf (L2.CX P w) P w K mg base ["_law_script"] "_law_tape" (defScope (top 39)) f cdv A outer s H E0) (fun cls d _ H => E0 cls d H) := takes_of rfl rfl rfl rfl
  unfold b__law_tape
  refine jss_one ?_
  exact (js_ret (je_lst (ja_cons (je_bty cs_list rfl E.h_list (by decide +kernel) (jr_cons (je_name (pv 0)) jr_nil)) (ja_cons je_int (ja_cons je_int (ja_cons je_int (ja_cons je_int ja_nil)))))))
theorem ok__law_tape (E : Facts K w mg cts) (B : Makes base mg cts) (D : Defs P w K mg base cts n) : Dfn P w K mg base (T0 cts) (Den tbl (n + 1)) (n + 1) "_law_tape" 22 := by
  obtain ⟨f, fd, hf, F⟩ := E.f__law_tape
  exact ⟨f, fd, ["_law_script"], hf, F.kp, F.bindsN fun _ _ _ _ _ _ us hl => (match us, hl with | [_], _ => rfl), fo__law_tape E D F⟩
theorem sc__law_pick : FnScope ["_law_tape_here", "_law_many", "_law_digit", "_law_cell", "_law_mixed"] ["_law_tape_here", "_law_many"] (defScope (top 40)) := ⟨rfl, rfl, rfl, by decide +kernel, rfl, by decide +kernel, by decide +kernel⟩
theorem fo__law_pick (E : Facts K w mg cts) (D : Defs P w K mg base cts n) {f : Addr} {fd : FuncData} (F : FnP K "_law_pick" (top 40) f fd) : FnOk P w K mg base (L2.CX P w) (n + 1) f fd ["_law_tape_here", "_law_many"] (spD ⟨K, mg, (T0 cts)⟩ ((Den tbl (n + 1)).call 11)) := by
  refine def_ok F sc__law_pick (bd := b__law_pick) rfl fun cdv A outer s H E0 hr => ?_
  have nd := (sc__law_pick).nd
  have hu : (A.deeper (envOfC "_law_pick" (defScope (top 40)) s.heap.objs.size f cdv)).units + (Den tbl n).room < cLine := by rw [den_room]; have := hr.un; omega
  have tk : Takes (cxOf (L2.CX P w) P w K mg base ["_law_tape_here", "_law_many", "_law_digit", "_law_cell", "_law_mixed"] "_law_pick" (defScope (top 40)) f cdv A outer s H E0) (fun cls d _ H => E0 cls d H) := takes_of rfl rfl rfl rfl
  unfold b__law_pick
  refine jss_cons ?_ ?_
  · refine js_if (jt_cmp (os_gt hu) (je_ixW (pv 0) je_int) je_int) ?_ ?_
    · refine jss_cons ?_ ?_
      · exact (js_set (i := 2) nd rfl (by first | exact .inl rfl | exact .inr rfl) (je_bin os_mod (je_bty cs_int rfl E.h_int (by decide +kernel) (jr_cons (je_ixW (pv 0) je_int) jr_nil)) (je_name (pv 1))))
      refine jss_cons ?_ ?_
      · exact (js_setIx (pv 0) je_int (je_bin os_fdiv (je_ixW (pv 0) je_int) (je_name (pv 1))))
      refine jss_one ?_
      exact (js_ret (je_name (pv 2)))
    exact jss_nil
  refine jss_cons ?_ ?_
  · exact (js_setIx (pv 0) je_int (je_bin os_add (je_ixW (pv 0) je_int) je_int))
  refine jss_cons ?_ ?_
  · exact (js_set (i := 3) nd rfl (by first | exact .inl rfl | exact .inr rfl) je_int)
  refine jss_cons ?_ ?_
  · refine js_if (jt_cmp (os_lt hu) (je_ixW (pv 0) je_int) (je_blt cs_len rfl E.h_len boot_len (jr_cons (je_ixW (pv 0) je_int) jr_nil))) ?_ ?_
    · refine jss_cons ?_ ?_
      · exact (js_set (i := 3) nd rfl (by first | exact .inl rfl | exact .inr rfl) (je_ix (je_ixW (pv 0) je_int) (je_ixW (pv 0) je_int)))
      refine jss_one ?_
      exact (js_setIx (pv 0) je_int (je_bin os_add (je_ixW (pv 0) je_int) je_int))
    exact jss_nil
  refine jss_cons ?_ ?_
  · refine js_if (jt_cmp (os_ge hu) (je_name (pv 3)) (je_bin os_pow je_int je_int)) ?_ ?_
    · refine jss_cons ?_ ?_
      · exact (js_setIx (pv 0) je_int (je_bin os_fdiv (je_name (pv 3)) (je_name (pv 1))))
      refine jss_one ?_
      exact (js_ret (je_bin os_mod (je_bty cs_int rfl E.h_int (by decide +kernel) (jr_cons (je_name (pv 3)) jr_nil)) (je_name (pv 1))))
    exact jss_nil
  refine jss_cons ?_ ?_
  · exact (js_set (i := 4) nd rfl (by first | exact .inl rfl | exact .inr rfl) (je_bin os_mod (je_bty cs_int rfl E.h_int (by decide +kernel) (jr_cons (je_bin os_add (je_bin os_add (je_bin os_mul (je_ixW (pv 0) je_int) je_int) (je_bin os_mod (je_bty cs_int rfl E.h_int (by decide +kernel) (jr_cons (je_name (pv 3)) jr_nil)) je_int)) (je_bin os_mul (je_ixW (pv 0) je_int) je_int)) jr_nil)) je_int))
  refine jss_cons ?_ ?_
  · exact (js_set (i := 4) nd rfl (by first | exact .inl rfl | exact .inr rfl) (je_bin os_mod (je_bty cs_int rfl E.h_int (by decide +kernel) (jr_cons (je_bin os_mul (je_name (pv 4)) (je_bin os_add (je_bin os_fdiv (je_name (pv 4)) je_int) je_int)) jr_nil)) je_int))
  refine jss_cons ?_ ?_
  · exact (js_setIx (pv 0) je_int (je_name (pv 4)))
  refine jss_one ?_
  exact (js_ret (je_bin os_mod (je_bty cs_int rfl E.h_int (by decide +kernel) (jr_cons (je_bin os_fdiv (je_name (pv 4)) je_int) jr_nil)) (je_name (pv 1))))
theorem ok__law_pick (E : Facts K w mg cts) (B : Makes base mg cts) (D : Defs P w K mg base cts n) : Dfn P w K mg base (T0 cts) (Den tbl (n + 1)) (n + 1) "_law_pick" 11 := by
  obtain ⟨f, fd, hf, F⟩ := E.f__law_pick
  exact ⟨f, fd, ["_law_tape_here", "_law_many"], hf, F.kp, F.bindsN fun _ _ _ _ _ _ us hl => (match us, hl with | [_, _], _ => rfl), fo__law_pick E D F⟩
theorem sc__law_plan : FnScope ["_law_tape_here", "_law_left", "_law_depth", "_law_letters", "_law_words", "_law_items", "_law_turn", "_law_count", "_law_part_here"] ["_law_tape_here", "_law_left", "_law_depth", "_law_letters", "_law_words"] (defScope (top 41)) := ⟨rfl, rfl, rfl, by decide +kernel, rfl, by decide +kernel, by decide +kernel⟩
theorem fo__law_plan (E : Facts K w mg cts) (D : Defs P w K mg base cts n) {f : Addr} {fd : FuncData} (F : FnP K "_law_plan" (top 41) f fd) : FnOk P w K mg base (L2.CX P w) (n + 1) f fd ["_law_tape_here", "_law_left", "_law_depth", "_law_letters", "_law_words"] (spD ⟨K, mg, (T0 cts)⟩ ((Den tbl (n + 1)).call 87)) := by
  refine def_ok F sc__law_plan (bd := b__law_plan_87) rfl fun cdv A outer s H E0 hr => ?_
  have nd := (sc__law_plan).nd
  have hu : (A.deeper (envOfC "_law_plan" (defScope (top 41)) s.heap.objs.size f cdv)).units + (Den tbl n).room < cLine := by rw [den_room]; have := hr.un; omega
  have tk : Takes (cxOf (L2.CX P w) P w K mg base ["_law_tape_here", "_law_left", "_law_depth", "_law_letters", "_law_words", "_law_items", "_law_turn", "_law_count", "_law_part_here"] "_law_plan" (defScope (top 41)) f cdv A outer s H E0) (fun cls d _ H => E0 cls d H) := takes_of rfl rfl rfl rfl
  unfold b__law_plan_87
  refine jss_cons ?_ ?_
  · exact (js_set (i := 5) nd rfl (by first | exact .inl rfl | exact .inr rfl) (je_lst ja_nil))
  refine jss_cons ?_ ?_
  · refine js_for (passes_of rfl) rfl (ji_range1 rfl E.h_range (jr_cons je_int jr_nil)) (jg_name (pg_name (i := 6) nd rfl (by first | exact .inl rfl | exact .inr rfl))) ?_
    refine jss_cons ?_ ?_
    · refine js_if (jt_bool (jw_or (jt_cmp (os_lt hu) (je_name (pv 1)) je_int) (jw_or1 (jt_cmp (os_eq hu) (je_call D.c__law_pick.cal hr tk rfl (ja_cons (je_name (pv 0)) (ja_cons je_int ja_nil))) je_int)))) ?_ ?_
      · refine jss_one ?_
        exact js_break
      exact jss_nil
    refine jss_cons ?_ ?_
    · exact (js_set (i := 7) nd rfl (by first | exact .inl rfl | exact .inr rfl) (je_ix (je_lst (ja_cons je_int (ja_cons je_int (ja_cons je_int (ja_cons je_int (ja_cons je_int ja_nil)))))) (je_call D.c__law_pick.cal hr tk rfl (ja_cons (je_name (pv 0)) (ja_cons je_int ja_nil)))))
    refine jss_cons ?_ ?_
    · refine js_if (jt_cmp (os_gt hu) (je_name (pv 7)) (je_name (pv 1))) ?_ ?_
      · refine jss_one ?_
        exact (js_set (i := 7) nd rfl (by first | exact .inl rfl | exact .inr rfl) je_int)
      exact jss_nil
    refine jss_cons ?_ ?_
    · exact (js_set (i := 8) nd rfl (by first | exact .inl rfl | exact .inr rfl) (je_call D.c__law_part.cal hr tk rfl (ja_cons (je_name (pv 0)) (ja_cons (je_bin os_fdiv (je_name (pv 1)) (je_name (pv 7))) (ja_cons (je_name (pv 2)) (ja_cons (je_name (pv 3)) (ja_cons (je_name (pv 4)) ja_nil)))))))
    refine jss_cons ?_ ?_
    · exact (js_append (pv 5) (je_tup (ja_cons (je_name (pv 7)) (ja_cons (je_name (pv 8)) ja_nil))))
    refine jss_one ?_
    exact (js_set (i := 1) nd rfl (by first | exact .inl rfl | exact .inr rfl) (je_bin os_sub (je_name (pv 1)) (je_bin os_mul (je_name (pv 7)) (je_call D.c__law_part_size.cal hr tk rfl (ja_cons (je_name (pv 8)) ja_nil)))))
  refine jss_one ?_
  exact (js_ret (je_bty cs_tuple rfl E.h_tuple (by decide +kernel) (jr_cons (je_name (pv 5)) jr_nil)))
theorem ok__law_plan (E : Facts K w mg cts) (B : Makes base mg cts) (D : Defs P w K mg base cts n) : Dfn P w K mg base (T0 cts) (Den tbl (n + 1)) (n + 1) "_law_plan" 87 := by
  obtain ⟨f, fd, hf, F⟩ := E.f__law_plan
  exact ⟨f, fd, ["_law_tape_here", "_law_left", "_law_depth", "_law_letters", "_law_words"], hf, F.kp, F.bindsN fun _ _ _ _ _ _ us hl => (match us, hl with | [_, _, _, _, _], _ => rfl), fo__law_plan E D F⟩
theorem sc__law_part : FnScope ["_law_tape_here", "_law_left", "_law_depth", "_law_letters", "_law_words", "_law_kind", "_law_door", "_law_label"] ["_law_tape_here", "_law_left", "_law_depth", "_law_letters", "_law_words"] (defScope (top 42)) := ⟨rfl, rfl, rfl, by decide +kernel, rfl, by decide +kernel, by decide +kernel⟩
theorem fo__law_part (E : Facts K w mg cts) (D : Defs P w K mg base cts n) {f : Addr} {fd : FuncData} (F : FnP K "_law_part" (top 42) f fd) : FnOk P w K mg base (L2.CX P w) (n + 1) f fd ["_law_tape_here", "_law_left", "_law_depth", "_law_letters", "_law_words"] (spD ⟨K, mg, (T0 cts)⟩ ((Den tbl (n + 1)).call 86)) := by
  refine def_ok F sc__law_part (bd := b__law_part_86) rfl fun cdv A outer s H E0 hr => ?_
  have nd := (sc__law_part).nd
  have hu : (A.deeper (envOfC "_law_part" (defScope (top 42)) s.heap.objs.size f cdv)).units + (Den tbl n).room < cLine := by rw [den_room]; have := hr.un; omega
  have tk : Takes (cxOf (L2.CX P w) P w K mg base ["_law_tape_here", "_law_left", "_law_depth", "_law_letters", "_law_words", "_law_kind", "_law_door", "_law_label"] "_law_part" (defScope (top 42)) f cdv A outer s H E0) (fun cls d _ H => E0 cls d H) := takes_of rfl rfl rfl rfl
  unfold b__law_part_86
  refine jss_cons ?_ ?_
  · exact (js_set (i := 5) nd rfl (by first | exact .inl rfl | exact .inr rfl) (je_call D.c__law_pick.cal hr tk rfl (ja_cons (je_name (pv 0)) (ja_cons je_int ja_nil))))
  refine jss_cons ?_ ?_
  · refine js_if (jt_bool (jw_and (jt_cmp (os_lt hu) (je_name (pv 1)) je_int) (jw_and1 (jt_cmp (os_gt hu) (je_name (pv 5)) je_int)))) ?_ ?_
    · refine jss_one ?_
      exact (js_set (i := 5) nd rfl (by first | exact .inl rfl | exact .inr rfl) (je_call D.c__law_pick.cal hr tk rfl (ja_cons (je_name (pv 0)) (ja_cons je_int ja_nil))))
    exact jss_nil
  refine jss_cons ?_ ?_
  · exact (js_set (i := 6) nd rfl (by first | exact .inl rfl | exact .inr rfl) (je_ix (je_name (pv 3)) (je_call D.c__law_pick.cal hr tk rfl (ja_cons (je_name (pv 0)) (ja_cons (je_blt cs_len rfl E.h_len boot_len (jr_cons (je_name (pv 3)) jr_nil)) ja_nil)))))
  refine jss_cons ?_ ?_
  · refine js_if (jt_bool (jw_and (jt_cmp (os_eq hu) (je_name (pv 5)) je_int) (jw_and1 (jt_cmp (os_gt hu) (je_blt cs_len rfl E.h_len boot_len (jr_cons (je_name (pv 4)) jr_nil)) je_int)))) ?_ ?_
    · refine jss_cons ?_ ?_
      · exact (js_set (i := 7) nd rfl (by first | exact .inl rfl | exact .inr rfl) (je_ix (je_name (pv 4)) (je_call D.c__law_pick.cal hr tk rfl (ja_cons (je_name (pv 0)) (ja_cons (je_blt cs_len rfl E.h_len boot_len (jr_cons (je_name (pv 4)) jr_nil)) ja_nil)))))
      refine jss_one ?_
      exact (js_ret (je_tup (ja_cons (je_ix (je_lst (ja_cons je_str (ja_cons je_str ja_nil))) (je_bty cs_int rfl E.h_int (by decide +kernel) (jr_cons (je_isi rfl E.h_isinstance rfl E.h_int (by decide +kernel) (je_name (pv 7))) jr_nil))) (ja_cons (je_name (pv 7)) ja_nil))))
    exact jss_nil
  refine jss_cons ?_ ?_
  · refine js_if (jt_bool (jw_and (jt_cmp (os_lt hu) (je_name (pv 5)) je_int) (jw_and1 (jt_cmp (os_gt hu) (je_name (pv 2)) je_int)))) ?_ ?_
    · refine jss_one ?_
      exact (js_ret (je_tup (ja_cons je_str (ja_cons (je_ix (je_lst (ja_cons je_int (ja_cons je_int (ja_cons (je_call D.c__law_pick.cal hr tk rfl (ja_cons (je_name (pv 0)) (ja_cons (je_name (pv 2)) ja_nil))) ja_nil)))) (je_call D.c__law_pick.cal hr tk rfl (ja_cons (je_name (pv 0)) (ja_cons je_int ja_nil)))) ja_nil))))
    exact jss_nil
  refine jss_cons ?_ ?_
  · refine js_if (jt_bool (jw_or (jt_cmp (os_eq hu) (je_name (pv 5)) je_int) (jw_or1 (jt_cmp (os_eq hu) (je_name (pv 5)) je_int)))) ?_ ?_
    · refine jss_one ?_
      exact (js_ret (je_tup (ja_cons je_str (ja_cons (je_name (pv 6)) (ja_cons (je_call D.c__law_plan.cal hr tk rfl (ja_cons (je_name (pv 0)) (ja_cons (je_bin os_sub (je_name (pv 1)) je_int) (ja_cons (je_name (pv 2)) (ja_cons (je_name (pv 3)) (ja_cons (je_name (pv 4)) ja_nil)))))) ja_nil)))))
    exact jss_nil
  refine jss_one ?_
  exact (js_ret (je_tup (ja_cons je_str (ja_cons (je_name (pv 6)) (ja_cons (je_call D.c__law_plan.cal hr tk rfl (ja_cons (je_name (pv 0)) (ja_cons (je_bin os_sub (je_name (pv 1)) je_int) (ja_cons (je_bin os_add (je_name (pv 2)) je_int) (ja_cons (je_name (pv 3)) (ja_cons (je_name (pv 4)) ja_nil)))))) ja_nil)))))
theorem ok__law_part (E : Facts K w mg cts) (B : Makes base mg cts) (D : Defs P w K mg base cts n) : Dfn P w K mg base (T0 cts) (Den tbl (n + 1)) (n + 1) "_law_part" 86 := by
  obtain ⟨f, fd, hf, F⟩ := E.f__law_part
  exact ⟨f, fd, ["_law_tape_here", "_law_left", "_law_depth", "_law_letters", "_law_words"], hf, F.kp, F.bindsN fun _ _ _ _ _ _ us hl => (match us, hl with | [_, _, _, _, _], _ => rfl), fo__law_part E D F⟩
theorem sc__law_part_size : FnScope ["_law_part_here"] ["_law_part_here"] (defScope (top 43)) := ⟨rfl, rfl, rfl, by decide +kernel, rfl, by decide +kernel, by decide +kernel⟩
theorem fo__law_part_size (E : Facts K w mg cts) (D : Defs P w K mg base cts n) {f : Addr} {fd : FuncData} (F : FnP K "_law_part_size" (top 43) f fd) : FnOk P w K mg base (L2.CX P w) (n + 1) f fd ["_law_part_here"] (spD ⟨K, mg, (T0 cts)⟩ ((Den tbl (n + 1)).call 38)) := by
  refine def_ok F sc__law_part_size (bd := b__law_part_size) rfl fun cdv A outer s H E0 hr => ?_
  have nd := (sc__law_part_size).nd
  have hu : (A.deeper (envOfC "_law_part_size" (defScope (top 43)) s.heap.objs.size f cdv)).units + (Den tbl n).room < cLine := by rw [den_room]; have := hr.un; omega
  have tk : Takes (cxOf (L2.CX P w) P w K mg base ["_law_part_here"] "_law_part_size" (defScope (top 43)) f cdv A outer s H E0) (fun cls d _ H => E0 cls d H) := takes_of rfl rfl rfl rfl
  unfold b__law_part_size
  refine jss_cons ?_ ?_
  · refine js_if (jt_cmp (os_eq hu) (je_blt cs_len rfl E.h_len boot_len (jr_cons (je_name (pv 0)) jr_nil)) je_int) ?_ ?_
    · refine jss_one ?_
      exact (js_ret (je_bin os_add je_int (je_call D.c__law_size.cal hr tk rfl (ja_cons (je_ix (je_name (pv 0)) je_int) ja_nil))))
    exact jss_nil
  refine jss_one ?_
  exact (js_ret je_int)
theorem ok__law_part_size (E : Facts K w mg cts) (B : Makes base mg cts) (D : Defs P w K mg base cts n) : Dfn P w K mg base (T0 cts) (Den tbl (n + 1)) (n + 1) "_law_part_size" 38 := by
  obtain ⟨f, fd, hf, F⟩ := E.f__law_part_size
  exact ⟨f, fd, ["_law_part_here"], hf, F.kp, F.bindsN fun _ _ _ _ _ _ us hl => (match us, hl with | [_], _ => rfl), fo__law_part_size E D F⟩
theorem sc__law_size : FnScope ["_law_plan_here", "_law_count", "_law_part_here"] ["_law_plan_here"] (defScope (top 44)) := ⟨rfl, rfl, rfl, by decide +kernel, rfl, by decide +kernel, by decide +kernel⟩
theorem fo__law_size (E : Facts K w mg cts) (D : Defs P w K mg base cts n) {f : Addr} {fd : FuncData} (F : FnP K "_law_size" (top 44) f fd) : FnOk P w K mg base (L2.CX P w) (n + 1) f fd ["_law_plan_here"] (spD ⟨K, mg, (T0 cts)⟩ ((Den tbl (n + 1)).call 41)) := by
  refine def_ok F sc__law_size (bd := b__law_size) rfl fun cdv A outer s H E0 hr => ?_
  have nd := (sc__law_size).nd
  have hu : (A.deeper (envOfC "_law_size" (defScope (top 44)) s.heap.objs.size f cdv)).units + (Den tbl n).room < cLine := by rw [den_room]; have := hr.un; omega
  have tk : Takes (cxOf (L2.CX P w) P w K mg base ["_law_plan_here", "_law_count", "_law_part_here"] "_law_size" (defScope (top 44)) f cdv A outer s H E0) (fun cls d _ H => E0 cls d H) := takes_of rfl rfl rfl rfl
  unfold b__law_size
  refine jss_one ?_
  exact (js_ret (je_blt (cs_sum rfl) rfl E.h_sum (by decide +kernel) (jr_cons (je_comp rfl nd (ji_seq (je_name (pv 0))) (blkOk_by (N := ["_law_plan_here", "_law_count", "_law_part_here"]) (sc := defScope (top 44)) (own := [("_law_count", 1), ("_law_part_here", 2)]) (by decide +kernel)) (us := [1, 2]) rfl (by decide) (fun _ _ _ _ _ => (jg_tup rfl (jgs_cons (jg_name (pg_name (i := 1) nd rfl (by first | exact .inl rfl | exact .inr rfl))) (jgs_cons (jg_name (pg_name (i := 2) nd rfl (by first | exact .inl rfl | exact .inr rfl))) jgs_nil)))) (fun _ _ _ _ _ => jts_nil) (fun _ _ _ _ _ => (je_bin os_mul (je_name (pv 1)) (je_call D.c__law_part_size.cal hr takes0 rfl (ja_cons (je_name (pv 2)) ja_nil))))) jr_nil)))
theorem ok__law_size (E : Facts K w mg cts) (B : Makes base mg cts) (D : Defs P w K mg base cts n) : Dfn P w K mg base (T0 cts) (Den tbl (n + 1)) (n + 1) "_law_size" 41 := by
  obtain ⟨f, fd, hf, F⟩ := E.f__law_size
  exact ⟨f, fd, ["_law_plan_here"], hf, F.kp, F.bindsN fun _ _ _ _ _ _ us hl => (match us, hl with | [_], _ => rfl), fo__law_size E D F⟩
theorem sc__law_raise : FnScope ["_law_plan_here", "_law_by", "_law_least", "_law_found", "_law_count", "_law_part_here"] ["_law_plan_here", "_law_by", "_law_least"] (defScope (top 45)) := ⟨rfl, rfl, rfl, by decide +kernel, rfl, by decide +kernel, by decide +kernel⟩
theorem fo__law_raise (E : Facts K w mg cts) (D : Defs P w K mg base cts n) {f : Addr} {fd : FuncData} (F : FnP K "_law_raise" (top 45) f fd) : FnOk P w K mg base (L2.CX P w) (n + 1) f fd ["_law_plan_here", "_law_by", "_law_least"] (spD ⟨K, mg, (T0 cts)⟩ ((Den tbl (n + 1)).call 88)) := by
  refine def_ok F sc__law_raise (bd := b__law_raise) rfl fun cdv A outer s H E0 hr => ?_
  have nd := (sc__law_raise).nd
  have hu : (A.deeper (envOfC "_law_raise" (defScope (top 45)) s.heap.objs.size f cdv)).units + (Den tbl n).room < cLine := by rw [den_room]; have := hr.un; omega
  have tk : Takes (cxOf (L2.CX P w) P w K mg base ["_law_plan_here", "_law_by", "_law_least", "_law_found", "_law_count", "_law_part_here"] "_law_raise" (defScope (top 45)) f cdv A outer s H E0) (fun cls d _ H => E0 cls d H) := takes_of rfl rfl rfl rfl
  unfold b__law_raise
  refine jss_cons ?_ ?_
  · exact (js_set (i := 3) nd rfl (by first | exact .inl rfl | exact .inr rfl) (je_lst ja_nil))
  refine jss_cons ?_ ?_
  · refine js_for (passes_of rfl) rfl (ji_seq (je_name (pv 0))) (jg_tup rfl (jgs_cons (jg_name (pg_name (i := 4) nd rfl (by first | exact .inl rfl | exact .inr rfl))) (jgs_cons (jg_name (pg_name (i := 5) nd rfl (by first | exact .inl rfl | exact .inr rfl))) jgs_nil))) ?_
    refine jss_cons ?_ ?_
    · refine js_if (jt_bool (jw_and (jt_cmp (os_eq hu) (je_ix (je_name (pv 5)) je_int) je_str) (jw_and1 (jt_cmp (os_ge hu) (je_ix (je_name (pv 5)) je_int) (je_name (pv 2)))))) ?_ ?_
      · refine jss_one ?_
        exact (js_set (i := 5) nd rfl (by first | exact .inl rfl | exact .inr rfl) (je_tup (ja_cons je_str (ja_cons (je_bin os_add (je_ix (je_name (pv 5)) je_int) (je_name (pv 1))) ja_nil))))
      exact jss_nil
    refine jss_cons ?_ ?_
    · refine js_if (jt_cmp (os_eq hu) (je_ix (je_name (pv 5)) je_int) je_str) ?_ ?_
      · refine jss_one ?_
        exact (js_set (i := 5) nd rfl (by first | exact .inl rfl | exact .inr rfl) (je_tup (ja_cons je_str (ja_cons (je_ix (je_name (pv 5)) je_int) (ja_cons (je_call D.c__law_raise.cal hr tk rfl (ja_cons (je_ix (je_name (pv 5)) je_int) (ja_cons (je_name (pv 1)) (ja_cons (je_name (pv 2)) ja_nil)))) ja_nil)))))
      exact jss_nil
    refine jss_cons ?_ ?_
    · refine js_if (jt_cmp (os_eq hu) (je_ix (je_name (pv 5)) je_int) je_str) ?_ ?_
      · refine jss_one ?_
        exact (js_set (i := 5) nd rfl (by first | exact .inl rfl | exact .inr rfl) (je_tup (ja_cons je_str (ja_cons (je_ix (je_name (pv 5)) je_int) (ja_cons (je_call D.c__law_raise.cal hr tk rfl (ja_cons (je_ix (je_name (pv 5)) je_int) (ja_cons (je_name (pv 1)) (ja_cons (je_bin os_add (je_name (pv 2)) je_int) ja_nil)))) ja_nil)))))
      exact jss_nil
    refine jss_one ?_
    exact (js_append (pv 3) (je_tup (ja_cons (je_name (pv 4)) (ja_cons (je_name (pv 5)) ja_nil))))
  refine jss_one ?_
  exact (js_ret (je_bty cs_tuple rfl E.h_tuple (by decide +kernel) (jr_cons (je_name (pv 3)) jr_nil)))
theorem ok__law_raise (E : Facts K w mg cts) (B : Makes base mg cts) (D : Defs P w K mg base cts n) : Dfn P w K mg base (T0 cts) (Den tbl (n + 1)) (n + 1) "_law_raise" 88 := by
  obtain ⟨f, fd, hf, F⟩ := E.f__law_raise
  exact ⟨f, fd, ["_law_plan_here", "_law_by", "_law_least"], hf, F.kp, F.bindsN fun _ _ _ _ _ _ us hl => (match us, hl with | [_, _, _], _ => rfl), fo__law_raise E D F⟩
theorem sc__law_step : FnScope ["_law_plan_here", "_law_step_here", "_law_place", "_law_count", "_law_part_here", "_law_inner", "_law_at", "_law_ahead", "_law_many", "_law_last"] ["_law_plan_here", "_law_step_here"] (defScope (top 46)) := ⟨rfl, rfl, rfl, by decide +kernel, rfl, by decide +kernel, by decide +kernel⟩
theorem fo__law_step (E : Facts K w mg cts) (D : Defs P w K mg base cts n) {f : Addr} {fd : FuncData} (F : FnP K "_law_step" (top 46) f fd) : FnOk P w K mg base (L2.CX P w) (n + 1) f fd ["_law_plan_here", "_law_step_here"] (spD ⟨K, mg, (T0 cts)⟩ ((Den tbl (n + 1)).call 89)) := by
  refine def_ok F sc__law_step (bd := b__law_step) rfl fun cdv A outer s H E0 hr => ?_
  have nd := (sc__law_step).nd
  have hu : (A.deeper (envOfC "_law_step" (defScope (top 46)) s.heap.objs.size f cdv)).units + (Den tbl n).room < cLine := by rw [den_room]; have := hr.un; omega
  have tk : Takes (cxOf (L2.CX P w) P w K mg base ["_law_plan_here", "_law_step_here", "_law_place", "_law_count", "_law_part_here", "_law_inner", "_law_at", "_law_ahead", "_law_many", "_law_last"] "_law_step" (defScope (top 46)) f cdv A outer s H E0) (fun cls d _ H => E0 cls d H) := takes_of rfl rfl rfl rfl
  unfold b__law_step
  refine jss_cons ?_ ?_
  · exact (js_set (i := 2) nd rfl (by first | exact .inl rfl | exact .inr rfl) (je_ix (je_name (pv 1)) je_int))
  refine jss_cons ?_ ?_
  · refine js_if (jt_cmp (os_gt hu) (je_blt cs_len rfl E.h_len boot_len (jr_cons (je_name (pv 2)) jr_nil)) je_int) ?_ ?_
    · refine jss_cons ?_ ?_
      · refine js_if (jt_bool (jw_or (jt_cmp (os_lt hu) (je_ix (je_name (pv 2)) je_int) je_int) (jw_or (jt_cmp (os_ge hu) (je_ix (je_name (pv 2)) je_int) (je_blt cs_len rfl E.h_len boot_len (jr_cons (je_name (pv 0)) jr_nil))) (jw_or1 (jt_cmp (os_eq hu) (je_blt cs_len rfl E.h_len boot_len (jr_cons (je_ix (je_ix (je_name (pv 0)) (je_ix (je_name (pv 2)) je_int)) je_int) jr_nil)) je_int))))) ?_ ?_
        · refine jss_one ?_
          exact (js_ret je_non)
        exact jss_nil
      refine jss_cons ?_ ?_
      · exact (js_asg (jg_tup rfl (jgs_cons (jg_name (pg_name (i := 3) nd rfl (by first | exact .inl rfl | exact .inr rfl))) (jgs_cons (jg_name (pg_name (i := 4) nd rfl (by first | exact .inl rfl | exact .inr rfl))) jgs_nil))) (je_ix (je_name (pv 0)) (je_ix (je_name (pv 2)) je_int)))
      refine jss_cons ?_ ?_
      · exact (js_set (i := 5) nd rfl (by first | exact .inl rfl | exact .inr rfl) (je_call D.c__law_step.cal hr tk rfl (ja_cons (je_ix (je_name (pv 4)) je_int) (ja_cons (je_bin os_add (je_tup (ja_cons (je_ix (je_name (pv 1)) je_int) (ja_cons (je_slice (je_name (pv 2)) (jo_some je_int) jo_none) ja_nil))) (je_slice (je_name (pv 1)) (jo_some je_int) jo_none)) ja_nil))))
      refine jss_cons ?_ ?_
      · refine js_if (jt_cmp os_is (je_name (pv 5)) je_non) ?_ ?_
        · refine jss_one ?_
          exact (js_ret je_non)
        exact jss_nil
      refine jss_one ?_
      exact (js_ret (je_bin os_add (je_bin os_add (je_slice (je_name (pv 0)) jo_none (jo_some (je_ix (je_name (pv 2)) je_int))) (je_tup (ja_cons (je_tup (ja_cons (je_name (pv 3)) (ja_cons (je_tup (ja_cons (je_ix (je_name (pv 4)) je_int) (ja_cons (je_ix (je_name (pv 4)) je_int) (ja_cons (je_name (pv 5)) ja_nil)))) ja_nil))) ja_nil))) (je_slice (je_name (pv 0)) (jo_some (je_bin os_add (je_ix (je_name (pv 2)) je_int) je_int)) jo_none)))
    exact jss_nil
  refine jss_cons ?_ ?_
  · exact (js_set (i := 6) nd rfl (by first | exact .inl rfl | exact .inr rfl) (je_ix (je_name (pv 1)) je_int))
  refine jss_cons ?_ ?_
  · refine js_if (jt_bool (jw_or (jt_cmp (os_lt hu) (je_name (pv 6)) je_int) (jw_or1 (jt_cmp (os_ge hu) (je_name (pv 6)) (je_blt cs_len rfl E.h_len boot_len (jr_cons (je_name (pv 0)) jr_nil)))))) ?_ ?_
    · refine jss_one ?_
      exact (js_ret je_non)
    exact jss_nil
  refine jss_cons ?_ ?_
  · exact (js_asg (jg_tup rfl (jgs_cons (jg_name (pg_name (i := 3) nd rfl (by first | exact .inl rfl | exact .inr rfl))) (jgs_cons (jg_name (pg_name (i := 4) nd rfl (by first | exact .inl rfl | exact .inr rfl))) jgs_nil))) (je_ix (je_name (pv 0)) (je_name (pv 6))))
  refine jss_cons ?_ ?_
  · refine js_if (jt_bool (jw_or (jt_cmp (os_eq hu) (je_ix (je_name (pv 1)) je_int) je_str) (jw_or1 (jt_cmp (os_eq hu) (je_ix (je_name (pv 1)) je_int) je_str)))) ?_ ?_
    · refine jss_cons ?_ ?_
      · refine js_if (jt_bool (jw_or (jt_cmp (os_eq hu) (je_bin os_add (je_name (pv 6)) je_int) (je_blt cs_len rfl E.h_len boot_len (jr_cons (je_name (pv 0)) jr_nil))) (jw_or1 (jt_bool (jw_and (jt_cmp (os_eq hu) (je_ix (je_name (pv 1)) je_int) je_str) (jw_and1 (jt_cmp (os_ne hu) (je_ix (je_ix (je_name (pv 0)) (je_bin os_add (je_name (pv 6)) je_int)) je_int) (je_name (pv 4))))))))) ?_ ?_
        · refine jss_one ?_
          exact (js_ret je_non)
        exact jss_nil
      refine jss_cons ?_ ?_
      · refine js_if (jt_cmp (os_eq hu) (je_ix (je_name (pv 1)) je_int) je_str) ?_ ?_
        · refine jss_one ?_
          exact (js_ret (je_bin os_add (je_bin os_add (je_slice (je_name (pv 0)) jo_none (jo_some (je_name (pv 6)))) (je_tup (ja_cons (je_ix (je_name (pv 0)) (je_bin os_add (je_name (pv 6)) je_int)) (ja_cons (je_ix (je_name (pv 0)) (je_name (pv 6))) ja_nil)))) (je_slice (je_name (pv 0)) (jo_some (je_bin os_add (je_name (pv 6)) je_int)) jo_none)))
        exact jss_nil
      refine jss_one ?_
      exact (js_ret (je_bin os_add (je_bin os_add (je_slice (je_name (pv 0)) jo_none (jo_some (je_name (pv 6)))) (je_tup (ja_cons (je_tup (ja_cons (je_bin os_add (je_name (pv 3)) (je_ix (je_ix (je_name (pv 0)) (je_bin os_add (je_name (pv 6)) je_int)) je_int)) (ja_cons (je_name (pv 4)) ja_nil))) ja_nil))) (je_slice (je_name (pv 0)) (jo_some (je_bin os_add (je_name (pv 6)) je_int)) jo_none)))
    exact jss_nil
  refine jss_cons ?_ ?_
  · refine js_if (jt_cmp (os_eq hu) (je_ix (je_name (pv 1)) je_int) je_str) ?_ ?_
    · refine jss_cons ?_ ?_
      · refine js_if (jt_bool (jw_or (jt_cmp (os_lt hu) (je_ix (je_name (pv 1)) je_int) je_int) (jw_or1 (jt_cmp (os_ge hu) (je_ix (je_name (pv 1)) je_int) (je_name (pv 3)))))) ?_ ?_
        · refine jss_one ?_
          exact (js_ret je_non)
        exact jss_nil
      refine jss_one ?_
      exact (js_ret (je_bin os_add (je_bin os_add (je_slice (je_name (pv 0)) jo_none (jo_some (je_name (pv 6)))) (je_tup (ja_cons (je_tup (ja_cons (je_ix (je_name (pv 1)) je_int) (ja_cons (je_name (pv 4)) ja_nil))) (ja_cons (je_tup (ja_cons (je_bin os_sub (je_name (pv 3)) (je_ix (je_name (pv 1)) je_int)) (ja_cons (je_name (pv 4)) ja_nil))) ja_nil)))) (je_slice (je_name (pv 0)) (jo_some (je_bin os_add (je_name (pv 6)) je_int)) jo_none)))
    exact jss_nil
  refine jss_cons ?_ ?_
  · refine js_if (jt_cmp (os_ne hu) (je_ix (je_name (pv 4)) je_int) je_str) ?_ ?_
    · refine jss_one ?_
      exact (js_ret je_non)
    exact jss_nil
  refine jss_cons ?_ ?_
  · refine js_if (jt_cmp (os_eq hu) (je_ix (je_name (pv 1)) je_int) je_str) ?_ ?_
    · refine jss_cons ?_ ?_
      · refine js_if (jt_bool (jw_or (jt_cmp (os_lt hu) (je_ix (je_name (pv 1)) je_int) je_int) (jw_or1 (jt_cmp (os_gt hu) (je_bin os_mod (je_bty cs_int rfl E.h_int (by decide +kernel) (jr_cons (je_name (pv 3)) jr_nil)) (je_ix (je_name (pv 1)) je_int)) je_int)))) ?_ ?_
        · refine jss_one ?_
          exact (js_ret je_non)
        exact jss_nil
      refine jss_cons ?_ ?_
      · exact (js_set (i := 5) nd rfl (by first | exact .inl rfl | exact .inr rfl) (je_bin os_add (je_ix (je_name (pv 4)) je_int) (je_tup (ja_cons (je_tup (ja_cons (je_bin os_sub (je_ix (je_name (pv 1)) je_int) je_int) (ja_cons (je_tup (ja_cons je_str (ja_cons (je_ix (je_name (pv 4)) je_int) (ja_cons (je_call D.c__law_raise.cal hr tk rfl (ja_cons (je_ix (je_name (pv 4)) je_int) (ja_cons je_int (ja_cons je_int ja_nil)))) ja_nil)))) ja_nil))) ja_nil))))
      refine jss_one ?_
      exact (js_ret (je_bin os_add (je_bin os_add (je_slice (je_name (pv 0)) jo_none (jo_some (je_name (pv 6)))) (je_tup (ja_cons (je_tup (ja_cons (je_bin os_fdiv (je_name (pv 3)) (je_ix (je_name (pv 1)) je_int)) (ja_cons (je_tup (ja_cons je_str (ja_cons (je_ix (je_name (pv 4)) je_int) (ja_cons (je_name (pv 5)) ja_nil)))) ja_nil))) ja_nil))) (je_slice (je_name (pv 0)) (jo_some (je_bin os_add (je_name (pv 6)) je_int)) jo_none)))
    exact jss_nil
  refine jss_cons ?_ ?_
  · refine js_if (jt_cmp (os_eq hu) (je_blt cs_len rfl E.h_len boot_len (jr_cons (je_ix (je_name (pv 4)) je_int) jr_nil)) je_int) ?_ ?_
    · refine jss_one ?_
      exact (js_ret je_non)
    exact jss_nil
  refine jss_cons ?_ ?_
  · exact (js_set (i := 7) nd rfl (by first | exact .inl rfl | exact .inr rfl) (je_slice (je_ix (je_name (pv 4)) je_int) jo_none (jo_some (je_bin os_sub (je_blt cs_len rfl E.h_len boot_len (jr_cons (je_ix (je_name (pv 4)) je_int) jr_nil)) je_int))))
  refine jss_cons ?_ ?_
  · exact (js_asg (jg_tup rfl (jgs_cons (jg_name (pg_name (i := 8) nd rfl (by first | exact .inl rfl | exact .inr rfl))) (jgs_cons (jg_name (pg_name (i := 9) nd rfl (by first | exact .inl rfl | exact .inr rfl))) jgs_nil))) (je_ix (je_ix (je_name (pv 4)) je_int) (je_bin os_sub (je_blt cs_len rfl E.h_len boot_len (jr_cons (je_ix (je_name (pv 4)) je_int) jr_nil)) je_int)))
  refine jss_cons ?_ ?_
  · refine js_if (jt_cmp (os_ne hu) (je_name (pv 9)) (je_tup (ja_cons je_str (ja_cons (je_ix (je_name (pv 4)) je_int) (ja_cons (je_call D.c__law_raise.cal hr tk rfl (ja_cons (je_name (pv 7)) (ja_cons je_int (ja_cons je_int ja_nil)))) ja_nil))))) ?_ ?_
    · refine jss_one ?_
      exact (js_ret je_non)
    exact jss_nil
  refine jss_one ?_
  exact (js_ret (je_bin os_add (je_bin os_add (je_slice (je_name (pv 0)) jo_none (jo_some (je_name (pv 6)))) (je_tup (ja_cons (je_tup (ja_cons (je_bin os_mul (je_name (pv 3)) (je_bin os_add (je_name (pv 8)) je_int)) (ja_cons (je_tup (ja_cons je_str (ja_cons (je_ix (je_name (pv 4)) je_int) (ja_cons (je_name (pv 7)) ja_nil)))) ja_nil))) ja_nil))) (je_slice (je_name (pv 0)) (jo_some (je_bin os_add (je_name (pv 6)) je_int)) jo_none)))
theorem ok__law_step (E : Facts K w mg cts) (B : Makes base mg cts) (D : Defs P w K mg base cts n) : Dfn P w K mg base (T0 cts) (Den tbl (n + 1)) (n + 1) "_law_step" 89 := by
  obtain ⟨f, fd, hf, F⟩ := E.f__law_step
  exact ⟨f, fd, ["_law_plan_here", "_law_step_here"], hf, F.kp, F.bindsN fun _ _ _ _ _ _ us hl => (match us, hl with | [_, _], _ => rfl), fo__law_step E D F⟩
theorem sc__law_rich : FnScope ["_law_tape_here", "_law_labels", "_law_inner", "_law_many", "_law_body", "_law_plan_here"] ["_law_tape_here"] (defScope (top 47)) := ⟨rfl, rfl, rfl, by decide +kernel, rfl, by decide +kernel, by decide +kernel⟩
theorem fo__law_rich (E : Facts K w mg cts) (D : Defs P w K mg base cts n) {f : Addr} {fd : FuncData} (F : FnP K "_law_rich" (top 47) f fd) : FnOk P w K mg base (L2.CX P w) (n + 1) f fd ["_law_tape_here"] (spD ⟨K, mg, (T0 cts)⟩ ((Den tbl (n + 1)).call 98)) := by
  refine def_ok F sc__law_rich (bd := b__law_rich) rfl fun cdv A outer s H E0 hr => ?_
  have nd := (sc__law_rich).nd
  have hu : (A.deeper (envOfC "_law_rich" (defScope (top 47)) s.heap.objs.size f cdv)).units + (Den tbl n).room < cLine := by rw [den_room]; have := hr.un; omega
  have tk : Takes (cxOf (L2.CX P w) P w K mg base ["_law_tape_here", "_law_labels", "_law_inner", "_law_many", "_law_body", "_law_plan_here"] "_law_rich" (defScope (top 47)) f cdv A outer s H E0) (fun cls d _ H => E0 cls d H) := takes_of rfl rfl rfl rfl
  unfold b__law_rich
  refine jss_cons ?_ ?_
  · exact (js_set (i := 1) nd rfl (by first | exact .inl rfl | exact .inr rfl) (je_frz (je_lst (ja_cons je_str (ja_cons je_str (ja_cons je_int ja_nil))))))
  refine jss_cons ?_ ?_
  · exact (js_set (i := 2) nd rfl (by first | exact .inl rfl | exact .inr rfl) (je_call D.c__law_plan.cal hr tk rfl (ja_cons (je_name (pv 0)) (ja_cons (je_bin os_add je_int (je_call D.c__law_pick.cal hr tk rfl (ja_cons (je_name (pv 0)) (ja_cons je_int ja_nil)))) (ja_cons je_int (ja_cons je_str (ja_cons (je_name (pv 1)) ja_nil)))))))
  refine jss_cons ?_ ?_
  · exact (js_set (i := 3) nd rfl (by first | exact .inl rfl | exact .inr rfl) (je_ix (je_lst (ja_cons je_int (ja_cons je_int (ja_cons je_int (ja_cons je_int ja_nil))))) (je_call D.c__law_pick.cal hr tk rfl (ja_cons (je_name (pv 0)) (ja_cons je_int ja_nil)))))
  refine jss_cons ?_ ?_
  · exact (js_set (i := 4) nd rfl (by first | exact .inl rfl | exact .inr rfl) (je_bin os_add (je_call D.c__law_plan.cal hr tk rfl (ja_cons (je_name (pv 0)) (ja_cons (je_call D.c__law_pick.cal hr tk rfl (ja_cons (je_name (pv 0)) (ja_cons je_int ja_nil))) (ja_cons je_int (ja_cons je_str (ja_cons (je_name (pv 1)) ja_nil)))))) (je_tup (ja_cons (je_tup (ja_cons (je_name (pv 3)) (ja_cons (je_tup (ja_cons je_str (ja_cons je_str (ja_cons (je_name (pv 2)) ja_nil)))) ja_nil))) ja_nil))))
  refine jss_cons ?_ ?_
  · exact (js_set (i := 5) nd rfl (by first | exact .inl rfl | exact .inr rfl) (je_call D.c__law_plan.cal hr tk rfl (ja_cons (je_name (pv 0)) (ja_cons (je_call D.c__law_pick.cal hr tk rfl (ja_cons (je_name (pv 0)) (ja_cons je_int ja_nil))) (ja_cons je_int (ja_cons je_str (ja_cons (je_name (pv 1)) ja_nil)))))))
  refine jss_one ?_
  exact (js_ret (je_bin os_add (je_name (pv 5)) (je_tup (ja_cons (je_tup (ja_cons (je_bin os_add je_int (je_call D.c__law_pick.cal hr tk rfl (ja_cons (je_name (pv 0)) (ja_cons je_int ja_nil)))) (ja_cons (je_tup (ja_cons je_str (ja_cons (je_ix je_str (je_call D.c__law_pick.cal hr tk rfl (ja_cons (je_name (pv 0)) (ja_cons je_int ja_nil)))) (ja_cons (je_name (pv 4)) ja_nil)))) ja_nil))) ja_nil))))
theorem ok__law_rich (E : Facts K w mg cts) (B : Makes base mg cts) (D : Defs P w K mg base cts n) : Dfn P w K mg base (T0 cts) (Den tbl (n + 1)) (n + 1) "_law_rich" 98 := by
  obtain ⟨f, fd, hf, F⟩ := E.f__law_rich
  exact ⟨f, fd, ["_law_tape_here"], hf, F.kp, F.bindsN fun _ _ _ _ _ _ us hl => (match us, hl with | [_], _ => rfl), fo__law_rich E D F⟩
theorem sc__law_great : FnScope ["_law_tape_here", "_law_plan_here", "_law_found", "_law_count", "_law_part_here"] ["_law_tape_here", "_law_plan_here"] (defScope (top 48)) := ⟨rfl, rfl, rfl, by decide +kernel, rfl, by decide +kernel, by decide +kernel⟩
theorem fo__law_great (E : Facts K w mg cts) (D : Defs P w K mg base cts n) {f : Addr} {fd : FuncData} (F : FnP K "_law_great" (top 48) f fd) : FnOk P w K mg base (L2.CX P w) (n + 1) f fd ["_law_tape_here", "_law_plan_here"] (spD ⟨K, mg, (T0 cts)⟩ ((Den tbl (n + 1)).call 90)) := by
  refine def_ok F sc__law_great (bd := b__law_great_90) rfl fun cdv A outer s H E0 hr => ?_
  have nd := (sc__law_great).nd
  have hu : (A.deeper (envOfC "_law_great" (defScope (top 48)) s.heap.objs.size f cdv)).units + (Den tbl n).room < cLine := by rw [den_room]; have := hr.un; omega
  have tk : Takes (cxOf (L2.CX P w) P w K mg base ["_law_tape_here", "_law_plan_here", "_law_found", "_law_count", "_law_part_here"] "_law_great" (defScope (top 48)) f cdv A outer s H E0) (fun cls d _ H => E0 cls d H) := takes_of rfl rfl rfl rfl
  unfold b__law_great_90
  refine jss_cons ?_ ?_
  · exact (js_set (i := 2) nd rfl (by first | exact .inl rfl | exact .inr rfl) (je_lst ja_nil))
  refine jss_cons ?_ ?_
  · refine js_for (passes_of rfl) rfl (ji_seq (je_name (pv 1))) (jg_tup rfl (jgs_cons (jg_name (pg_name (i := 3) nd rfl (by first | exact .inl rfl | exact .inr rfl))) (jgs_cons (jg_name (pg_name (i := 4) nd rfl (by first | exact .inl rfl | exact .inr rfl))) jgs_nil))) ?_
    refine jss_cons ?_ ?_
    · refine js_if (jt_cmp (os_eq hu) (je_blt cs_len rfl E.h_len boot_len (jr_cons (je_name (pv 4)) jr_nil)) je_int) ?_ ?_
      · refine jss_one ?_
        exact (js_set (i := 4) nd rfl (by first | exact .inl rfl | exact .inr rfl) (je_tup (ja_cons (je_ix (je_name (pv 4)) je_int) (ja_cons (je_ix (je_name (pv 4)) je_int) (ja_cons (je_call D.c__law_great.cal hr tk rfl (ja_cons (je_name (pv 0)) (ja_cons (je_ix (je_name (pv 4)) je_int) ja_nil))) ja_nil)))))
      exact jss_nil
    refine jss_one ?_
    exact (js_append (pv 2) (je_tup (ja_cons (je_bin os_mul (je_name (pv 3)) (je_ix (je_lst (ja_cons je_int (ja_cons je_int (ja_cons je_int (ja_cons (je_bin os_add (je_bin os_pow je_int je_int) je_int) (ja_cons (je_bin os_pow je_int je_int) ja_nil)))))) (je_call D.c__law_pick.cal hr tk rfl (ja_cons (je_name (pv 0)) (ja_cons je_int ja_nil))))) (ja_cons (je_name (pv 4)) ja_nil))))
  refine jss_one ?_
  exact (js_ret (je_bty cs_tuple rfl E.h_tuple (by decide +kernel) (jr_cons (je_name (pv 2)) jr_nil)))
theorem ok__law_great (E : Facts K w mg cts) (B : Makes base mg cts) (D : Defs P w K mg base cts n) : Dfn P w K mg base (T0 cts) (Den tbl (n + 1)) (n + 1) "_law_great" 90 := by
  obtain ⟨f, fd, hf, F⟩ := E.f__law_great
  exact ⟨f, fd, ["_law_tape_here", "_law_plan_here"], hf, F.kp, F.bindsN fun _ _ _ _ _ _ us hl => (match us, hl with | [_, _], _ => rfl), fo__law_great E D F⟩
theorem sc__law_some_step : FnScope ["_law_tape_here", "_law_plan_here", "_law_place", "_law_here", "_law_turn", "_law_inner", "_law_k", "_law_at", "_law_steps", "_law_count", "_law_part_here", "_law_step_here"] ["_law_tape_here", "_law_plan_here"] (defScope (top 49)) := ⟨rfl, rfl, rfl, by decide +kernel, rfl, by decide +kernel, by decide +kernel⟩
theorem fo__law_some_step (E : Facts K w mg cts) (D : Defs P w K mg base cts n) {f : Addr} {fd : FuncData} (F : FnP K "_law_some_step" (top 49) f fd) : FnOk P w K mg base (L2.CX P w) (n + 1) f fd ["_law_tape_here", "_law_plan_here"] (spD ⟨K, mg, (T0 cts)⟩ ((Den tbl (n + 1)).call 91)) := by
  refine def_ok F sc__law_some_step (bd := b__law_some_step) rfl fun cdv A outer s H E0 hr => ?_
  have nd := (sc__law_some_step).nd
  have hu : (A.deeper (envOfC "_law_some_step" (defScope (top 49)) s.heap.objs.size f cdv)).units + (Den tbl n).room < cLine := by rw [den_room]; have := hr.un; omega
  have tk : Takes (cxOf (L2.CX P w) P w K mg base ["_law_tape_here", "_law_plan_here", "_law_place", "_law_here", "_law_turn", "_law_inner", "_law_k", "_law_at", "_law_steps", "_law_count", "_law_part_here", "_law_step_here"] "_law_some_step" (defScope (top 49)) f cdv A outer s H E0) (fun cls d _ H => E0 cls d H) := takes_of rfl rfl rfl rfl
  unfold b__law_some_step
  refine jss_cons ?_ ?_
  · exact (js_set (i := 2) nd rfl (by first | exact .inl rfl | exact .inr rfl) (je_tup ja_nil))
  refine jss_cons ?_ ?_
  · exact (js_set (i := 3) nd rfl (by first | exact .inl rfl | exact .inr rfl) (je_name (pv 1)))
  refine jss_cons ?_ ?_
  · refine js_for (passes_of rfl) rfl (ji_range1 rfl E.h_range (jr_cons je_int jr_nil)) (jg_name (pg_name (i := 4) nd rfl (by first | exact .inl rfl | exact .inr rfl))) ?_
    refine jss_cons ?_ ?_
    · exact (js_setC (i := 5) rfl nd rfl rfl (sw_true rfl rfl rfl rfl) (ji_range1 rfl E.h_range (jr_cons (je_blt cs_len rfl E.h_len boot_len (jr_cons (je_name (pv 3)) jr_nil)) jr_nil)) (blkOk_by (N := ["_law_tape_here", "_law_plan_here", "_law_place", "_law_here", "_law_turn", "_law_inner", "_law_k", "_law_at", "_law_steps", "_law_count", "_law_part_here", "_law_step_here"]) (sc := defScope (top 49)) (own := [("_law_k", 6)]) (by decide +kernel)) (us := [6]) rfl (by decide) (fun _ _ _ _ _ => (jg_name (pg_name (i := 6) nd rfl (by first | exact .inl rfl | exact .inr rfl)))) (fun _ _ _ _ _ => (jts_one (jt_cmp (os_eq hu) (je_blt cs_len rfl E.h_len boot_len (jr_cons (je_ix (je_ix (je_name (pv 3)) (je_name (pv 6))) je_int) jr_nil)) je_int))) (fun _ _ _ _ _ => (je_name (pv 6))))
    refine jss_cons ?_ ?_
    · refine js_if (jt_bool (jw_or (jt_cmp (os_eq hu) (je_blt cs_len rfl E.h_len boot_len (jr_cons (je_name (pv 5)) jr_nil)) je_int) (jw_or1 (jt_cmp (os_eq hu) (je_call D.c__law_pick.cal hr tk rfl (ja_cons (je_name (pv 0)) (ja_cons je_int ja_nil))) je_int)))) ?_ ?_
      · refine jss_one ?_
        exact js_break
      exact jss_nil
    refine jss_cons ?_ ?_
    · exact (js_set (i := 7) nd rfl (by first | exact .inl rfl | exact .inr rfl) (je_ix (je_name (pv 5)) (je_call D.c__law_pick.cal hr tk rfl (ja_cons (je_name (pv 0)) (ja_cons (je_blt cs_len rfl E.h_len boot_len (jr_cons (je_name (pv 5)) jr_nil)) ja_nil)))))
    refine jss_cons ?_ ?_
    · exact (js_set (i := 2) nd rfl (by first | exact .inl rfl | exact .inr rfl) (je_bin os_add (je_name (pv 2)) (je_tup (ja_cons (je_name (pv 7)) ja_nil))))
    refine jss_one ?_
    exact (js_set (i := 3) nd rfl (by first | exact .inl rfl | exact .inr rfl) (je_ix (je_ix (je_ix (je_name (pv 3)) (je_name (pv 7))) je_int) je_int))
  refine jss_cons ?_ ?_
  · exact (js_set (i := 8) nd rfl (by first | exact .inl rfl | exact .inr rfl) (je_frz (je_lst ja_nil)))
  refine jss_cons ?_ ?_
  · refine js_for (passes_of rfl) rfl (ji_range1 rfl E.h_range (jr_cons (je_blt cs_len rfl E.h_len boot_len (jr_cons (je_name (pv 3)) jr_nil)) jr_nil)) (jg_name (pg_name (i := 7) nd rfl (by first | exact .inl rfl | exact .inr rfl))) ?_
    refine jss_cons ?_ ?_
    · exact (js_asg (jg_tup rfl (jgs_cons (jg_name (pg_name (i := 9) nd rfl (by first | exact .inl rfl | exact .inr rfl))) (jgs_cons (jg_name (pg_name (i := 10) nd rfl (by first | exact .inl rfl | exact .inr rfl))) jgs_nil))) (je_ix (je_name (pv 3)) (je_name (pv 7))))
    refine jss_cons ?_ ?_
    · exact (js_set (i := 8) nd rfl (by first | exact .inl rfl | exact .inr rfl) (je_frz (je_bin os_add (je_name (pv 8)) (je_lst (ja_cons (je_tup (ja_cons je_str (ja_cons (je_tup ja_nil) (ja_cons (je_name (pv 7)) ja_nil)))) (ja_cons (je_tup (ja_cons je_str (ja_cons (je_tup ja_nil) (ja_cons (je_name (pv 7)) ja_nil)))) (ja_cons (je_tup (ja_cons je_str (ja_cons (je_tup ja_nil) (ja_cons (je_name (pv 7)) ja_nil)))) (ja_cons (je_tup (ja_cons je_str (ja_cons (je_tup ja_nil) (ja_cons (je_name (pv 7)) ja_nil)))) (ja_cons (je_tup (ja_cons je_str (ja_cons (je_tup ja_nil) (ja_cons (je_name (pv 7)) ja_nil)))) ja_nil)))))))))
    refine jss_cons ?_ ?_
    · exact (js_set (i := 8) nd rfl (by first | exact .inl rfl | exact .inr rfl) (je_frz (je_bin os_add (je_name (pv 8)) (je_lst (ja_cons (je_tup (ja_cons je_str (ja_cons (je_tup ja_nil) (ja_cons (je_name (pv 7)) (ja_cons (je_bin os_add je_int (je_call D.c__law_pick.cal hr tk rfl (ja_cons (je_name (pv 0)) (ja_cons (je_blt (cs_min2 rfl) rfl E.h_min (by decide +kernel) (jr_cons (je_name (pv 9)) (jr_cons je_int jr_nil))) ja_nil)))) ja_nil))))) ja_nil)))))
    refine jss_one ?_
    exact (js_set (i := 8) nd rfl (by first | exact .inl rfl | exact .inr rfl) (je_frz (je_bin os_add (je_name (pv 8)) (je_comp rfl nd (ji_seq (je_lst (ja_cons je_int (ja_cons je_int (ja_cons (je_name (pv 9)) ja_nil))))) (blkOk_by (N := ["_law_tape_here", "_law_plan_here", "_law_place", "_law_here", "_law_turn", "_law_inner", "_law_k", "_law_at", "_law_steps", "_law_count", "_law_part_here", "_law_step_here"]) (sc := defScope (top 49)) (own := [("_law_k", 6)]) (by decide +kernel)) (us := [6]) rfl (by decide) (fun _ _ _ _ _ => (jg_name (pg_name (i := 6) nd rfl (by first | exact .inl rfl | exact .inr rfl)))) (fun _ _ _ _ _ => (jts_one (jt_cmp (os_eq hu) (je_ix (je_name (pv 10)) je_int) je_str))) (fun _ _ _ _ _ => (je_tup (ja_cons je_str (ja_cons (je_tup ja_nil) (ja_cons (je_name (pv 7)) (ja_cons (je_name (pv 6)) ja_nil))))))))))
  refine jss_cons ?_ ?_
  · exact (js_setCF (i := 8) rfl nd rfl rfl (sw_true rfl rfl rfl rfl) (ji_seq (je_name (pv 8))) (blkOk_by (N := ["_law_tape_here", "_law_plan_here", "_law_place", "_law_here", "_law_turn", "_law_inner", "_law_k", "_law_at", "_law_steps", "_law_count", "_law_part_here", "_law_step_here"]) (sc := defScope (top 49)) (own := [("_law_step_here", 11)]) (by decide +kernel)) (us := [11]) rfl (by decide) (fun _ _ _ _ _ => (jg_name (pg_name (i := 11) nd rfl (by first | exact .inl rfl | exact .inr rfl)))) (fun _ _ _ _ _ => (jts_one (jt_cmp os_isnot (je_call D.c__law_step.cal hr takes0 rfl (ja_cons (je_name (pv 3)) (ja_cons (je_name (pv 11)) ja_nil))) je_non))) (fun _ _ _ _ _ => (je_name (pv 11))))
  refine jss_cons ?_ ?_
  · refine js_if (jt_cmp (os_eq hu) (je_blt cs_len rfl E.h_len boot_len (jr_cons (je_name (pv 8)) jr_nil)) je_int) ?_ ?_
    · refine jss_one ?_
      exact (js_ret je_non)
    exact jss_nil
  refine jss_cons ?_ ?_
  · exact (js_set (i := 11) nd rfl (by first | exact .inl rfl | exact .inr rfl) (je_ix (je_name (pv 8)) (je_call D.c__law_pick.cal hr tk rfl (ja_cons (je_name (pv 0)) (ja_cons (je_blt cs_len rfl E.h_len boot_len (jr_cons (je_name (pv 8)) jr_nil)) ja_nil)))))
  refine jss_one ?_
  exact (js_ret (je_bin os_add (je_tup (ja_cons (je_ix (je_name (pv 11)) je_int) (ja_cons (je_name (pv 2)) ja_nil))) (je_slice (je_name (pv 11)) (jo_some je_int) jo_none)))
theorem ok__law_some_step (E : Facts K w mg cts) (B : Makes base mg cts) (D : Defs P w K mg base cts n) : Dfn P w K mg base (T0 cts) (Den tbl (n + 1)) (n + 1) "_law_some_step" 91 := by
  obtain ⟨f, fd, hf, F⟩ := E.f__law_some_step
  exact ⟨f, fd, ["_law_tape_here", "_law_plan_here"], hf, F.kp, F.bindsN fun _ _ _ _ _ _ us hl => (match us, hl with | [_, _], _ => rfl), fo__law_some_step E D F⟩
theorem sc__law_walk : FnScope ["_law_tape_here", "_law_plan_here", "_law_many", "_law_done", "_law_plans", "_law_turn", "_law_step_here"] ["_law_tape_here", "_law_plan_here", "_law_many"] (defScope (top 50)) := ⟨rfl, rfl, rfl, by decide +kernel, rfl, by decide +kernel, by decide +kernel⟩
theorem fo__law_walk (E : Facts K w mg cts) (D : Defs P w K mg base cts n) {f : Addr} {fd : FuncData} (F : FnP K "_law_walk" (top 50) f fd) : FnOk P w K mg base (L2.CX P w) (n + 1) f fd ["_law_tape_here", "_law_plan_here", "_law_many"] (spD ⟨K, mg, (T0 cts)⟩ ((Den tbl (n + 1)).call 99)) := by
  refine def_ok F sc__law_walk (bd := b__law_walk) rfl fun cdv A outer s H E0 hr => ?_
  have nd := (sc__law_walk).nd
  have hu : (A.deeper (envOfC "_law_walk" (defScope (top 50)) s.heap.objs.size f cdv)).units + (Den tbl n).room < cLine := by rw [den_room]; have := hr.un; omega
  have tk : Takes (cxOf (L2.CX P w) P w K mg base ["_law_tape_here", "_law_plan_here", "_law_many", "_law_done", "_law_plans", "_law_turn", "_law_step_here"] "_law_walk" (defScope (top 50)) f cdv A outer s H E0) (fun cls d _ H => E0 cls d H) := takes_of rfl rfl rfl rfl
  unfold b__law_walk
  refine jss_cons ?_ ?_
  · exact (js_set (i := 3) nd rfl (by first | exact .inl rfl | exact .inr rfl) (je_lst ja_nil))
  refine jss_cons ?_ ?_
  · exact (js_set (i := 4) nd rfl (by first | exact .inl rfl | exact .inr rfl) (je_lst (ja_cons (je_name (pv 1)) ja_nil)))
  refine jss_cons ?_ ?_
  · refine js_for (passes_of rfl) rfl (ji_range1 rfl E.h_range (jr_cons (je_name (pv 2)) jr_nil)) (jg_name (pg_name (i := 5) nd rfl (by first | exact .inl rfl | exact .inr rfl))) ?_
    refine jss_cons ?_ ?_
    · exact (js_set (i := 6) nd rfl (by first | exact .inl rfl | exact .inr rfl) (je_call D.c__law_some_step.cal hr tk rfl (ja_cons (je_name (pv 0)) (ja_cons (je_name (pv 1)) ja_nil))))
    refine jss_one ?_
    refine js_if (jt_cmp os_isnot (je_name (pv 6)) je_non) ?_ ?_
    · refine jss_cons ?_ ?_
      · exact (js_set (i := 1) nd rfl (by first | exact .inl rfl | exact .inr rfl) (je_call D.c__law_step.cal hr tk rfl (ja_cons (je_name (pv 1)) (ja_cons (je_name (pv 6)) ja_nil))))
      refine jss_cons ?_ ?_
      · exact (js_append (pv 3) (je_name (pv 6)))
      refine jss_one ?_
      exact (js_append (pv 4) (je_name (pv 1)))
    exact jss_nil
  refine jss_one ?_
  exact (js_ret (je_tup (ja_cons (je_bty cs_tuple rfl E.h_tuple (by decide +kernel) (jr_cons (je_name (pv 3)) jr_nil)) (ja_cons (je_name (pv 4)) ja_nil))))
theorem ok__law_walk (E : Facts K w mg cts) (B : Makes base mg cts) (D : Defs P w K mg base cts n) : Dfn P w K mg base (T0 cts) (Den tbl (n + 1)) (n + 1) "_law_walk" 99 := by
  obtain ⟨f, fd, hf, F⟩ := E.f__law_walk
  exact ⟨f, fd, ["_law_tape_here", "_law_plan_here", "_law_many"], hf, F.kp, F.bindsN fun _ _ _ _ _ _ us hl => (match us, hl with | [_, _, _], _ => rfl), fo__law_walk E D F⟩
theorem sc__law_undoing : FnScope ["_law_plan_here", "_law_step_here", "_law_here", "_law_at", "_law_body"] ["_law_plan_here", "_law_step_here"] (defScope (top 51)) := ⟨rfl, rfl, rfl, by decide +kernel, rfl, by decide +kernel, by decide +kernel⟩
theorem fo__law_undoing (E : Facts K w mg cts) (D : Defs P w K mg base cts n) {f : Addr} {fd : FuncData} (F : FnP K "_law_undoing" (top 51) f fd) : FnOk P w K mg base (L2.CX P w) (n + 1) f fd ["_law_plan_here", "_law_step_here"] (spD ⟨K, mg, (T0 cts)⟩ ((Den tbl (n + 1)).call 97)) := by
  refine def_ok F sc__law_undoing (bd := b__law_undoing) rfl fun cdv A outer s H E0 hr => ?_
  have nd := (sc__law_undoing).nd
  have hu : (A.deeper (envOfC "_law_undoing" (defScope (top 51)) s.heap.objs.size f cdv)).units + (Den tbl n).room < cLine := by rw [den_room]; have := hr.un; omega
  have tk : Takes (cxOf (L2.CX P w) P w K mg base ["_law_plan_here", "_law_step_here", "_law_here", "_law_at", "_law_body"] "_law_undoing" (defScope (top 51)) f cdv A outer s H E0) (fun cls d _ H => E0 cls d H) := takes_of rfl rfl rfl rfl
  unfold b__law_undoing
  refine jss_cons ?_ ?_
  · exact (js_set (i := 2) nd rfl (by first | exact .inl rfl | exact .inr rfl) (je_name (pv 0)))
  refine jss_cons ?_ ?_
  · refine js_for (passes_of rfl) rfl (ji_seq (je_ix (je_name (pv 1)) je_int)) (jg_name (pg_name (i := 3) nd rfl (by first | exact .inl rfl | exact .inr rfl))) ?_
    refine jss_one ?_
    exact (js_set (i := 2) nd rfl (by first | exact .inl rfl | exact .inr rfl) (je_ix (je_ix (je_ix (je_name (pv 2)) (je_name (pv 3))) je_int) je_int))
  refine jss_cons ?_ ?_
  · exact (js_set (i := 3) nd rfl (by first | exact .inl rfl | exact .inr rfl) (je_ix (je_name (pv 1)) je_int))
  refine jss_cons ?_ ?_
  · refine js_if (jt_cmp (os_eq hu) (je_ix (je_name (pv 1)) je_int) je_str) ?_ ?_
    · refine jss_one ?_
      exact (js_ret (je_name (pv 1)))
    exact jss_nil
  refine jss_cons ?_ ?_
  · refine js_if (jt_cmp (os_eq hu) (je_ix (je_name (pv 1)) je_int) je_str) ?_ ?_
    · refine jss_one ?_
      exact (js_ret (je_tup (ja_cons je_str (ja_cons (je_ix (je_name (pv 1)) je_int) (ja_cons (je_name (pv 3)) (ja_cons (je_ix (je_ix (je_name (pv 2)) (je_name (pv 3))) je_int) ja_nil))))))
    exact jss_nil
  refine jss_cons ?_ ?_
  · refine js_if (jt_cmp (os_eq hu) (je_ix (je_name (pv 1)) je_int) je_str) ?_ ?_
    · refine jss_one ?_
      exact (js_ret (je_tup (ja_cons je_str (ja_cons (je_ix (je_name (pv 1)) je_int) (ja_cons (je_name (pv 3)) ja_nil)))))
    exact jss_nil
  refine jss_cons ?_ ?_
  · refine js_if (jt_cmp (os_eq hu) (je_ix (je_name (pv 1)) je_int) je_str) ?_ ?_
    · refine jss_one ?_
      exact (js_ret (je_tup (ja_cons je_str (ja_cons (je_ix (je_name (pv 1)) je_int) (ja_cons (je_name (pv 3)) ja_nil)))))
    exact jss_nil
  refine jss_cons ?_ ?_
  · exact (js_set (i := 4) nd rfl (by first | exact .inl rfl | exact .inr rfl) (je_ix (je_ix (je_ix (je_name (pv 2)) (je_name (pv 3))) je_int) je_int))
  refine jss_one ?_
  exact (js_ret (je_tup (ja_cons je_str (ja_cons (je_ix (je_name (pv 1)) je_int) (ja_cons (je_name (pv 3)) (ja_cons (je_bin os_add je_int (je_ix (je_ix (je_name (pv 4)) (je_bin os_sub (je_blt cs_len rfl E.h_len boot_len (jr_cons (je_name (pv 4)) jr_nil)) je_int)) je_int)) ja_nil))))))
theorem ok__law_undoing (E : Facts K w mg cts) (B : Makes base mg cts) (D : Defs P w K mg base cts n) : Dfn P w K mg base (T0 cts) (Den tbl (n + 1)) (n + 1) "_law_undoing" 97 := by
  obtain ⟨f, fd, hf, F⟩ := E.f__law_undoing
  exact ⟨f, fd, ["_law_plan_here", "_law_step_here"], hf, F.kp, F.bindsN fun _ _ _ _ _ _ us hl => (match us, hl with | [_, _], _ => rfl), fo__law_undoing E D F⟩
theorem sc__law_is_int : FnScope ["_law_thing"] ["_law_thing"] (defScope (top 52)) := ⟨rfl, rfl, rfl, by decide +kernel, rfl, by decide +kernel, by decide +kernel⟩
theorem fo__law_is_int (E : Facts K w mg cts) (D : Defs P w K mg base cts n) {f : Addr} {fd : FuncData} (F : FnP K "_law_is_int" (top 52) f fd) : FnOk P w K mg base (L2.CX P w) (n + 1) f fd ["_law_thing"] (spD ⟨K, mg, (T0 cts)⟩ ((Den tbl (n + 1)).call 92)) := by
  refine def_ok F sc__law_is_int (bd := b__law_is_int) rfl fun cdv A outer s H E0 hr => ?_
  have nd := (sc__law_is_int).nd
  have hu : (A.deeper (envOfC "_law_is_int" (defScope (top 52)) s.heap.objs.size f cdv)).units + (Den tbl n).room < cLine := by rw [den_room]; have := hr.un; omega
  have tk : Takes (cxOf (L2.CX P w) P w K mg base ["_law_thing"] "_law_is_int" (defScope (top 52)) f cdv A outer s H E0) (fun cls d _ H => E0 cls d H) := takes_of rfl rfl rfl rfl
  unfold b__law_is_int
  refine jss_one ?_
  exact (js_ret (je_and (je_isi rfl E.h_isinstance rfl E.h_int (by decide +kernel) (je_name (pv 0))) (je_one (je_not (je_isi rfl E.h_isinstance rfl E.h_bool (by decide +kernel) (je_name (pv 0)))))))
theorem ok__law_is_int (E : Facts K w mg cts) (B : Makes base mg cts) (D : Defs P w K mg base cts n) : Dfn P w K mg base (T0 cts) (Den tbl (n + 1)) (n + 1) "_law_is_int" 92 := by
  obtain ⟨f, fd, hf, F⟩ := E.f__law_is_int
  exact ⟨f, fd, ["_law_thing"], hf, F.kp, F.bindsN fun _ _ _ _ _ _ us hl => (match us, hl with | [_], _ => rfl), fo__law_is_int E D F⟩
theorem sc__law_is_word : FnScope ["_law_thing", "_law_most", "_law_sign"] ["_law_thing", "_law_most"] (defScope (top 53)) := ⟨rfl, rfl, rfl, by decide +kernel, rfl, by decide +kernel, by decide +kernel⟩
theorem fo__law_is_word (E : Facts K w mg cts) (D : Defs P w K mg base cts n) {f : Addr} {fd : FuncData} (F : FnP K "_law_is_word" (top 53) f fd) : FnOk P w K mg base (L2.CX P w) (n + 1) f fd ["_law_thing", "_law_most"] (spD ⟨K, mg, (T0 cts)⟩ ((Den tbl (n + 1)).call 93)) := by
  refine def_ok F sc__law_is_word (bd := b__law_is_word) rfl fun cdv A outer s H E0 hr => ?_
  have nd := (sc__law_is_word).nd
  have hu : (A.deeper (envOfC "_law_is_word" (defScope (top 53)) s.heap.objs.size f cdv)).units + (Den tbl n).room < cLine := by rw [den_room]; have := hr.un; omega
  have tk : Takes (cxOf (L2.CX P w) P w K mg base ["_law_thing", "_law_most", "_law_sign"] "_law_is_word" (defScope (top 53)) f cdv A outer s H E0) (fun cls d _ H => E0 cls d H) := takes_of rfl rfl rfl rfl
  unfold b__law_is_word
  refine jss_cons ?_ ?_
  · refine js_if (jt_bool (jw_or (jt_not (jt_truth (je_isi rfl E.h_isinstance rfl E.h_str (by decide +kernel) (je_name (pv 0))))) (jw_or (jt_cmp (os_lt hu) (je_blt cs_len rfl E.h_len boot_len (jr_cons (je_name (pv 0)) jr_nil)) je_int) (jw_or1 (jt_cmp (os_gt hu) (je_blt cs_len rfl E.h_len boot_len (jr_cons (je_name (pv 0)) jr_nil)) (je_name (pv 1))))))) ?_ ?_
    · refine jss_one ?_
      exact (js_ret je_bl)
    exact jss_nil
  refine jss_one ?_
  exact (js_ret (je_cmp (os_eq hu) (je_blt cs_len rfl E.h_len boot_len (jr_cons (je_comp rfl nd (ji_txt (je_name (pv 0))) (blkOk_by (N := ["_law_thing", "_law_most", "_law_sign"]) (sc := defScope (top 53)) (own := [("_law_sign", 2)]) (by decide +kernel)) (us := [2]) rfl (by decide) (fun _ _ _ _ _ => (jg_name (pg_name (i := 2) nd rfl (by first | exact .inl rfl | exact .inr rfl)))) (fun _ _ _ _ _ => (jts_one (jt_bool (jw_or (jt_cmp (os_lt hu) (je_name (pv 2)) je_str) (jw_or1 (jt_cmp (os_gt hu) (je_name (pv 2)) je_str)))))) (fun _ _ _ _ _ => (je_name (pv 2)))) jr_nil)) je_int))
theorem ok__law_is_word (E : Facts K w mg cts) (B : Makes base mg cts) (D : Defs P w K mg base cts n) : Dfn P w K mg base (T0 cts) (Den tbl (n + 1)) (n + 1) "_law_is_word" 93 := by
  obtain ⟨f, fd, hf, F⟩ := E.f__law_is_word
  exact ⟨f, fd, ["_law_thing", "_law_most"], hf, F.kp, F.bindsN fun _ _ _ _ _ _ us hl => (match us, hl with | [_, _], _ => rfl), fo__law_is_word E D F⟩
theorem sc__law_is_part : FnScope ["_law_thing", "_law_depth"] ["_law_thing", "_law_depth"] (defScope (top 54)) := ⟨rfl, rfl, rfl, by decide +kernel, rfl, by decide +kernel, by decide +kernel⟩
theorem fo__law_is_part (E : Facts K w mg cts) (D : Defs P w K mg base cts n) {f : Addr} {fd : FuncData} (F : FnP K "_law_is_part" (top 54) f fd) : FnOk P w K mg base (L2.CX P w) (n + 1) f fd ["_law_thing", "_law_depth"] (spD ⟨K, mg, (T0 cts)⟩ ((Den tbl (n + 1)).call 95)) := by
  refine def_ok F sc__law_is_part (bd := b__law_is_part) rfl fun cdv A outer s H E0 hr => ?_
  have nd := (sc__law_is_part).nd
  have hu : (A.deeper (envOfC "_law_is_part" (defScope (top 54)) s.heap.objs.size f cdv)).units + (Den tbl n).room < cLine := by rw [den_room]; have := hr.un; omega
  have tk : Takes (cxOf (L2.CX P w) P w K mg base ["_law_thing", "_law_depth"] "_law_is_part" (defScope (top 54)) f cdv A outer s H E0) (fun cls d _ H => E0 cls d H) := takes_of rfl rfl rfl rfl
  unfold b__law_is_part
  refine jss_cons ?_ ?_
  · refine js_if (jt_bool (jw_or (jt_not (jt_truth (je_isi rfl E.h_isinstance rfl E.h_tuple (by decide +kernel) (je_name (pv 0))))) (jw_or (jt_cmp (os_lt hu) (je_blt cs_len rfl E.h_len boot_len (jr_cons (je_name (pv 0)) jr_nil)) je_int) (jw_or (jt_cmp (os_gt hu) (je_blt cs_len rfl E.h_len boot_len (jr_cons (je_name (pv 0)) jr_nil)) je_int) (jw_or1 (jt_not (jt_truth (je_isi rfl E.h_isinstance rfl E.h_str (by decide +kernel) (je_ix (je_name (pv 0)) je_int))))))))) ?_ ?_
    · refine jss_one ?_
      exact (js_ret je_bl)
    exact jss_nil
  refine jss_cons ?_ ?_
  · refine js_if (jt_cmp (os_eq hu) (je_blt cs_len rfl E.h_len boot_len (jr_cons (je_name (pv 0)) jr_nil)) je_int) ?_ ?_
    · refine jss_cons ?_ ?_
      · refine js_if (jt_bool (jw_or (jt_cmp (os_notin hu) (je_ix (je_name (pv 0)) je_int) (je_lst (ja_cons je_str (ja_cons je_str ja_nil)))) (jw_or1 (jt_not (jt_truth (je_call D.c__law_is_word.cal hr tk rfl (ja_cons (je_ix (je_name (pv 0)) je_int) (ja_cons je_int ja_nil)))))))) ?_ ?_
        · refine jss_one ?_
          exact (js_ret je_bl)
        exact jss_nil
      refine jss_one ?_
      exact (js_ret (je_call D.c__law_is_plan.cal hr tk rfl (ja_cons (je_ix (je_name (pv 0)) je_int) (ja_cons (je_bin os_add (je_name (pv 1)) (je_bty cs_int rfl E.h_int (by decide +kernel) (jr_cons (je_cmp (os_eq hu) (je_ix (je_name (pv 0)) je_int) je_str) jr_nil))) ja_nil))))
    exact jss_nil
  refine jss_cons ?_ ?_
  · refine js_if (jt_cmp (os_eq hu) (je_ix (je_name (pv 0)) je_int) je_str) ?_ ?_
    · refine jss_one ?_
      exact (js_ret (je_call D.c__law_is_word.cal hr tk rfl (ja_cons (je_ix (je_name (pv 0)) je_int) (ja_cons je_int ja_nil))))
    exact jss_nil
  refine jss_cons ?_ ?_
  · refine js_if (jt_bool (jw_or (jt_not (jt_truth (je_call D.c__law_is_int.cal hr tk rfl (ja_cons (je_ix (je_name (pv 0)) je_int) ja_nil)))) (jw_or1 (jt_cmp (os_lt hu) (je_ix (je_name (pv 0)) je_int) je_int)))) ?_ ?_
    · refine jss_one ?_
      exact (js_ret je_bl)
    exact jss_nil
  refine jss_one ?_
  exact (js_ret (je_or (je_cmp (os_eq hu) (je_ix (je_name (pv 0)) je_int) je_str) (je_one (je_and (je_cmp (os_eq hu) (je_ix (je_name (pv 0)) je_int) je_str) (je_one (je_cmp (os_lt hu) (je_ix (je_name (pv 0)) je_int) (je_name (pv 1))))))))
theorem ok__law_is_part (E : Facts K w mg cts) (B : Makes base mg cts) (D : Defs P w K mg base cts n) : Dfn P w K mg base (T0 cts) (Den tbl (n + 1)) (n + 1) "_law_is_part" 95 := by
  obtain ⟨f, fd, hf, F⟩ := E.f__law_is_part
  exact ⟨f, fd, ["_law_thing", "_law_depth"], hf, F.kp, F.bindsN fun _ _ _ _ _ _ us hl => (match us, hl with | [_, _], _ => rfl), fo__law_is_part E D F⟩
theorem sc__law_is_plan : FnScope ["_law_thing", "_law_depth", "_law_item"] ["_law_thing", "_law_depth"] (defScope (top 55)) := ⟨rfl, rfl, rfl, by decide +kernel, rfl, by decide +kernel, by decide +kernel⟩
theorem fo__law_is_plan (E : Facts K w mg cts) (D : Defs P w K mg base cts n) {f : Addr} {fd : FuncData} (F : FnP K "_law_is_plan" (top 55) f fd) : FnOk P w K mg base (L2.CX P w) (n + 1) f fd ["_law_thing", "_law_depth"] (spD ⟨K, mg, (T0 cts)⟩ ((Den tbl (n + 1)).call 94)) := by
  refine def_ok F sc__law_is_plan (bd := b__law_is_plan) rfl fun cdv A outer s H E0 hr => ?_
  have nd := (sc__law_is_plan).nd
  have hu : (A.deeper (envOfC "_law_is_plan" (defScope (top 55)) s.heap.objs.size f cdv)).units + (Den tbl n).room < cLine := by rw [den_room]; have := hr.un; omega
  have tk : Takes (cxOf (L2.CX P w) P w K mg base ["_law_thing", "_law_depth", "_law_item"] "_law_is_plan" (defScope (top 55)) f cdv A outer s H E0) (fun cls d _ H => E0 cls d H) := takes_of rfl rfl rfl rfl
  unfold b__law_is_plan
  refine jss_cons ?_ ?_
  · refine js_if (jt_not (jt_truth (je_isi rfl E.h_isinstance rfl E.h_tuple (by decide +kernel) (je_name (pv 0))))) ?_ ?_
    · refine jss_one ?_
      exact (js_ret je_bl)
    exact jss_nil
  refine jss_cons ?_ ?_
  · refine js_for (passes_of rfl) rfl (ji_seq (je_name (pv 0))) (jg_name (pg_name (i := 2) nd rfl (by first | exact .inl rfl | exact .inr rfl))) ?_
    refine jss_cons ?_ ?_
    · refine js_if (jt_bool (jw_or (jt_not (jt_truth (je_isi rfl E.h_isinstance rfl E.h_tuple (by decide +kernel) (je_name (pv 2))))) (jw_or (jt_cmp (os_ne hu) (je_blt cs_len rfl E.h_len boot_len (jr_cons (je_name (pv 2)) jr_nil)) je_int) (jw_or (jt_not (jt_truth (je_call D.c__law_is_int.cal hr tk rfl (ja_cons (je_ix (je_name (pv 2)) je_int) ja_nil)))) (jw_or1 (jt_cmp (os_lt hu) (je_ix (je_name (pv 2)) je_int) je_int)))))) ?_ ?_
      · refine jss_one ?_
        exact (js_ret je_bl)
      exact jss_nil
    refine jss_one ?_
    refine js_if (jt_not (jt_truth (je_call D.c__law_is_part.cal hr tk rfl (ja_cons (je_ix (je_name (pv 2)) je_int) (ja_cons (je_name (pv 1)) ja_nil))))) ?_ ?_
    · refine jss_one ?_
      exact (js_ret je_bl)
    exact jss_nil
  refine jss_one ?_
  exact (js_ret je_bl)
theorem ok__law_is_plan (E : Facts K w mg cts) (B : Makes base mg cts) (D : Defs P w K mg base cts n) : Dfn P w K mg base (T0 cts) (Den tbl (n + 1)) (n + 1) "_law_is_plan" 94 := by
  obtain ⟨f, fd, hf, F⟩ := E.f__law_is_plan
  exact ⟨f, fd, ["_law_thing", "_law_depth"], hf, F.kp, F.bindsN fun _ _ _ _ _ _ us hl => (match us, hl with | [_, _], _ => rfl), fo__law_is_plan E D F⟩
theorem sc_law : FnScope ["_law_script", "_law_tape_here", "_law_great_here", "_law_plan_here", "_law_total", "_law_turn", "_law_step_here", "_law_due", "_law_told"] ["_law_script"] (defScope (top 56)) := ⟨rfl, rfl, rfl, by decide +kernel, rfl, by decide +kernel, by decide +kernel⟩
theorem fo_law (E : Facts K w mg cts) (D : Defs P w K mg base cts n) {f : Addr} {fd : FuncData} (F : FnP K "law" (top 56) f fd) : FnOk P w K mg base (L2.CX P w) (n + 1) f fd ["_law_script"] (spD ⟨K, mg, (T0 cts)⟩ ((Den tbl (n + 1)).call 100)) := by
  refine def_ok F sc_law (bd := b_law_100) rfl fun cdv A outer s H E0 hr => ?_
  have nd := (sc_law).nd
  have hu : (A.deeper (envOfC "law" (defScope (top 56)) s.heap.objs.size f cdv)).units + (Den tbl n).room < cLine := by rw [den_room]; have := hr.un; omega
  have tk : Takes (cxOf (L2.CX P w) P w K mg base ["_law_script", "_law_tape_here", "_law_great_here", "_law_plan_here", "_law_total", "_law_turn", "_law_step_here", "_law_due", "_law_told"] "law" (defScope (top 56)) f cdv A outer s H E0) (fun cls d _ H => E0 cls d H) := takes_of rfl rfl rfl rfl
  unfold b_law_100
  refine jss_cons ?_ ?_
  · exact (js_setW (i := 1) nd rfl (by first | exact .inl rfl | exact .inr rfl) (je_call D.c__law_tape.cal hr tk rfl (ja_cons (je_name (pv 0)) ja_nil)))
  refine jss_cons ?_ ?_
  · exact (js_set (i := 2) nd rfl (by first | exact .inl rfl | exact .inr rfl) (je_cmp (os_eq hu) (je_call D.c__law_pick.cal hr tk rfl (ja_cons (je_name (pv 1)) (ja_cons je_int ja_nil))) je_int))
  refine jss_cons ?_ ?_
  · exact (js_set (i := 3) nd rfl (by first | exact .inl rfl | exact .inr rfl) (je_call D.c__law_rich.cal hr tk rfl (ja_cons (je_name (pv 1)) ja_nil)))
  refine jss_cons ?_ ?_
  · refine js_if (jt_truth (je_name (pv 2))) ?_ ?_
    · refine jss_one ?_
      exact (js_set (i := 3) nd rfl (by first | exact .inl rfl | exact .inr rfl) (je_call D.c__law_great.cal hr tk rfl (ja_cons (je_name (pv 1)) (ja_cons (je_name (pv 3)) ja_nil))))
    exact jss_nil
  refine jss_cons ?_ ?_
  · exact (js_set (i := 4) nd rfl (by first | exact .inl rfl | exact .inr rfl) (je_call D.c_size.cal hr tk rfl (ja_cons (je_name (pv 3)) ja_nil)))
  refine jss_cons ?_ ?_
  · refine js_for (passes_of rfl) rfl (ji_range1 rfl E.h_range (jr_cons (je_bin os_sub je_int (je_bin os_mul je_int (je_bty cs_int rfl E.h_int (by decide +kernel) (jr_cons (je_name (pv 2)) jr_nil)))) jr_nil)) (jg_name (pg_name (i := 5) nd rfl (by first | exact .inl rfl | exact .inr rfl))) ?_
    refine jss_cons ?_ ?_
    · exact (js_set (i := 6) nd rfl (by first | exact .inl rfl | exact .inr rfl) (je_call D.c__law_some_step.cal hr tk rfl (ja_cons (je_name (pv 1)) (ja_cons (je_name (pv 3)) ja_nil))))
    refine jss_one ?_
    refine js_if (jt_cmp os_isnot (je_name (pv 6)) je_non) ?_ ?_
    · refine jss_cons ?_ ?_
      · exact (js_set (i := 7) nd rfl (by first | exact .inl rfl | exact .inr rfl) (je_call D.c__law_step.cal hr tk rfl (ja_cons (je_name (pv 3)) (ja_cons (je_name (pv 6)) ja_nil))))
      refine jss_cons ?_ ?_
      · exact (js_set (i := 8) nd rfl (by first | exact .inl rfl | exact .inr rfl) (je_call D.c_stepped.cal hr tk rfl (ja_cons (je_name (pv 3)) (ja_cons (je_name (pv 6)) ja_nil))))
      refine jss_cons ?_ ?_
      · refine js_if (jt_bool (jw_or (jt_not (jt_truth (je_call D.c__law_is_plan.cal hr tk rfl (ja_cons (je_name (pv 8)) (ja_cons je_int ja_nil))))) (jw_or (jt_cmp (os_ne hu) (je_name (pv 8)) (je_name (pv 7))) (jw_or1 (jt_cmp (os_ne hu) (je_call D.c_size.cal hr tk rfl (ja_cons (je_name (pv 8)) ja_nil)) (je_name (pv 4))))))) ?_ ?_
        · refine jss_one ?_
          exact (js_ret je_bl)
        exact jss_nil
      refine jss_cons ?_ ?_
      · refine js_if (jt_bool (jw_or (jt_cmp (os_ne hu) (je_call D.c_stepped.cal hr tk rfl (ja_cons (je_name (pv 8)) (ja_cons (je_call D.c__law_undoing.cal hr tk rfl (ja_cons (je_name (pv 3)) (ja_cons (je_name (pv 6)) ja_nil))) ja_nil))) (je_name (pv 3))) (jw_or1 (jt_cmp (os_ne hu) (je_call D.c_stepped.cal hr tk rfl (ja_cons (je_name (pv 3)) (ja_cons (je_name (pv 6)) ja_nil))) (je_name (pv 7)))))) ?_ ?_
        · refine jss_one ?_
          exact (js_ret je_bl)
        exact jss_nil
      refine jss_one ?_
      exact (js_set (i := 3) nd rfl (by first | exact .inl rfl | exact .inr rfl) (je_name (pv 7)))
    exact jss_nil
  refine jss_one ?_
  exact (js_ret je_bl)
theorem ok_law (E : Facts K w mg cts) (B : Makes base mg cts) (D : Defs P w K mg base cts n) : Dfn P w K mg base (T0 cts) (Den tbl (n + 1)) (n + 1) "law" 100 := by
  obtain ⟨f, fd, hf, F⟩ := E.f_law
  exact ⟨f, fd, ["_law_script"], hf, F.kp, F.bindsN fun _ _ _ _ _ _ us hl => (match us, hl with | [_], _ => rfl), fo_law E D F⟩
theorem lvl (E : Facts K w mg cts) (B : Makes base mg cts) : ∀ n, Defs P w K mg base cts n
  | 0 => ⟨(by obtain ⟨f, fd, hf, F⟩ := E.f_is_integer; exact ⟨f, fd, ["thing"], hf, F.kp, F.bindsN fun _ _ _ _ _ _ us hl => (match us, hl with | [_], _ => rfl), def_zero⟩),
    (by obtain ⟨f, fd, hf, F⟩ := E.f_is_within; exact ⟨f, fd, ["thing", "least", "most"], hf, F.kp, F.bindsN fun _ _ _ _ _ _ us hl => (match us, hl with | [_, _, _], _ => rfl), def_zero⟩),
    (by obtain ⟨f, fd, hf, F⟩ := E.f_is_pair; exact ⟨f, fd, ["thing"], hf, F.kp, F.bindsN fun _ _ _ _ _ _ us hl => (match us, hl with | [_], _ => rfl), def_zero⟩),
    (by obtain ⟨f, fd, hf, F⟩ := E.f_is_triple; exact ⟨f, fd, ["thing"], hf, F.kp, F.bindsN fun _ _ _ _ _ _ us hl => (match us, hl with | [_], _ => rfl), def_zero⟩),
    (by obtain ⟨f, fd, hf, F⟩ := E.f_is_word; exact ⟨f, fd, ["thing"], hf, F.kp, F.bindsN fun _ _ _ _ _ _ us hl => (match us, hl with | [_], _ => rfl), def_zero⟩),
    (by obtain ⟨f, fd, hf, F⟩ := E.f_is_door; exact ⟨f, fd, ["thing"], hf, F.kp, F.bindsN fun _ _ _ _ _ _ us hl => (match us, hl with | [_], _ => rfl), def_zero⟩),
    (by obtain ⟨f, fd, hf, F⟩ := E.f_is_part; exact ⟨f, fd, ["thing", "depth"], hf, F.kp, F.bindsN fun _ _ _ _ _ _ us hl => (match us, hl with | [_, _], _ => rfl), def_zero⟩),
    (by obtain ⟨f, fd, hf, F⟩ := E.f_is_plan_in; exact ⟨f, fd, ["thing", "depth"], hf, F.kp, F.bindsN fun _ _ _ _ _ _ us hl => (match us, hl with | [_, _], _ => rfl), def_zero⟩),
    (by obtain ⟨f, fd, hf, F⟩ := E.f_check_plan; exact ⟨f, fd, ["thing"], hf, F.kp, F.bindsN fun _ _ _ _ _ _ us hl => (match us, hl with | [_], _ => rfl), def_zero⟩),
    (by obtain ⟨f, fd, hf, F⟩ := E.f_part_size; exact ⟨f, fd, ["part"], hf, F.kp, F.bindsN fun _ _ _ _ _ _ us hl => (match us, hl with | [_], _ => rfl), def_zero⟩),
    (by obtain ⟨f, fd, hf, F⟩ := E.f_size_of; exact ⟨f, fd, ["plan"], hf, F.kp, F.bindsN fun _ _ _ _ _ _ us hl => (match us, hl with | [_], _ => rfl), def_zero⟩),
    (by obtain ⟨f, fd, hf, F⟩ := E.f_size; exact ⟨f, fd, ["plan"], hf, F.kp, F.bindsN fun _ _ _ _ _ _ us hl => (match us, hl with | [_], _ => rfl), def_zero⟩),
    (by obtain ⟨f, fd, hf, F⟩ := E.f_parts_within; exact ⟨f, fd, ["plan"], hf, F.kp, F.bindsN fun _ _ _ _ _ _ us hl => (match us, hl with | [_], _ => rfl), def_zero⟩),
    (by obtain ⟨f, fd, hf, F⟩ := E.f_items_in; exact ⟨f, fd, ["plan"], hf, F.kp, F.bindsN fun _ _ _ _ _ _ us hl => (match us, hl with | [_], _ => rfl), def_zero⟩),
    (by obtain ⟨f, fd, hf, F⟩ := E.f_nesting; exact ⟨f, fd, ["plan"], hf, F.kp, F.bindsN fun _ _ _ _ _ _ us hl => (match us, hl with | [_], _ => rfl), def_zero⟩),
    (by obtain ⟨f, fd, hf, F⟩ := E.f_mapped; exact ⟨f, fd, ["plan", "depth", "action"], hf, F.kp, F.bindsN fun _ _ _ _ _ _ us hl => (match us, hl with | [_, _, _], _ => rfl), def_zero⟩),
    (by obtain ⟨f, fd, c, Pt, hf, F, hcd, hm⟩ := E.f_raised; exact ⟨f, fd, ["plan", "by", "least"], hf, F.kp, F.bindsN fun _ _ _ _ _ _ us hl => (match us, hl with | [_, _, _], _ => rfl), def_zero⟩),
    (by obtain ⟨f, fd, hf, F⟩ := E.f_has_step_form; exact ⟨f, fd, ["thing"], hf, F.kp, F.bindsN fun _ _ _ _ _ _ us hl => (match us, hl with | [_], _ => rfl), def_zero⟩),
    (by obtain ⟨f, fd, hf, F⟩ := E.f_joined_pair; exact ⟨f, fd, ["one", "other"], hf, F.kp, F.bindsN fun _ _ _ _ _ _ us hl => (match us, hl with | [_, _], _ => rfl), def_zero⟩),
    (by obtain ⟨f, fd, hf, F⟩ := E.f_split_item; exact ⟨f, fd, ["item", "many"], hf, F.kp, F.bindsN fun _ _ _ _ _ _ us hl => (match us, hl with | [_, _], _ => rfl), def_zero⟩),
    (by obtain ⟨f, fd, hf, F⟩ := E.f_folded_item; exact ⟨f, fd, ["item"], hf, F.kp, F.bindsN fun _ _ _ _ _ _ us hl => (match us, hl with | [_], _ => rfl), def_zero⟩),
    (by obtain ⟨f, fd, hf, F⟩ := E.f_unfolded_item; exact ⟨f, fd, ["item", "k"], hf, F.kp, F.bindsN fun _ _ _ _ _ _ us hl => (match us, hl with | [_, _], _ => rfl), def_zero⟩),
    (by obtain ⟨f, fd, hf, F⟩ := E.f_done_here; exact ⟨f, fd, ["plan", "step"], hf, F.kp, F.bindsN fun _ _ _ _ _ _ us hl => (match us, hl with | [_, _], _ => rfl), def_zero⟩),
    (by obtain ⟨f, fd, hf, F⟩ := E.f_done_at; exact ⟨f, fd, ["plan", "place", "step"], hf, F.kp, F.bindsN fun _ _ _ _ _ _ us hl => (match us, hl with | [_, _, _], _ => rfl), def_zero⟩),
    (by obtain ⟨f, fd, hf, F⟩ := E.f_step_done; exact ⟨f, fd, ["plan", "step"], hf, F.kp, F.bindsN fun _ _ _ _ _ _ us hl => (match us, hl with | [_, _], _ => rfl), def_zero⟩),
    (by obtain ⟨f, fd, hf, F⟩ := E.f_stepped; exact ⟨f, fd, ["plan", "step"], hf, F.kp, F.bindsN fun _ _ _ _ _ _ us hl => (match us, hl with | [_, _], _ => rfl), def_zero⟩),
    (by obtain ⟨f, fd, hf, F⟩ := E.f__law_tape; exact ⟨f, fd, ["_law_script"], hf, F.kp, F.bindsN fun _ _ _ _ _ _ us hl => (match us, hl with | [_], _ => rfl), def_zero⟩),
    (by obtain ⟨f, fd, hf, F⟩ := E.f__law_pick; exact ⟨f, fd, ["_law_tape_here", "_law_many"], hf, F.kp, F.bindsN fun _ _ _ _ _ _ us hl => (match us, hl with | [_, _], _ => rfl), def_zero⟩),
    (by obtain ⟨f, fd, hf, F⟩ := E.f__law_plan; exact ⟨f, fd, ["_law_tape_here", "_law_left", "_law_depth", "_law_letters", "_law_words"], hf, F.kp, F.bindsN fun _ _ _ _ _ _ us hl => (match us, hl with | [_, _, _, _, _], _ => rfl), def_zero⟩),
    (by obtain ⟨f, fd, hf, F⟩ := E.f__law_part; exact ⟨f, fd, ["_law_tape_here", "_law_left", "_law_depth", "_law_letters", "_law_words"], hf, F.kp, F.bindsN fun _ _ _ _ _ _ us hl => (match us, hl with | [_, _, _, _, _], _ => rfl), def_zero⟩),
    (by obtain ⟨f, fd, hf, F⟩ := E.f__law_part_size; exact ⟨f, fd, ["_law_part_here"], hf, F.kp, F.bindsN fun _ _ _ _ _ _ us hl => (match us, hl with | [_], _ => rfl), def_zero⟩),
    (by obtain ⟨f, fd, hf, F⟩ := E.f__law_size; exact ⟨f, fd, ["_law_plan_here"], hf, F.kp, F.bindsN fun _ _ _ _ _ _ us hl => (match us, hl with | [_], _ => rfl), def_zero⟩),
    (by obtain ⟨f, fd, hf, F⟩ := E.f__law_raise; exact ⟨f, fd, ["_law_plan_here", "_law_by", "_law_least"], hf, F.kp, F.bindsN fun _ _ _ _ _ _ us hl => (match us, hl with | [_, _, _], _ => rfl), def_zero⟩),
    (by obtain ⟨f, fd, hf, F⟩ := E.f__law_step; exact ⟨f, fd, ["_law_plan_here", "_law_step_here"], hf, F.kp, F.bindsN fun _ _ _ _ _ _ us hl => (match us, hl with | [_, _], _ => rfl), def_zero⟩),
    (by obtain ⟨f, fd, hf, F⟩ := E.f__law_rich; exact ⟨f, fd, ["_law_tape_here"], hf, F.kp, F.bindsN fun _ _ _ _ _ _ us hl => (match us, hl with | [_], _ => rfl), def_zero⟩),
    (by obtain ⟨f, fd, hf, F⟩ := E.f__law_great; exact ⟨f, fd, ["_law_tape_here", "_law_plan_here"], hf, F.kp, F.bindsN fun _ _ _ _ _ _ us hl => (match us, hl with | [_, _], _ => rfl), def_zero⟩),
    (by obtain ⟨f, fd, hf, F⟩ := E.f__law_some_step; exact ⟨f, fd, ["_law_tape_here", "_law_plan_here"], hf, F.kp, F.bindsN fun _ _ _ _ _ _ us hl => (match us, hl with | [_, _], _ => rfl), def_zero⟩),
    (by obtain ⟨f, fd, hf, F⟩ := E.f__law_walk; exact ⟨f, fd, ["_law_tape_here", "_law_plan_here", "_law_many"], hf, F.kp, F.bindsN fun _ _ _ _ _ _ us hl => (match us, hl with | [_, _, _], _ => rfl), def_zero⟩),
    (by obtain ⟨f, fd, hf, F⟩ := E.f__law_undoing; exact ⟨f, fd, ["_law_plan_here", "_law_step_here"], hf, F.kp, F.bindsN fun _ _ _ _ _ _ us hl => (match us, hl with | [_, _], _ => rfl), def_zero⟩),
    (by obtain ⟨f, fd, hf, F⟩ := E.f__law_is_int; exact ⟨f, fd, ["_law_thing"], hf, F.kp, F.bindsN fun _ _ _ _ _ _ us hl => (match us, hl with | [_], _ => rfl), def_zero⟩),
    (by obtain ⟨f, fd, hf, F⟩ := E.f__law_is_word; exact ⟨f, fd, ["_law_thing", "_law_most"], hf, F.kp, F.bindsN fun _ _ _ _ _ _ us hl => (match us, hl with | [_, _], _ => rfl), def_zero⟩),
    (by obtain ⟨f, fd, hf, F⟩ := E.f__law_is_part; exact ⟨f, fd, ["_law_thing", "_law_depth"], hf, F.kp, F.bindsN fun _ _ _ _ _ _ us hl => (match us, hl with | [_, _], _ => rfl), def_zero⟩),
    (by obtain ⟨f, fd, hf, F⟩ := E.f__law_is_plan; exact ⟨f, fd, ["_law_thing", "_law_depth"], hf, F.kp, F.bindsN fun _ _ _ _ _ _ us hl => (match us, hl with | [_, _], _ => rfl), def_zero⟩),
    (by obtain ⟨f, fd, hf, F⟩ := E.f_law; exact ⟨f, fd, ["_law_script"], hf, F.kp, F.bindsN fun _ _ _ _ _ _ us hl => (match us, hl with | [_], _ => rfl), def_zero⟩),
    clos_zero⟩
  | n + 1 => ⟨ok_is_integer E B (lvl E B n), ok_is_within E B (lvl E B n), ok_is_pair E B (lvl E B n), ok_is_triple E B (lvl E B n), ok_is_word E B (lvl E B n), ok_is_door E B (lvl E B n), ok_is_part E B (lvl E B n), ok_is_plan_in E B (lvl E B n), ok_check_plan E B (lvl E B n), ok_part_size E B (lvl E B n), ok_size_of E B (lvl E B n), ok_size E B (lvl E B n), ok_parts_within E B (lvl E B n), ok_items_in E B (lvl E B n), ok_nesting E B (lvl E B n), ok_mapped E B (lvl E B n), ok_raised E B (lvl E B n), ok_has_step_form E B (lvl E B n), ok_joined_pair E B (lvl E B n), ok_split_item E B (lvl E B n), ok_folded_item E B (lvl E B n), ok_unfolded_item E B (lvl E B n), ok_done_here E B (lvl E B n), ok_done_at E B (lvl E B n), ok_step_done E B (lvl E B n), ok_stepped E B (lvl E B n), ok__law_tape E B (lvl E B n), ok__law_pick E B (lvl E B n), ok__law_plan E B (lvl E B n), ok__law_part E B (lvl E B n), ok__law_part_size E B (lvl E B n), ok__law_size E B (lvl E B n), ok__law_raise E B (lvl E B n), ok__law_step E B (lvl E B n), ok__law_rich E B (lvl E B n), ok__law_great E B (lvl E B n), ok__law_some_step E B (lvl E B n), ok__law_walk E B (lvl E B n), ok__law_undoing E B (lvl E B n), ok__law_is_int E B (lvl E B n), ok__law_is_word E B (lvl E B n), ok__law_is_part E B (lvl E B n), ok__law_is_plan E B (lvl E B n), ok_law E B (lvl E B n), cls_succ E (lvl E B n)⟩
end
end K27
end Dl
/-! L27h: k27 at its level. -/
namespace Dl
open PySem PySem.Spec PyProof.Rows L2 NdefX
theorem cap_300 : 2 ^ 300 ≤ capN := by
  unfold capN
  exact Nat.pow_le_pow_right (by decide) (by decide)
theorem cap_lim : capN < limN := by have := lim_4000; omega
theorem allL_tape' {w : World} (h : TapeOk [] w) : allL w = true := by
  obtain ⟨ns, pos, c2, c3, c4, rfl, _⟩ := h
  rfl
structure Has27 (tbl : Nat → Option DefB) : Prop extends HasT tbl, HasSS tbl, HasU tbl, HasRi tbl, HasGr tbl, HasOL tbl where
  t22 : tbl 22 = some ⟨1, 1, b__law_tape⟩
/-- the plan ahead of turn j -/
structure Turn (Z : Nat) (j : Nat) (p : Pl) : Prop where
  ok : p.ok 0 = true
  size : p.size = Z
  len : p.within.length ≤ 10 * 2 ^ j
  dep : p.dep ≤ 5 + j
theorem Turn.dim {Z j : Nat} {p : Pl} (h : Turn Z j p) (hj : j ≤ 8) (hZ : Z ≤ capN) : Dim p where
  ok := ⟨0, h.ok⟩
  size := by rw [h.size]; exact hZ
  len := by
    have := Nat.mul_le_mul_left 10 (Nat.pow_le_pow_right (show 0 < 2 by decide) hj)
    have := h.len
    omega
  dep := by have := h.dep; omega
abbrev l7Body (C : Cs) : Sd := (sSeq (sSet 6 (dCall C 91 (aCons (dName 1) (aCons (dName 3) aNil))))
  (sIf (dTst (dBin gIsNot (dName 6) (dC .non))) (sSeq (sSet 7 (dCall C 89 (aCons (dName 3) (aCons (dName 6) aNil))))
  (sSeq (sSet 8 (dCall C 96 (aCons (dName 3) (aCons (dName 6) aNil))))
  (sSeq (sIf (tOr' (tNot' (dTru (dCall C 94 (aCons (dName 8) (aCons (dC (.int 0)) aNil))))) (tOr' (dTst (dBin (gNe C.room) (dName 8) (dName 7))) (dTst (dBin (gNe C.room) (dCall C 47 (aCons (dName 8) aNil)) (dName 4))))) (sRet (dC (.bl false))) sNil)
  (sSeq (sIf (tOr' (dTst (dBin (gNe C.room) (dCall C 96 (aCons (dName 8) (aCons (dCall C 97 (aCons (dName 3) (aCons (dName 6) aNil))) aNil))) (dName 3))) (dTst (dBin (gNe C.room) (dCall C 96 (aCons (dName 3) (aCons (dName 6) aNil))) (dName 7)))) (sRet (dC (.bl false))) sNil)
  (sSet 3 (dName 7)))))) sNil))
theorem turn27 {tbl : Nat → Option DefB} (T : Has27 tbl) {n : Nat} (hn : 150 ≤ n) {w : World} (ht : TapeOk [] w) {Z j : Nat} (hj : j ≤ 7) (hZ : Z ≤ capN) {p : Pl} (hp : Turn Z j p) (s0 s2 s5 s6 s7 s8 : Sl) :
    ∃ p' u6 u7 u8 w', l7Body (Den tbl n) [s0, .wref 0, s2, .dat p.d, .dat (.int Z), s5, s6, s7, s8] w = .ok (.nx [s0, .wref 0, s2, .dat p'.d, .dat (.int Z), s5, u6, u7, u8]) w' ∧ TapeOk [] w' ∧ Turn Z (j + 1) p' := by
  have D := hp.dim (by omega) hZ
  obtain ⟨w1, t1, h⟩ := c_some_step T.toHasSS D (n := n) (by omega) ht
  rcases h with h | ⟨s, pl, p', e1, hs, hl⟩
  · refine ⟨p, .dat .non, s7, s8, w1, ?_, t1, ⟨hp.ok, hp.size, ?_, by have := hp.dep; omega⟩⟩
    · simp only [Pl.d] at h
      simp [h, Dl.D.isN]
    · have := hp.len
      rw [Nat.pow_succ]
      omega
  · obtain ⟨k1, k2, k3, k4, k5⟩ := stepAt_spec s pl p p' 0 hp.ok hs
    have hp' : Turn Z (j + 1) p' := ⟨k1, by rw [k2, hp.size], by have := hp.len; rw [Nat.pow_succ]; omega, by have := hp.dep; omega⟩
    have D' := hp'.dim (by omega) hZ
    have hw := allL_tape' t1
    have d1 := D.dep
    have d2 := D'.dep
    have f1 := c_lstep T.toHasLS27 (w := w1) pl p p' n D hs (by omega) (by omega)
    have f2 := c_stepped T.toHasT hw D hp.ok D' hs (n := n) (by omega) (by omega)
    have f3 := c_lplanok T.toHasOL (w := w1) (n := n) (p := p') (k := 0) k1 (by omega)
    have cl := cap_lim
    have f4 := c_size T.toHasZ0 (w := w1) (p := p') (n := n) (by omega) k1 (by rw [hp'.size]; omega)
    rw [hp'.size] at f4
    have f5 := c_undoing T.toHasU (w := w1) D hs (n := n) (by omega)
    have f6 := c_stepped T.toHasT hw D' k1 D k5 (n := n) (by omega) (by omega)
    have rm : ∀ {q : Pl}, q.dep ≤ 50 → q.d.dep ≤ (Den tbl n).room := fun {q} h => by have := Pl.dep_le q; rw [den_room]; omega
    have g1 := gNe_self (rm d1)
    have g2 := gNe_self (rm d2)
    have hN : (s.d pl).isN = false := rfl
    generalize s.d pl = S at *
    generalize (undoAt p pl s).d pl = U at *
    refine ⟨p', .dat S, .dat p'.d, .dat p'.d, w1, ?_, t1, hp'⟩
    simp only [Pl.d, Int.cast_ofNat_Int] at e1 f1 f2 f3 f4 f5 f6 g1 g2
    simp [e1, f1, f2, f3, f4, f5, f6, g1, g2, hN]
namespace K27
theorem has : Has27 tbl := by
  refine { t1 := rfl, t2 := rfl, t4 := rfl, t27 := rfl, t24 := rfl, t26 := rfl, t28 := rfl, t25 := rfl, t29 := rfl, t30 := rfl, t32 := rfl, t34 := rfl, t38 := rfl, t41 := rfl, t11 := rfl, t31 := rfl, t22 := rfl, t47 := rfl, t52 := rfl, t51 := rfl, t55 := rfl, t57 := rfl, t78 := rfl, t79 := rfl, t80 := rfl, t81 := rfl, t82 := rfl, t83 := rfl, t84 := rfl, t85 := rfl, t86 := rfl, t87 := rfl, t88 := rfl, t89 := rfl, t90 := rfl, t91 := rfl, t92 := rfl, t93 := rfl, t94 := rfl, t95 := rfl, t96 := rfl, t97 := rfl, t98 := rfl }
theorem law_true (ns : List Int) : ∃ w', (Den tbl 151).call 100 [.dat (.lst (ns.map .int))] [] = .ok (.dat (.bl true)) w' := by
  have e0 : (Den tbl 150).call 22 [.dat (.lst (ns.map .int))] [] = .ok (.fresh [.lst (ns.map .int), .int 0, .int 0, .int 1, .int 0]) [] := by
    rw [den_succ has.t22]
    exact tape_run
  have t0 : TapeOk [] [.lst [.lst (ns.map .int), .int 0, .int 0, .int 1, .int 0]] := ⟨ns, 0, 0, 1, 0, rfl, by decide⟩
  generalize hS : D.lst (ns.map D.int) = S at *
  obtain ⟨r0, w0, p0, t0, _⟩ := c_pick has.toHasPk (n := 150) (by decide) t0 (m := 4) (by decide) (by decide)
  obtain ⟨p1, w1, p1e, t1, o1, l1, d1, z1⟩ := c_rich has.toHasRi (n := 150) (by decide) t0
  obtain ⟨p, w2, hp, t2, o2, l2, d2, z2⟩ : ∃ p : Pl, ∃ w2, (if r0 = 0 then (Den tbl 150).call 90 [.wref 0, .dat p1.d] w1 else .ok (.dat p1.d) w1) = .ok (.dat p.d) w2 ∧ TapeOk [] w2 ∧ p.ok 0 = true ∧ p.within.length ≤ 10 ∧ p.dep ≤ 5 ∧ p.size ≤ 2 ^ 300 := by
    by_cases h : r0 = 0
    · obtain ⟨p', w', e, t, o, l, d, z⟩ := c_great has.toHasGr (k := 0) (n := 150) o1 (by omega) (by omega) (by omega) t1
      refine ⟨p', w', by rw [if_pos h]; exact e, t, o, by omega, by omega, ?_⟩
      have a1 : gg ^ (p1.dep + 1) ≤ gg ^ 6 := gpow_mono (by omega)
      have a2 : p1.size * gg ^ (p1.dep + 1) ≤ 60 * gg ^ 6 := Nat.mul_le_mul z1 a1
      exact Nat.le_trans z (Nat.le_trans a2 (by decide))
    · exact ⟨p1, w1, by rw [if_neg h], t1, o1, l1, d1, Nat.le_trans z1 (by decide)⟩
  have hZ : p.size ≤ capN := Nat.le_trans z2 cap_300
  have cl := cap_lim
  have f1 := c_size has.toHasZ0 (w := w2) (p := p) (n := 150) (by omega) o2 (by omega)
  have ht : tbl 100 = some ⟨1, 9, b_law_100⟩ := rfl
  have loop : ∀ N : Nat, N ≤ 8 → ∃ q u5 u6 u7 u8 w', forGo (gN 5) (l7Body (Den tbl 150)) (rngD 0 (N : Int)) [.dat S, .wref 0, .dat (.bl (decide (r0 = 0))), .dat p.d, .dat (.int p.size), .un, .un, .un, .un] w2 = .ok (.nx [.dat S, .wref 0, .dat (.bl (decide (r0 = 0))), .dat (Pl.d q), .dat (.int p.size), u5, u6, u7, u8]) w' := by
    intro N hN
    have step : ∀ (j : Nat) (dd : D) (env : Ev) (w : World), ((∃ q u5 u6 u7 u8, env = [.dat S, .wref 0, .dat (.bl (decide (r0 = 0))), .dat (Pl.d q), .dat (.int p.size), u5, u6, u7, u8] ∧ Turn p.size j q) ∧ TapeOk [] w) → (rngD 0 (N : Int))[j]? = some dd →
        ∃ env' w', l7Body (Den tbl 150) (env.set 5 (.dat dd)) w = .ok (.nx env') w' ∧ ((∃ q u5 u6 u7 u8, env' = [.dat S, .wref 0, .dat (.bl (decide (r0 = 0))), .dat (Pl.d q), .dat (.int p.size), u5, u6, u7, u8] ∧ Turn p.size (j + 1) q) ∧ TapeOk [] w') := by
      intro j dd env w hh hd
      obtain ⟨⟨q, u5, u6, u7, u8, he, hq⟩, tw⟩ := hh
      have hj : j < N := by
        have := (List.getElem?_eq_some_iff.mp hd).1
        rw [rngD_nat] at this
        simpa using this
      obtain ⟨q', v6, v7, v8, w', e, t', hq'⟩ := turn27 has (n := 150) (Nat.le_refl _) tw (j := j) (by omega) hZ hq (.dat S) (.dat (.bl (decide (r0 = 0)))) (.dat dd) u6 u7 u8
      rw [he]
      exact ⟨_, w', e, ⟨q', _, _, _, _, rfl, hq'⟩, t'⟩
    have base : (∃ q u5 u6 u7 u8, ([.dat S, .wref 0, .dat (.bl (decide (r0 = 0))), .dat p.d, .dat (.int p.size), .un, .un, .un, .un] : Ev) = [.dat S, .wref 0, .dat (.bl (decide (r0 = 0))), .dat (Pl.d q), .dat (.int p.size), u5, u6, u7, u8] ∧ Turn p.size 0 q) ∧ TapeOk [] w2 := ⟨⟨p, _, _, _, _, rfl, ⟨o2, rfl, by simpa using l2, by simpa using d2⟩⟩, t2⟩
    obtain ⟨env', w', e, h⟩ := for_inv (i := 5) (s := l7Body (Den tbl 150)) (l := rngD 0 (N : Int)) (k := 0) (w := w2) (env := [.dat S, .wref 0, .dat (.bl (decide (r0 = 0))), .dat p.d, .dat (.int p.size), .un, .un, .un, .un])
      (P := fun j env w => (∃ q u5 u6 u7 u8, env = [.dat S, .wref 0, .dat (.bl (decide (r0 = 0))), .dat (Pl.d q), .dat (.int p.size), u5, u6, u7, u8] ∧ Turn p.size j q) ∧ TapeOk [] w) base (fun j dd env w h hd => by
        have h' := step j dd env w (by simpa using h) hd
        simpa using h')
    obtain ⟨⟨q, u5, u6, u7, u8, he, _⟩, _⟩ := h
    rw [he] at e
    exact ⟨q, u5, u6, u7, u8, w', e⟩
  simp only [Pl.d] at p1e hp f1 loop
  rw [show (Den tbl 151).call 100 [.dat S] [] = endR (b_law_100 (Den tbl 150) [.dat S, .un, .un, .un, .un, .un, .un, .un, .un] []) by rw [den_succ ht]; rfl]
  have m1 : mulOk 3 1 = true := by decide
  have m0 : mulOk 3 0 = true := by decide
  by_cases h : r0 = 0
  · rw [if_pos h] at hp
    obtain ⟨q, u5, u6, u7, u8, w', e⟩ := loop 5 (by decide)
    refine ⟨w', ?_⟩
    unfold b_law_100
    simp only [h, decide_true, Int.cast_ofNat_Int] at e
    simp [e0, p0, p1e, h, hp, f1, e, m1]
  · rw [if_neg h] at hp
    obtain ⟨q, u5, u6, u7, u8, w', e⟩ := loop 8 (by decide)
    refine ⟨w', ?_⟩
    unfold b_law_100
    simp only [h, decide_false, Int.cast_ofNat_Int] at e
    injection hp with hp1 hp2
    injection hp1 with hp1
    subst hp2
    rw [← hp1] at e
    rw [← hp1] at f1
    simp [e0, p0, p1e, h, f1, e, m0]
end K27
end Dl
namespace Dl
open PySem PySem.Spec PyProof.Rows L2 NdefX
namespace K27
def fnH : List He.DefD := [⟨("is_integer", none), "is_integer", "is_integer", defArgs (top 7), defBody (top 7), defScope (top 7), [], []⟩, ⟨("is_within", none), "is_within", "is_within", defArgs (top 8), defBody (top 8), defScope (top 8), [], []⟩, ⟨("is_pair", none), "is_pair", "is_pair", defArgs (top 9), defBody (top 9), defScope (top 9), [], []⟩, ⟨("is_triple", none), "is_triple", "is_triple", defArgs (top 10), defBody (top 10), defScope (top 10), [], []⟩, ⟨("is_word", none), "is_word", "is_word", defArgs (top 11), defBody (top 11), defScope (top 11), [], []⟩, ⟨("is_door", none), "is_door", "is_door", defArgs (top 12), defBody (top 12), defScope (top 12), [], []⟩, ⟨("is_part", none), "is_part", "is_part", defArgs (top 13), defBody (top 13), defScope (top 13), [], []⟩, ⟨("is_plan_in", none), "is_plan_in", "is_plan_in", defArgs (top 14), defBody (top 14), defScope (top 14), [], []⟩, ⟨("check_plan", none), "check_plan", "check_plan", defArgs (top 15), defBody (top 15), defScope (top 15), [], []⟩, ⟨("part_size", none), "part_size", "part_size", defArgs (top 19), defBody (top 19), defScope (top 19), [], []⟩, ⟨("size_of", none), "size_of", "size_of", defArgs (top 20), defBody (top 20), defScope (top 20), [], []⟩, ⟨("size", none), "size", "size", defArgs (top 21), defBody (top 21), defScope (top 21), [], []⟩, ⟨("parts_within", none), "parts_within", "parts_within", defArgs (top 22), defBody (top 22), defScope (top 22), [], []⟩, ⟨("items_in", none), "items_in", "items_in", defArgs (top 23), defBody (top 23), defScope (top 23), [], []⟩, ⟨("nesting", none), "nesting", "nesting", defArgs (top 24), defBody (top 24), defScope (top 24), [], []⟩, ⟨("mapped", none), "mapped", "mapped", defArgs (top 25), defBody (top 25), defScope (top 25), [], []⟩, ⟨("raised", none), "raised", "raised", defArgs (top 26), defBody (top 26), defScope (top 26), [], []⟩, ⟨("has_step_form", none), "has_step_form", "has_step_form", defArgs (top 29), defBody (top 29), defScope (top 29), [], []⟩, ⟨("joined_pair", none), "joined_pair", "joined_pair", defArgs (top 30), defBody (top 30), defScope (top 30), [], []⟩, ⟨("split_item", none), "split_item", "split_item", defArgs (top 31), defBody (top 31), defScope (top 31), [], []⟩, ⟨("folded_item", none), "folded_item", "folded_item", defArgs (top 32), defBody (top 32), defScope (top 32), [], []⟩, ⟨("unfolded_item", none), "unfolded_item", "unfolded_item", defArgs (top 33), defBody (top 33), defScope (top 33), [], []⟩, ⟨("done_here", none), "done_here", "done_here", defArgs (top 34), defBody (top 34), defScope (top 34), [], []⟩, ⟨("done_at", none), "done_at", "done_at", defArgs (top 35), defBody (top 35), defScope (top 35), [], []⟩, ⟨("step_done", none), "step_done", "step_done", defArgs (top 36), defBody (top 36), defScope (top 36), [], []⟩, ⟨("stepped", none), "stepped", "stepped", defArgs (top 37), defBody (top 37), defScope (top 37), [], []⟩, ⟨("_law_tape", none), "_law_tape", "_law_tape", defArgs (top 39), defBody (top 39), defScope (top 39), [], []⟩, ⟨("_law_pick", none), "_law_pick", "_law_pick", defArgs (top 40), defBody (top 40), defScope (top 40), [], []⟩, ⟨("_law_plan", none), "_law_plan", "_law_plan", defArgs (top 41), defBody (top 41), defScope (top 41), [], []⟩, ⟨("_law_part", none), "_law_part", "_law_part", defArgs (top 42), defBody (top 42), defScope (top 42), [], []⟩, ⟨("_law_part_size", none), "_law_part_size", "_law_part_size", defArgs (top 43), defBody (top 43), defScope (top 43), [], []⟩, ⟨("_law_size", none), "_law_size", "_law_size", defArgs (top 44), defBody (top 44), defScope (top 44), [], []⟩, ⟨("_law_raise", none), "_law_raise", "_law_raise", defArgs (top 45), defBody (top 45), defScope (top 45), [], []⟩, ⟨("_law_step", none), "_law_step", "_law_step", defArgs (top 46), defBody (top 46), defScope (top 46), [], []⟩, ⟨("_law_rich", none), "_law_rich", "_law_rich", defArgs (top 47), defBody (top 47), defScope (top 47), [], []⟩, ⟨("_law_great", none), "_law_great", "_law_great", defArgs (top 48), defBody (top 48), defScope (top 48), [], []⟩, ⟨("_law_some_step", none), "_law_some_step", "_law_some_step", defArgs (top 49), defBody (top 49), defScope (top 49), [], []⟩, ⟨("_law_walk", none), "_law_walk", "_law_walk", defArgs (top 50), defBody (top 50), defScope (top 50), [], []⟩, ⟨("_law_undoing", none), "_law_undoing", "_law_undoing", defArgs (top 51), defBody (top 51), defScope (top 51), [], []⟩, ⟨("_law_is_int", none), "_law_is_int", "_law_is_int", defArgs (top 52), defBody (top 52), defScope (top 52), [], []⟩, ⟨("_law_is_word", none), "_law_is_word", "_law_is_word", defArgs (top 53), defBody (top 53), defScope (top 53), [], []⟩, ⟨("_law_is_part", none), "_law_is_part", "_law_is_part", defArgs (top 54), defBody (top 54), defScope (top 54), [], []⟩, ⟨("_law_is_plan", none), "_law_is_plan", "_law_is_plan", defArgs (top 55), defBody (top 55), defScope (top 55), [], []⟩, ⟨("law", none), "law", "law", defArgs (top 56), defBody (top 56), defScope (top 56), [], []⟩]
def faH : List He.Fa := [.glo "is_integer", .glo "is_within", .glo "is_pair", .glo "is_triple", .glo "is_word", .glo "is_door", .glo "is_part", .glo "is_plan_in", .glo "check_plan", .glo "part_size", .glo "size_of", .glo "size", .glo "parts_within", .glo "items_in", .glo "nesting", .glo "mapped", .glo "raised", .glo "has_step_form", .glo "joined_pair", .glo "split_item", .glo "folded_item", .glo "unfolded_item", .glo "done_here", .glo "done_at", .glo "step_done", .glo "stepped", .glo "_law_tape", .glo "_law_pick", .glo "_law_plan", .glo "_law_part", .glo "_law_part_size", .glo "_law_size", .glo "_law_raise", .glo "_law_step", .glo "_law_rich", .glo "_law_great", .glo "_law_some_step", .glo "_law_walk", .glo "_law_undoing", .glo "_law_is_int", .glo "_law_is_word", .glo "_law_is_part", .glo "_law_is_plan", .glo "law", .free "all", .free "bool", .free "int", .free "isinstance", .free "len", .free "list", .free "max", .free "min", .free "range", .free "str", .free "sum", .free "tuple", .str "SMALL" "abcdefghijklmnopqrstuvwxyz", .int "MOST_WORD" 8, .int "MOST_NESTED" 120, .int "MOST_ITEMS" 5000, .glo "LENGTHS"]
def tsH : List He.Tab := [(fun K => He.ga K "LENGTHS", ["swap", "join", "split", "fold", "unfold"])]
def kv_LENGTHS : List (Str × He.Dv) := [("swap", .int 3), ("join", .int 3), ("split", .int 4), ("fold", .int 3), ("unfold", .int 4)]
def tqH : List (He.Defn × Str) := [(("raised", none), "raised.<locals>.lift")]
abbrev tfH : List He.Defn := tqH.map (·.1)
def exH (K : PySem.W.Frag) : Bool := apart K tfH && He.valsB K (He.ga K "LENGTHS") kv_LENGTHS
abbrev R : PySem.W.OpenRow := PySem.W.OpenLaw.row PySem.Challenge.rw_sealedplans_k27_whole_steps_by_own_rules
abbrev hkH : PySem.W.Hook := He.hookX 4 faH fnH tsH tfH exH
def obH (s : PySem.W.SharedT) : He.AlX := He.obsX 4 faH fnH tsH tfH exH (HandSHeadRun.getT s)
theorem obH_eq (s : PySem.W.SharedT) : obH s = hkH.obs s.abs := He.obsX_eq (HandSHeadRun.getT_eq s)
def loose0 : List Str := ["PlanError", "NoPlan", "NoStep", "SMALL", "MOST_WORD", "is_integer", "is_within", "is_pair", "is_triple", "is_word", "is_door", "is_part", "is_plan_in", "check_plan", "MOST_ITEMS", "MOST_NESTED", "part_size", "size_of", "size", "parts_within", "items_in", "nesting", "mapped", "raised", "LENGTHS", "has_step_form", "joined_pair", "split_item", "folded_item", "unfolded_item"]
def loose1 : List Str := ["done_here", "done_at", "step_done", "stepped", "_law_tape", "_law_pick", "_law_plan", "_law_part", "_law_part_size", "_law_size", "_law_raise", "_law_step", "_law_rich", "_law_great", "_law_some_step", "_law_walk", "_law_undoing", "_law_is_int", "_law_is_word", "_law_is_part", "_law_is_plan"]
abbrev looseH : List Str := loose0 ++ loose1
theorem runH (w : PySem.World) : HandSHeadRun.RunEq R (PySem.W.view R.prog [56]) hkH obH 6000 looseH w := by
  refine PySem.W.byRow2 "special-get-raises" (P := fun w => HandSHeadRun.RunEq R (PySem.W.view R.prog [56]) hkH obH 6000 looseH w) (fun w => ?_) (fun w => ?_) w
  · intro os
    kernel_rfl
  · intro os
    kernel_rfl
theorem factsH {w : PySem.World} {K : PySem.W.Frag} {h : Heap} {mg : Str → Option Value} (X : K.In h) (G : h.Ns mainGlobals mg) (c : He.SaysX faH fnH tsH tfH exH w h K) : Facts K w mg (ctsOf K tqH) where
  f_is_integer := by obtain ⟨fd, F⟩ := c.t.d.def_ 0 (d := ⟨("is_integer", none), "is_integer", "is_integer", defArgs (top 7), defBody (top 7), defScope (top 7), [], []⟩) rfl; exact ⟨_, fd, He.glo_ok X G (c.t.d.fact 0 (f := .glo "is_integer") rfl), F⟩
  f_is_within := by obtain ⟨fd, F⟩ := c.t.d.def_ 1 (d := ⟨("is_within", none), "is_within", "is_within", defArgs (top 8), defBody (top 8), defScope (top 8), [], []⟩) rfl; exact ⟨_, fd, He.glo_ok X G (c.t.d.fact 1 (f := .glo "is_within") rfl), F⟩
  f_is_pair := by obtain ⟨fd, F⟩ := c.t.d.def_ 2 (d := ⟨("is_pair", none), "is_pair", "is_pair", defArgs (top 9), defBody (top 9), defScope (top 9), [], []⟩) rfl; exact ⟨_, fd, He.glo_ok X G (c.t.d.fact 2 (f := .glo "is_pair") rfl), F⟩
  f_is_triple := by obtain ⟨fd, F⟩ := c.t.d.def_ 3 (d := ⟨("is_triple", none), "is_triple", "is_triple", defArgs (top 10), defBody (top 10), defScope (top 10), [], []⟩) rfl; exact ⟨_, fd, He.glo_ok X G (c.t.d.fact 3 (f := .glo "is_triple") rfl), F⟩
  f_is_word := by obtain ⟨fd, F⟩ := c.t.d.def_ 4 (d := ⟨("is_word", none), "is_word", "is_word", defArgs (top 11), defBody (top 11), defScope (top 11), [], []⟩) rfl; exact ⟨_, fd, He.glo_ok X G (c.t.d.fact 4 (f := .glo "is_word") rfl), F⟩
  f_is_door := by obtain ⟨fd, F⟩ := c.t.d.def_ 5 (d := ⟨("is_door", none), "is_door", "is_door", defArgs (top 12), defBody (top 12), defScope (top 12), [], []⟩) rfl; exact ⟨_, fd, He.glo_ok X G (c.t.d.fact 5 (f := .glo "is_door") rfl), F⟩
  f_is_part := by obtain ⟨fd, F⟩ := c.t.d.def_ 6 (d := ⟨("is_part", none), "is_part", "is_part", defArgs (top 13), defBody (top 13), defScope (top 13), [], []⟩) rfl; exact ⟨_, fd, He.glo_ok X G (c.t.d.fact 6 (f := .glo "is_part") rfl), F⟩
  f_is_plan_in := by obtain ⟨fd, F⟩ := c.t.d.def_ 7 (d := ⟨("is_plan_in", none), "is_plan_in", "is_plan_in", defArgs (top 14), defBody (top 14), defScope (top 14), [], []⟩) rfl; exact ⟨_, fd, He.glo_ok X G (c.t.d.fact 7 (f := .glo "is_plan_in") rfl), F⟩
  f_check_plan := by obtain ⟨fd, F⟩ := c.t.d.def_ 8 (d := ⟨("check_plan", none), "check_plan", "check_plan", defArgs (top 15), defBody (top 15), defScope (top 15), [], []⟩) rfl; exact ⟨_, fd, He.glo_ok X G (c.t.d.fact 8 (f := .glo "check_plan") rfl), F⟩
  f_part_size := by obtain ⟨fd, F⟩ := c.t.d.def_ 9 (d := ⟨("part_size", none), "part_size", "part_size", defArgs (top 19), defBody (top 19), defScope (top 19), [], []⟩) rfl; exact ⟨_, fd, He.glo_ok X G (c.t.d.fact 9 (f := .glo "part_size") rfl), F⟩
  f_size_of := by obtain ⟨fd, F⟩ := c.t.d.def_ 10 (d := ⟨("size_of", none), "size_of", "size_of", defArgs (top 20), defBody (top 20), defScope (top 20), [], []⟩) rfl; exact ⟨_, fd, He.glo_ok X G (c.t.d.fact 10 (f := .glo "size_of") rfl), F⟩
  f_size := by obtain ⟨fd, F⟩ := c.t.d.def_ 11 (d := ⟨("size", none), "size", "size", defArgs (top 21), defBody (top 21), defScope (top 21), [], []⟩) rfl; exact ⟨_, fd, He.glo_ok X G (c.t.d.fact 11 (f := .glo "size") rfl), F⟩
  f_parts_within := by obtain ⟨fd, F⟩ := c.t.d.def_ 12 (d := ⟨("parts_within", none), "parts_within", "parts_within", defArgs (top 22), defBody (top 22), defScope (top 22), [], []⟩) rfl; exact ⟨_, fd, He.glo_ok X G (c.t.d.fact 12 (f := .glo "parts_within") rfl), F⟩
  f_items_in := by obtain ⟨fd, F⟩ := c.t.d.def_ 13 (d := ⟨("items_in", none), "items_in", "items_in", defArgs (top 23), defBody (top 23), defScope (top 23), [], []⟩) rfl; exact ⟨_, fd, He.glo_ok X G (c.t.d.fact 13 (f := .glo "items_in") rfl), F⟩
  f_nesting := by obtain ⟨fd, F⟩ := c.t.d.def_ 14 (d := ⟨("nesting", none), "nesting", "nesting", defArgs (top 24), defBody (top 24), defScope (top 24), [], []⟩) rfl; exact ⟨_, fd, He.glo_ok X G (c.t.d.fact 14 (f := .glo "nesting") rfl), F⟩
  f_mapped := by obtain ⟨fd, F⟩ := c.t.d.def_ 15 (d := ⟨("mapped", none), "mapped", "mapped", defArgs (top 25), defBody (top 25), defScope (top 25), [], []⟩) rfl; exact ⟨_, fd, He.glo_ok X G (c.t.d.fact 15 (f := .glo "mapped") rfl), F⟩
  f_raised := by obtain ⟨fd, F⟩ := c.t.d.def_ 16 (d := ⟨("raised", none), "raised", "raised", defArgs (top 26), defBody (top 26), defScope (top 26), [], []⟩) rfl; obtain ⟨c1, Pt, e1, e2⟩ := maker_of (tq := tqH) (p := ("raised", none)) (q := "raised.<locals>.lift") F (.head _); exact ⟨_, fd, c1, Pt, He.glo_ok X G (c.t.d.fact 16 (f := .glo "raised") rfl), F, e1, e2⟩
  f_has_step_form := by obtain ⟨fd, F⟩ := c.t.d.def_ 17 (d := ⟨("has_step_form", none), "has_step_form", "has_step_form", defArgs (top 29), defBody (top 29), defScope (top 29), [], []⟩) rfl; exact ⟨_, fd, He.glo_ok X G (c.t.d.fact 17 (f := .glo "has_step_form") rfl), F⟩
  f_joined_pair := by obtain ⟨fd, F⟩ := c.t.d.def_ 18 (d := ⟨("joined_pair", none), "joined_pair", "joined_pair", defArgs (top 30), defBody (top 30), defScope (top 30), [], []⟩) rfl; exact ⟨_, fd, He.glo_ok X G (c.t.d.fact 18 (f := .glo "joined_pair") rfl), F⟩
  f_split_item := by obtain ⟨fd, F⟩ := c.t.d.def_ 19 (d := ⟨("split_item", none), "split_item", "split_item", defArgs (top 31), defBody (top 31), defScope (top 31), [], []⟩) rfl; exact ⟨_, fd, He.glo_ok X G (c.t.d.fact 19 (f := .glo "split_item") rfl), F⟩
  f_folded_item := by obtain ⟨fd, F⟩ := c.t.d.def_ 20 (d := ⟨("folded_item", none), "folded_item", "folded_item", defArgs (top 32), defBody (top 32), defScope (top 32), [], []⟩) rfl; exact ⟨_, fd, He.glo_ok X G (c.t.d.fact 20 (f := .glo "folded_item") rfl), F⟩
  f_unfolded_item := by obtain ⟨fd, F⟩ := c.t.d.def_ 21 (d := ⟨("unfolded_item", none), "unfolded_item", "unfolded_item", defArgs (top 33), defBody (top 33), defScope (top 33), [], []⟩) rfl; exact ⟨_, fd, He.glo_ok X G (c.t.d.fact 21 (f := .glo "unfolded_item") rfl), F⟩
  f_done_here := by obtain ⟨fd, F⟩ := c.t.d.def_ 22 (d := ⟨("done_here", none), "done_here", "done_here", defArgs (top 34), defBody (top 34), defScope (top 34), [], []⟩) rfl; exact ⟨_, fd, He.glo_ok X G (c.t.d.fact 22 (f := .glo "done_here") rfl), F⟩
  f_done_at := by obtain ⟨fd, F⟩ := c.t.d.def_ 23 (d := ⟨("done_at", none), "done_at", "done_at", defArgs (top 35), defBody (top 35), defScope (top 35), [], []⟩) rfl; exact ⟨_, fd, He.glo_ok X G (c.t.d.fact 23 (f := .glo "done_at") rfl), F⟩
  f_step_done := by obtain ⟨fd, F⟩ := c.t.d.def_ 24 (d := ⟨("step_done", none), "step_done", "step_done", defArgs (top 36), defBody (top 36), defScope (top 36), [], []⟩) rfl; exact ⟨_, fd, He.glo_ok X G (c.t.d.fact 24 (f := .glo "step_done") rfl), F⟩
  f_stepped := by obtain ⟨fd, F⟩ := c.t.d.def_ 25 (d := ⟨("stepped", none), "stepped", "stepped", defArgs (top 37), defBody (top 37), defScope (top 37), [], []⟩) rfl; exact ⟨_, fd, He.glo_ok X G (c.t.d.fact 25 (f := .glo "stepped") rfl), F⟩
  f__law_tape := by obtain ⟨fd, F⟩ := c.t.d.def_ 26 (d := ⟨("_law_tape", none), "_law_tape", "_law_tape", defArgs (top 39), defBody (top 39), defScope (top 39), [], []⟩) rfl; exact ⟨_, fd, He.glo_ok X G (c.t.d.fact 26 (f := .glo "_law_tape") rfl), F⟩
  f__law_pick := by obtain ⟨fd, F⟩ := c.t.d.def_ 27 (d := ⟨("_law_pick", none), "_law_pick", "_law_pick", defArgs (top 40), defBody (top 40), defScope (top 40), [], []⟩) rfl; exact ⟨_, fd, He.glo_ok X G (c.t.d.fact 27 (f := .glo "_law_pick") rfl), F⟩
  f__law_plan := by obtain ⟨fd, F⟩ := c.t.d.def_ 28 (d := ⟨("_law_plan", none), "_law_plan", "_law_plan", defArgs (top 41), defBody (top 41), defScope (top 41), [], []⟩) rfl; exact ⟨_, fd, He.glo_ok X G (c.t.d.fact 28 (f := .glo "_law_plan") rfl), F⟩
  f__law_part := by obtain ⟨fd, F⟩ := c.t.d.def_ 29 (d := ⟨("_law_part", none), "_law_part", "_law_part", defArgs (top 42), defBody (top 42), defScope (top 42), [], []⟩) rfl; exact ⟨_, fd, He.glo_ok X G (c.t.d.fact 29 (f := .glo "_law_part") rfl), F⟩
  f__law_part_size := by obtain ⟨fd, F⟩ := c.t.d.def_ 30 (d := ⟨("_law_part_size", none), "_law_part_size", "_law_part_size", defArgs (top 43), defBody (top 43), defScope (top 43), [], []⟩) rfl; exact ⟨_, fd, He.glo_ok X G (c.t.d.fact 30 (f := .glo "_law_part_size") rfl), F⟩
  f__law_size := by obtain ⟨fd, F⟩ := c.t.d.def_ 31 (d := ⟨("_law_size", none), "_law_size", "_law_size", defArgs (top 44), defBody (top 44), defScope (top 44), [], []⟩) rfl; exact ⟨_, fd, He.glo_ok X G (c.t.d.fact 31 (f := .glo "_law_size") rfl), F⟩
  f__law_raise := by obtain ⟨fd, F⟩ := c.t.d.def_ 32 (d := ⟨("_law_raise", none), "_law_raise", "_law_raise", defArgs (top 45), defBody (top 45), defScope (top 45), [], []⟩) rfl; exact ⟨_, fd, He.glo_ok X G (c.t.d.fact 32 (f := .glo "_law_raise") rfl), F⟩
  f__law_step := by obtain ⟨fd, F⟩ := c.t.d.def_ 33 (d := ⟨("_law_step", none), "_law_step", "_law_step", defArgs (top 46), defBody (top 46), defScope (top 46), [], []⟩) rfl; exact ⟨_, fd, He.glo_ok X G (c.t.d.fact 33 (f := .glo "_law_step") rfl), F⟩
  f__law_rich := by obtain ⟨fd, F⟩ := c.t.d.def_ 34 (d := ⟨("_law_rich", none), "_law_rich", "_law_rich", defArgs (top 47), defBody (top 47), defScope (top 47), [], []⟩) rfl; exact ⟨_, fd, He.glo_ok X G (c.t.d.fact 34 (f := .glo "_law_rich") rfl), F⟩
  f__law_great := by obtain ⟨fd, F⟩ := c.t.d.def_ 35 (d := ⟨("_law_great", none), "_law_great", "_law_great", defArgs (top 48), defBody (top 48), defScope (top 48), [], []⟩) rfl; exact ⟨_, fd, He.glo_ok X G (c.t.d.fact 35 (f := .glo "_law_great") rfl), F⟩
  f__law_some_step := by obtain ⟨fd, F⟩ := c.t.d.def_ 36 (d := ⟨("_law_some_step", none), "_law_some_step", "_law_some_step", defArgs (top 49), defBody (top 49), defScope (top 49), [], []⟩) rfl; exact ⟨_, fd, He.glo_ok X G (c.t.d.fact 36 (f := .glo "_law_some_step") rfl), F⟩
  f__law_walk := by obtain ⟨fd, F⟩ := c.t.d.def_ 37 (d := ⟨("_law_walk", none), "_law_walk", "_law_walk", defArgs (top 50), defBody (top 50), defScope (top 50), [], []⟩) rfl; exact ⟨_, fd, He.glo_ok X G (c.t.d.fact 37 (f := .glo "_law_walk") rfl), F⟩
  f__law_undoing := by obtain ⟨fd, F⟩ := c.t.d.def_ 38 (d := ⟨("_law_undoing", none), "_law_undoing", "_law_undoing", defArgs (top 51), defBody (top 51), defScope (top 51), [], []⟩) rfl; exact ⟨_, fd, He.glo_ok X G (c.t.d.fact 38 (f := .glo "_law_undoing") rfl), F⟩
  f__law_is_int := by obtain ⟨fd, F⟩ := c.t.d.def_ 39 (d := ⟨("_law_is_int", none), "_law_is_int", "_law_is_int", defArgs (top 52), defBody (top 52), defScope (top 52), [], []⟩) rfl; exact ⟨_, fd, He.glo_ok X G (c.t.d.fact 39 (f := .glo "_law_is_int") rfl), F⟩
  f__law_is_word := by obtain ⟨fd, F⟩ := c.t.d.def_ 40 (d := ⟨("_law_is_word", none), "_law_is_word", "_law_is_word", defArgs (top 53), defBody (top 53), defScope (top 53), [], []⟩) rfl; exact ⟨_, fd, He.glo_ok X G (c.t.d.fact 40 (f := .glo "_law_is_word") rfl), F⟩
  f__law_is_part := by obtain ⟨fd, F⟩ := c.t.d.def_ 41 (d := ⟨("_law_is_part", none), "_law_is_part", "_law_is_part", defArgs (top 54), defBody (top 54), defScope (top 54), [], []⟩) rfl; exact ⟨_, fd, He.glo_ok X G (c.t.d.fact 41 (f := .glo "_law_is_part") rfl), F⟩
  f__law_is_plan := by obtain ⟨fd, F⟩ := c.t.d.def_ 42 (d := ⟨("_law_is_plan", none), "_law_is_plan", "_law_is_plan", defArgs (top 55), defBody (top 55), defScope (top 55), [], []⟩) rfl; exact ⟨_, fd, He.glo_ok X G (c.t.d.fact 42 (f := .glo "_law_is_plan") rfl), F⟩
  f_law := by obtain ⟨fd, F⟩ := c.t.d.def_ 43 (d := ⟨("law", none), "law", "law", defArgs (top 56), defBody (top 56), defScope (top 56), [], []⟩) rfl; exact ⟨_, fd, He.glo_ok X G (c.t.d.fact 43 (f := .glo "law") rfl), F⟩
  h_all := He.free_ok X G (c.t.d.fact 44 (f := .free "all") rfl)
  h_bool := He.free_ok X G (c.t.d.fact 45 (f := .free "bool") rfl)
  h_int := He.free_ok X G (c.t.d.fact 46 (f := .free "int") rfl)
  h_isinstance := He.free_ok X G (c.t.d.fact 47 (f := .free "isinstance") rfl)
  h_len := He.free_ok X G (c.t.d.fact 48 (f := .free "len") rfl)
  h_list := He.free_ok X G (c.t.d.fact 49 (f := .free "list") rfl)
  h_max := He.free_ok X G (c.t.d.fact 50 (f := .free "max") rfl)
  h_min := He.free_ok X G (c.t.d.fact 51 (f := .free "min") rfl)
  h_range := He.free_ok X G (c.t.d.fact 52 (f := .free "range") rfl)
  h_str := He.free_ok X G (c.t.d.fact 53 (f := .free "str") rfl)
  h_sum := He.free_ok X G (c.t.d.fact 54 (f := .free "sum") rfl)
  h_tuple := He.free_ok X G (c.t.d.fact 55 (f := .free "tuple") rfl)
  k_SMALL := He.str_ok X G (c.t.d.fact 56 (f := .str "SMALL" "abcdefghijklmnopqrstuvwxyz") rfl)
  k_MOST_WORD := He.int_ok X G (c.t.d.fact 57 (f := .int "MOST_WORD" 8) rfl)
  k_MOST_NESTED := He.int_ok X G (c.t.d.fact 58 (f := .int "MOST_NESTED" 120) rfl)
  k_MOST_ITEMS := He.int_ok X G (c.t.d.fact 59 (f := .int "MOST_ITEMS" 5000) rfl)
  d_LENGTHS := by obtain ⟨es, n, kd⟩ := c.t.tab 0 (t := (fun K => He.ga K "LENGTHS", ["swap", "join", "split", "fold", "unfold"])) rfl; exact tabAt_of X G (c.t.d.fact 60 (f := .glo "LENGTHS") rfl) kd (kvs := kv_LENGTHS) (by have e := c.more; simp only [exH, Bool.and_eq_true] at e; first | exact e | (repeat (first | exact e.2 | exact e.1 | (replace e := e.1)))) rfl
end K27
end Dl
open PySem PySem.W PySem.Calls PyProof.Rows
theorem PySem.Challenge.cw_sealedplans_k27_whole_steps_by_own_rules_holds : PySem.Challenge.rw_sealedplans_k27_whole_steps_by_own_rules.Holds := by
  w_on; o_law
  refine HandSHeadRun.head_any (r := OpenLaw.row PySem.Challenge.rw_sealedplans_k27_whole_steps_by_own_rules) (q := view (OpenLaw.row PySem.Challenge.rw_sealedplans_k27_whole_steps_by_own_rules).prog [56]) (H := Dl.K27.hkH) (ob := Dl.K27.obH) (M := 6000) (loose := Dl.K27.looseH) (d := HandSHeadRun.topDef (OpenLaw.row PySem.Challenge.rw_sealedplans_k27_whole_steps_by_own_rules).prog 56) (kwd := []) Dl.K27.obH_eq
    (by kernel_rfl) (fun s => by kernel_rfl) Dl.K27.runH (by kernel_rfl) (by kernel_rfl) (by kernel_rfl) (by rfl) (by first | assumption | decide +kernel) (by decide +kernel) ⟨rfl, rfl, rfl, rfl, rfl, by decide +kernel⟩ ?hw ?hc
  case hw => w_witness2
  case hc =>
    refine Dl.walk_ofM (l := PySem.Challenge.rw_sealedplans_k27_whole_steps_by_own_rules) (n := 63) (k := 151) (x := "_law_script") (fa := Dl.K27.faH) (fn := Dl.K27.fnH) (ts := Dl.K27.tsH) (tq := Dl.K27.tqH) (ex := Dl.K27.exH) rfl (by decide) (by kernel_rfl) ⟨rfl, by decide, by decide⟩ ?F
    intro w K mg fa h KX c G hmg0
    have hmg : mg ("law" : PySem.Str) = some (.ref fa) := by
      have e : (HandSHeadRun.topDef (OpenLaw.row PySem.Challenge.rw_sealedplans_k27_whole_steps_by_own_rules).prog 56).name = ("law" : PySem.Str) := by kernel_rfl
      rw [← e]
      exact hmg0
    have E := Dl.K27.factsH KX G c
    obtain ⟨f, fd, hf, F⟩ := E.f_law
    have ef : f = fa := Dl.ref_inj (hf.symm.trans hmg)
    subst ef
    have hap : Dl.apart K Dl.K27.tfH = true := by
      have e := c.more
      simp only [Dl.K27.exH, Bool.and_eq_true] at e
      first
        | exact e
        | (repeat (first | exact e.2 | exact e.1 | (replace e := e.1)))
    have b := L2.FunD.bindsA (ps := ["_law_script"]) F fun _ _ _ _ _ _ us hl => match us, hl with | [_], _ => rfl
    refine ⟨fd, Dl.spD ⟨K, mg, Dl.K27.T0 (Dl.ctsOf K Dl.K27.tqH)⟩ ((Dl.Den Dl.K27.tbl 151).call 100), fun s v => b s [v] rfl, fun H a ns hl hT hS => ?_, fun base _ _ hB => ?_⟩
    · obtain ⟨w', e⟩ := Dl.K27.law_true ns
      exact Dl.law_spT (Dl.tabs_nil hT) hS (Nat.le_trans hl (by decide)) e
    · exact Dl.K27.fo_law (P := (PySem.Challenge.rw_sealedplans_k27_whole_steps_by_own_rules).prog) (base := base) E (Dl.K27.lvl E ⟨hB, Dl.cts_un hap⟩ 150) F
