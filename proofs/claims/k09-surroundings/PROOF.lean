import PyProof.Rows.All
import Wide.All
import OpenK.AllK
import Wide.FinOn
import HandS.ForMost
import HandS.ForExc
import HandS.Nested
import HandS.IsInst
import HandS.Flow
import HandS.Style
import HandS.TupAny
import HandS.Wide
import HandS.Defaults
import KE.DataCmp
import HandS.HeadEnd
import HandS.HeadHook3
import HandS.Comp
import HandS.Iter
import HandS.List
import HandS.DictComp
import HandS.Conv
import HandS.HeadHook4
import HandS.HeadWalk
import HandS.SortKw
import HandS.Keys
import KE.GoesEnum
import HandS.Head0
import HandS.Head1
import HandS.Head2
import HandS.HeadHook1
import HandS.HeadHook2
import PySem.Challenge.RW_sealedplans_k09_whole_likeness_in_all_su
set_option Elab.async false
set_option linter.all false
set_option maxRecDepth 100000
set_option maxHeartbeats 4000000
/-! DlA: plain data, worlds, the relations between the abstract state and the hand layer's heap. -/
namespace Dl
abbrev St := L2.St
open PySem PySem.Spec PyProof.Rows L2 NdefX
/-! ### data -/
inductive D where
  | non | bl (b : Bool) | int (i : Int) | str (s : Str) | lst (l : List D) | tup (l : List D)
mutual
def D.py : D → PyData
  | .non => .none
  | .bl b => .bool b
  | .int i => .int i
  | .str s => .str s
  | .lst l => .list (D.pyAll l)
  | .tup l => .tuple (D.pyAll l)
def D.pyAll : List D → List PyData
  | [] => []
  | d :: l => d.py :: D.pyAll l
end
/-- what stands in a slot, what an expression gives -/
inductive RV where
  | dat (d : D) | fresh (l : List D) | bor (i : Nat) (l : List D) | wref (k : Nat)
inductive Sl where
  | un | dat (d : D) | own (l : List D) | wref (k : Nat)
/-- the objects that are changed through references -/
inductive WO where
  | lst (l : List D) | clo (i : Nat) (caps : List D)
abbrev World := List WO
abbrev Ev := List Sl
structure Exn where
  cls : Str
  fld : Option (Str × D)
inductive Out (α : Type) where
  | ok (a : α) (w : World) | exc (x : Exn) (env : Ev) (w : World) | stuck
def Out.bind {α β : Type} (o : Out α) (f : α → World → Out β) : Out β := match o with
  | .ok a w => f a w
  | .exc x e w => .exc x e w
  | .stuck => .stuck
@[simp] theorem bind_ok {α β : Type} (a : α) (w : World) (f : α → World → Out β) : (Out.ok a w).bind f = f a w := rfl
@[simp] theorem bind_exc {α β : Type} (x : Exn) (e : Ev) (w : World) (f : α → World → Out β) : (Out.exc x e w : Out α).bind f = .exc x e w := rfl
@[simp] theorem bind_stuck {α β : Type} (f : α → World → Out β) : (Out.stuck : Out α).bind f = .stuck := rfl
theorem bind_assoc {α β γ : Type} (o : Out α) (f : α → World → Out β) (g : β → World → Out γ) : (o.bind f).bind g = o.bind fun a w => (f a w).bind g := by cases o <;> rfl
abbrev Ex := Ev → World → Out RV
/-! ### how data lie in the heap -/
def SOk (s : Str) : Prop := PyData.strOk s = true ∧ s.length ≤ sizeLine
inductive Rp (K : PySem.W.Frag) (F : Hp) : V → D → Prop
  | non : Rp K F .non .non
  | bl (b : Bool) : Rp K F (.bl b) (.bl b)
  | int (i : Int) : Rp K F (.int i) (.int i)
  | str (s : Str) (h : SOk s) : Rp K F (.str s) (.str s)
  | lst {a : Addr} {vs : List V} {l : List D} (hz : l.length ≤ sizeLine) : SqL K F a vs → Paired (Rp K F) vs l → Rp K F (.ref a) (.lst l)
  | tup {a : Addr} {vs : List V} {l : List D} (hz : l.length ≤ sizeLine) : SqT K F a vs → Paired (Rp K F) vs l → Rp K F (.ref a) (.tup l)
theorem rd_mono {H H' : Hp} {a : Addr} {u : HO} (e : Same H H') (h : Rd H a u) : Rd H' a u := by
  rcases h with h | ⟨o, h⟩
  · exact .inl (e _ _ h)
  · exact .inr ⟨o, e _ _ h⟩
theorem sqT_mono {K : PySem.W.Frag} {H H' : Hp} {a : Addr} {xs : List V} (e : Same H H') (h : SqT K H a xs) : SqT K H' a xs := by
  rcases h with (h | ⟨o, h⟩) | h
  · exact .inl (.inl (e _ _ h))
  · exact .inl (.inr ⟨o, e _ _ h⟩)
  · exact .inr h
mutual
theorem Rp.mono {K : PySem.W.Frag} {F F' : Hp} (e : Same F F') : ∀ (d : D) (v : V), Rp K F v d → Rp K F' v d
  | .non, _, h => by cases h; exact .non
  | .bl b, _, h => by cases h; exact .bl b
  | .int i, _, h => by cases h; exact .int i
  | .str s, _, h => by cases h with | str _ q => exact .str s q
  | .lst l, _, h => by
    cases h with
    | lst hz hs hp => exact .lst hz (e.seq hs) (Rp.monoAll e l _ hp)
  | .tup l, _, h => by
    cases h with
    | tup hz hs hp => exact .tup hz (sqT_mono e hs) (Rp.monoAll e l _ hp)
theorem Rp.monoAll {K : PySem.W.Frag} {F F' : Hp} (e : Same F F') : ∀ (l : List D) (vs : List V), Paired (Rp K F) vs l → Paired (Rp K F') vs l
  | [], _, h => by cases h; exact .nil
  | d :: l, _, h => by
    cases h with
    | cons h1 h2 => exact .cons (Rp.mono e d _ h1) (Rp.monoAll e l _ h2)
end
mutual
theorem Rp.dp {K : PySem.W.Frag} {F : Hp} : ∀ (d : D) (v : V), Rp K F v d → Dp K F v d.py
  | .non, _, h => by cases h; exact .non
  | .bl b, _, h => by cases h; exact .bl b
  | .int i, _, h => by cases h; exact .int i
  | .str s, _, h => by cases h; exact .str s
  | .lst l, _, h => by
    cases h with
    | lst hz hs hp => exact .lst hs (Rp.dpAll l _ hp)
  | .tup l, _, h => by
    cases h with
    | tup hz hs hp => exact .tup hs (Rp.dpAll l _ hp)
theorem Rp.dpAll {K : PySem.W.Frag} {F : Hp} : ∀ (l : List D) (vs : List V), Paired (Rp K F) vs l → DpAll K F vs (D.pyAll l)
  | [], _, h => by cases h; exact .nil
  | d :: l, _, h => by
    cases h with
    | cons h1 h2 => exact .cons (Rp.dp d _ h1) (Rp.dpAll l _ h2)
end
mutual
theorem Rp.lay {K : PySem.W.Frag} {F : Hp} : ∀ (d : D) (v : V), Rp K F v d → PyData.canLay0 d.py = true
  | .non, _, _ => rfl
  | .bl _, _, _ => rfl
  | .int _, _, _ => rfl
  | .str _, _, h => by cases h with | str _ q => exact q.1
  | .lst l, _, h => by
    cases h with
    | lst hz hs hp => exact Rp.layAll l _ hp
  | .tup l, _, h => by
    cases h with
    | tup hz hs hp => exact Rp.layAll l _ hp
theorem Rp.layAll {K : PySem.W.Frag} {F : Hp} : ∀ (l : List D) (vs : List V), Paired (Rp K F) vs l → PyData.canLayAll0 (D.pyAll l) = true
  | [], _, _ => rfl
  | d :: l, _, h => by
    cases h with
    | cons h1 h2 =>
      show (PyData.canLay0 d.py && PyData.canLayAll0 (D.pyAll l)) = true
      rw [Rp.lay d _ h1, Rp.layAll l _ h2]
      rfl
end
namespace Pr
variable {α β : Type} {F : α → β → Prop}
theorem get : ∀ {l₁ : List α} {l₂ : List β} {i : Nat} {b : β}, Paired F l₁ l₂ → l₂[i]? = some b → ∃ a, l₁[i]? = some a ∧ F a b
  | _, _, _, _, .nil, e => by simp at e
  | _, _, 0, _, .cons r _, e => by simp at e; subst e; exact ⟨_, rfl, r⟩
  | _, _, i + 1, b, .cons _ t, e => by
    obtain ⟨u, h1, h2⟩ := get (i := i) (b := b) t (by simpa using e)
    exact ⟨u, by simpa using h1, h2⟩
theorem getL : ∀ {l₁ : List α} {l₂ : List β} {i : Nat} {a : α}, Paired F l₁ l₂ → l₁[i]? = some a → ∃ b, l₂[i]? = some b ∧ F a b
  | _, _, _, _, .nil, e => by simp at e
  | _, _, 0, _, .cons r _, e => by simp at e; subst e; exact ⟨_, rfl, r⟩
  | _, _, i + 1, b, .cons _ t, e => by
    obtain ⟨u, h1, h2⟩ := getL (i := i) (a := b) t (by simpa using e)
    exact ⟨u, by simpa using h1, h2⟩
theorem append : ∀ {xs ys : List α} {us ws : List β}, Paired F xs us → Paired F ys ws → Paired F (xs ++ ys) (us ++ ws)
  | _, _, _, _, .nil, s => s
  | _, _, _, _, .cons r t, s => .cons r (append t s)
theorem take : ∀ {xs : List α} {us : List β} (n : Nat), Paired F xs us → Paired F (xs.take n) (us.take n)
  | _, _, 0, _ => .nil
  | _, _, _ + 1, .nil => .nil
  | _, _, n + 1, .cons r t => .cons r (take n t)
theorem drop : ∀ {xs : List α} {us : List β} (n : Nat), Paired F xs us → Paired F (xs.drop n) (us.drop n)
  | _, _, 0, r => r
  | _, _, _ + 1, .nil => .nil
  | _, _, n + 1, .cons _ t => drop n t
theorem set {x : α} {u : β} (r : F x u) : ∀ {xs : List α} {us : List β} (i : Nat), Paired F xs us → Paired F (xs.set i x) (us.set i u)
  | _, _, _, .nil => .nil
  | _, _, 0, .cons _ t => .cons r t
  | _, _, i + 1, .cons q t => .cons q (set r i t)
end Pr
/-- a def or a lambda within a def: ps its parameters, fr what it captures -/
structure ND where
  name : Str
  qual : Str
  params : Arguments
  body : List Stmt ⊕ Expr
  scope : Scope
  ps : List Str
  fr : List Str
/-- the tables of code objects, the defs within defs -/
structure Tbs where
  tabs : List NTab
  nd : Nat → Option ND
/-- the text: what the top has written, tables -/
structure Tx where
  K : PySem.W.Frag
  mg : Str → Option Value
  T : Tbs
/-- a cell's object, as it is -/
def CellO (c : Addr) (o : Obj) : HO := .ext fun h => h.get? c = some o
/-- a lambda's object -/
def LamO (f : Addr) (nd : ND) (e : Expr) (cl : List (Str × Addr)) (c' : Addr) : HO := .ext fun h => ∃ pm ctv : Value, h.get? f = some (PySem.W.kla_obj nd.name nd.qual nd.params e nd.scope cl pm c' ctv)
def ND.nf (nd : ND) (b : List Stmt) (cl : List (Str × Addr)) (c' : Addr) : NF := ⟨nd.name, nd.qual, nd.params, b, nd.scope, cl, c'⟩
def CloO (f : Addr) (nd : ND) (cl : List (Str × Addr)) (c' : Addr) : HO := match nd.body with
  | .inl b => FnO f (nd.nf b cl c')
  | .inr e => LamO f nd e cl c'
theorem cloO_ext (f : Addr) (nd : ND) (cl : List (Str × Addr)) (c' : Addr) : ∃ φ, CloO f nd cl c' = .ext φ := by
  unfold CloO
  split
  · exact ⟨_, rfl⟩
  · exact ⟨_, rfl⟩
/-- a closure's cells and what stands in them -/
structure CapA (K : PySem.W.Frag) (F H : Hp) (cl : List (Str × Addr)) (fr : List Str) (caps : List D) : Prop where
  len : caps.length = fr.length
  keys : ∀ y c, cl.lookup y = some c → y ∈ fr
  inj : ∀ x y c, cl.lookup x = some c → cl.lookup y = some c → x = y
  at_ : ∀ (j : Nat) (y : Str) (d : D), fr[j]? = some y → caps[j]? = some d → ∃ c o u v, cl.lookup y = some c ∧ F c = none ∧ H c = some (CellO c o) ∧ o.data = .cell (some u) ∧ RelV v u ∧ Rp K F v d
structure CloAt (X : Tx) (F H : Hp) (m : Addr) (i : Nat) (caps : List D) : Prop where
  ex : ∃ (nd : ND) (cl : List (Str × Addr)) (c' : Addr), X.T.nd i = some nd ∧ H m = some (CloO m nd cl c') ∧ H c' = some (LamX.CodeO c' nd.qual) ∧ CapA X.K F H cl nd.fr caps
/-- what is known of one object alone stays -/
def KeepE (H H' : Hp) : Prop := ∀ a φ, H a = some (.ext φ) → H' a = some (.ext φ)
theorem KeepE.of (h : Same H H') : KeepE H H' := fun a φ e => h a _ e
theorem keepE_upd {H : Hp} {p : Addr} {vs ws : List V} (e : H p = some (.lst vs)) : KeepE H (upd H p (.lst ws)) := fun a φ q => by
  rw [upd_ne (fun z => by rw [z, e] at q; cases q)]
  exact q
theorem CloAt.keep {X : Tx} {F F' H H' : Hp} {m : Addr} {i : Nat} {caps : List D} (h : CloAt X F H m i caps) (k : KeepE H H') (f : Same F F') (nf : ∀ a, H a ≠ none → F a = none → F' a = none) : CloAt X F' H' m i caps := by
  obtain ⟨nd, cl, c', e1, e2, e3, cp⟩ := h.ex
  obtain ⟨φ, eφ⟩ := cloO_ext m nd cl c'
  refine ⟨nd, cl, c', e1, by rw [eφ]; exact k _ _ (by rw [← eφ]; exact e2), k _ _ e3, cp.len, cp.keys, cp.inj, fun j y d h1 h2 => ?_⟩
  obtain ⟨c, o, u, v, q1, q0, q2, q3, q4, q5⟩ := cp.at_ j y d h1 h2
  exact ⟨c, o, u, v, q1, nf c (by rw [q2]; simp) q0, k _ _ q2, q3, q4, q5.mono f⟩
theorem CloAt.keep' {X : Tx} {F F' H : Hp} {m : Addr} {i : Nat} {caps : List D} (h : CloAt X F H m i caps) (f : Same F F') (nf : ∀ c o, H c = some (CellO c o) → F' c = F c) : CloAt X F' H m i caps := by
  obtain ⟨nd, cl, c', e1, e2, e3, cp⟩ := h.ex
  refine ⟨nd, cl, c', e1, e2, e3, cp.len, cp.keys, cp.inj, fun j y d h1 h2 => ?_⟩
  obtain ⟨c, o, u, v, q1, q0, q2, q3, q4, q5⟩ := cp.at_ j y d h1 h2
  exact ⟨c, o, u, v, q1, by rw [nf c o q2]; exact q0, q2, q3, q4, q5.mono f⟩
theorem CloAt.there {X : Tx} {F H : Hp} {m : Addr} {i : Nat} {caps : List D} (h : CloAt X F H m i caps) : H m ≠ none := by
  obtain ⟨nd, cl, c', e1, e2, e3, cp⟩ := h.ex
  rw [e2]
  simp
def WO.isAt (X : Tx) (F H : Hp) (m : Addr) : WO → Prop
  | .lst l => l.length ≤ sizeLine ∧ ∃ vs, H m = some (.lst vs) ∧ Paired (Rp X.K F) vs l
  | .clo i caps => CloAt X F H m i caps
structure WRel (X : Tx) (F H : Hp) (M : List Addr) (w : World) : Prop where
  nd : M.Nodup
  at_ : Paired (fun m o => F m = none ∧ WO.isAt X F H m o) M w
def IsE (o : HO) : Prop := ∃ φ, o = .ext φ
def NoTbl (F : Hp) : Prop := ∀ a ps, F a ≠ some (.tbl ps)
/-- what happens between two moments: frozen things stay, all stays but the world's objects and the code tables; frozen new things were not there; the world grows by new objects -/
structure Stp (H F : Hp) (M : List Addr) (H' F' : Hp) (M' : List Addr) : Prop where
  fg : Same F F'
  fr : ∀ a o, (a ∈ M → IsE o) → (∀ ps, o ≠ .tbl ps) → H a = some o → H' a = some o
  th : ∀ a, H a ≠ none → H' a ≠ none
  nf : ∀ a, H a ≠ none → F a = none → F' a = none
  mw : ∃ nw, M' = M ++ nw ∧ ∀ m ∈ nw, H m = none
theorem Stp.refl {H F : Hp} {M : List Addr} : Stp H F M H F M := ⟨Same.refl _, fun _ _ _ _ h => h, fun _ h => h, fun _ _ h => h, [], by simp, by simp⟩
theorem Stp.trans {H F H1 F1 H2 F2 : Hp} {M M1 M2 : List Addr} (a : Stp H F M H1 F1 M1) (b : Stp H1 F1 M1 H2 F2 M2) : Stp H F M H2 F2 M2 where
  fg := a.fg.trans b.fg
  fr := fun c o hM ht h => by
    obtain ⟨nw, e, hn⟩ := a.mw
    refine b.fr c o ?_ ht (a.fr c o hM ht h)
    intro z
    rw [e, List.mem_append] at z
    rcases z with z | z
    · exact hM z
    · rw [hn c z] at h; cases h
  th := fun c h => b.th c (a.th c h)
  nf := fun c h hF => b.nf c (a.th c h) (a.nf c h hF)
  mw := by
    obtain ⟨n1, e1, h1⟩ := a.mw
    obtain ⟨n2, e2, h2⟩ := b.mw
    refine ⟨n1 ++ n2, by rw [e2, e1, List.append_assoc], fun m hm => ?_⟩
    rcases List.mem_append.mp hm with z | z
    · exact h1 m z
    · cases q : H m with
      | none => rfl
      | some o => exact absurd (h2 m z) (a.th m (by rw [q]; simp))
/-- the moment at a def's entry -/
structure Base where
  H : Hp
  F : Hp
  M : List Addr
def Sl.isAt (X : Tx) (B : Base) (H F : Hp) (M : List Addr) (O : Nat → Addr) (i : Nat) (x : Option (Option V)) : Sl → Prop
  | .un => True
  | .dat d => ∃ v, x = some (some v) ∧ Rp X.K F v d
  | .own l => x = some (some (.ref (O i))) ∧ B.H (O i) = none ∧ F (O i) = none ∧ O i ∉ M ∧ l.length ≤ sizeLine ∧ ∃ vs, H (O i) = some (.lst vs) ∧ Paired (Rp X.K F) vs l
  | .wref k => ∃ m, M[k]? = some m ∧ x = some (some (.ref m))
/-- the state -/
structure SR (X : Tx) (B : Base) (env : Ev) (w : World) (σ : St) (H F : Hp) (O : Nat → Addr) (M : List Addr) : Prop where
  len : σ.length = env.length
  fh : Same F H
  nt : NoTbl F
  st : Stp B.H B.F B.M H F M
  wr : WRel X F H M w
  tb : TabsN X.T.tabs H
  sl : ∀ (i : Nat) (s : Sl), env[i]? = some s → s.isAt X B H F M O i σ[i]?
  inj : ∀ (i j : Nat) (li lj : List D), env[i]? = some (.own li) → env[j]? = some (.own lj) → O i = O j → i = j
/-- the value of an expression: Hs, the heap ahead of it -/
def RV.isAt (X : Tx) (Hs : Hp) (env : Ev) (O : Nat → Addr) (H F : Hp) (M : List Addr) (v : V) : RV → Prop
  | .dat d => Rp X.K F v d
  | .fresh l => l.length ≤ sizeLine ∧ ∃ p vs, v = .ref p ∧ Hs p = none ∧ F p = none ∧ p ∉ M ∧ H p = some (.lst vs) ∧ Paired (Rp X.K F) vs l
  | .bor i l => env[i]? = some (.own l) ∧ v = .ref (O i)
  | .wref k => ∃ m, M[k]? = some m ∧ v = .ref m
theorem mem_of_pfx {M M' nw : List Addr} {k : Nat} {m : Addr} (e : M' = M ++ nw) (h : M[k]? = some m) : M'[k]? = some m := by
  rw [e, List.getElem?_append_left]
  · exact h
  · exact (List.getElem?_eq_some_iff.mp h).1
section
variable {X : Tx} {B : Base} {env : Ev} {w w' : World} {σ : St} {H F H' F' Hs : Hp} {O : Nat → Addr} {M M' : List Addr} {v : V} {r : RV}
theorem notM' (st : Stp H F M H' F' M') {p : Addr} (hM : p ∉ M) (hH : H p ≠ none) : p ∉ M' := by
  obtain ⟨nw, e, hn⟩ := st.mw
  rw [e, List.mem_append]
  rintro (z | z)
  · exact hM z
  · exact hH (hn p z)
/-- the state, behind a step that leaves the slots -/
theorem SR.step (s : SR X B env w σ H F O M) (st : Stp H F M H' F' M') (sm : Same F' H') (nt : NoTbl F') (wr : WRel X F' H' M' w') (tb : TabsN X.T.tabs H') : SR X B env w' σ H' F' O M' := by
  refine ⟨s.len, sm, nt, s.st.trans st, wr, tb, fun i sl e => ?_, s.inj⟩
  have h := s.sl i sl e
  obtain ⟨nw, em, _⟩ := id st.mw
  cases sl with
  | un => trivial
  | dat d => obtain ⟨v, e1, e2⟩ := h; exact ⟨v, e1, e2.mono st.fg⟩
  | own l =>
    obtain ⟨e1, e2, e3, e4, ez, vs, e5, e6⟩ := h
    have hn : H (O i) ≠ none := by rw [e5]; simp
    exact ⟨e1, e2, st.nf _ hn e3, notM' st e4 hn, ez, vs, st.fr _ _ (fun z => absurd z e4) (fun _ z => by cases z) e5, Rp.monoAll st.fg _ _ e6⟩
  | wref k => obtain ⟨m, e1, e2⟩ := h; exact ⟨m, mem_of_pfx em e1, e2⟩
theorem RV.step (h : r.isAt X Hs env O H F M v) (st : Stp H F M H' F' M') : r.isAt X Hs env O H' F' M' v := by
  obtain ⟨nw, em, _⟩ := id st.mw
  cases r with
  | dat d => exact Rp.mono st.fg _ _ h
  | fresh l =>
    obtain ⟨ez, p, vs, e1, e2, e3, e4, e5, e6⟩ := h
    have hn : H p ≠ none := by rw [e5]; simp
    exact ⟨ez, p, vs, e1, e2, st.nf _ hn e3, notM' st e4 hn, st.fr _ _ (fun z => absurd z e4) (fun _ z => by cases z) e5, Rp.monoAll st.fg _ _ e6⟩
  | bor i l => exact h
  | wref k => obtain ⟨m, e1, e2⟩ := h; exact ⟨m, mem_of_pfx em e1, e2⟩
/-- from a later start to an earlier one -/
theorem RV.since {H0 : Hp} (h : r.isAt X Hs env O H F M v) (e : ∀ a, H0 a ≠ none → Hs a ≠ none) : r.isAt X H0 env O H F M v := by
  cases r with
  | fresh l =>
    obtain ⟨ez, p, vs, e1, e2, e3⟩ := h
    refine ⟨ez, p, vs, e1, ?_, e3⟩
    cases q : H0 p with
    | none => rfl
    | some o => exact absurd e2 (e p (by rw [q]; simp))
  | dat d => exact h
  | bor i l => exact h
  | wref k => exact h
end
/-! ### pure extensions: what an operation does that makes new things alone -/
structure Xt (H F H' F' : Hp) : Prop where
  hh : Same H H'
  ff : Same F F'
  fh : Same F' H'
  nf : ∀ a, H a ≠ none → F a = none → F' a = none
  nt : NoTbl F'
section
variable {X : Tx} {H F H' F' : Hp} {M : List Addr} {w : World} {p : Addr}
theorem Xt.refl (h : Same F H) (nt : NoTbl F) : Xt H F H F := ⟨Same.refl _, Same.refl _, h, fun _ _ e => e, nt⟩
theorem Xt.trans {H2 F2 : Hp} (a : Xt H F H' F') (b : Xt H' F' H2 F2) : Xt H F H2 F2 :=
  ⟨a.hh.trans b.hh, a.ff.trans b.ff, b.fh, fun c h e => b.nf c (fun z => h (a.hh.free z)) (a.nf c h e), b.nt⟩
theorem Xt.stp (x : Xt H F H' F') : Stp H F M H' F' M :=
  ⟨x.ff, fun a o _ _ h => x.hh a o h, fun a h z => h (x.hh.free z), x.nf, [], by simp, by simp⟩
theorem same_upd {o : HO} (h : H p = none) : Same H (upd H p o) := fun b u q => by rw [upd_ne (ne_of_none q h)]; exact q
/-- a new list -/
theorem Xt.newL {vs : List V} (h : Same F H) (nt : NoTbl F) (hp : H p = none) : Xt H F (upd H p (.lst vs)) F :=
  ⟨same_upd hp, Same.refl _, h.trans (same_upd hp), fun _ _ e => e, nt⟩
/-- a new frozen thing -/
theorem Xt.newF {o : HO} (h : Same F H) (nt : NoTbl F) (hp : H p = none) (ho : ∀ ps, o ≠ .tbl ps) : Xt H F (upd H p o) (upd F p o) := by
  have hF : F p = none := h.free hp
  refine ⟨same_upd hp, same_upd hF, fun b u q => ?_, fun a hn e => ?_, fun a ps q => ?_⟩
  · by_cases e : b = p
    · subst e; rw [upd_same] at q ⊢; exact q
    · rw [upd_ne e] at q ⊢; exact h _ _ q
  · by_cases z : a = p
    · subst z; exact absurd hp hn
    · rw [upd_ne z]; exact e
  · by_cases z : a = p
    · subst z; rw [upd_same] at q; exact ho ps (Option.some.inj q)
    · rw [upd_ne z] at q; exact nt a ps q
theorem WRel.keep (wr : WRel X F H M w) (x : Xt H F H' F') : WRel X F' H' M w := by
  refine ⟨wr.nd, Paired.mapP wr.at_ fun m o h => ?_⟩
  obtain ⟨h1, h2⟩ := h
  cases o with
  | lst l =>
    obtain ⟨ez, vs, e1, e2⟩ := h2
    exact ⟨x.nf m (by rw [e1]; simp) h1, ez, vs, x.hh _ _ e1, Rp.monoAll x.ff _ _ e2⟩
  | clo i caps => exact ⟨x.nf m (CloAt.there h2) h1, CloAt.keep h2 (KeepE.of x.hh) x.ff x.nf⟩
theorem SR.xt {B : Base} {env : Ev} {σ : St} {O : Nat → Addr} (s : SR X B env w σ H F O M) (x : Xt H F H' F') : SR X B env w σ H' F' O M :=
  s.step x.stp x.fh x.nt (s.wr.keep x) (s.tb.ext x.hh)
/-- a fresh list is frozen -/
theorem SR.freeze {B : Base} {env : Ev} {σ : St} {O : Nat → Addr} {vs : List V} (s : SR X B env w σ H F O M) (hB : B.H p = none) (hM : p ∉ M) (hO : ∀ i l, env[i]? = some (.own l) → O i ≠ p) (hp : H p = some (.lst vs)) (hF : F p = none) : SR X B env w σ H (upd F p (.lst vs)) O M := by
  have fg : Same F (upd F p (.lst vs)) := same_upd hF
  refine ⟨s.len, fun b u q => ?_, fun a ps q => ?_, ⟨s.st.fg.trans fg, s.st.fr, s.st.th, fun a hn e => ?_, s.st.mw⟩, ⟨s.wr.nd, ?_⟩, s.tb, fun i sl e => ?_, s.inj⟩
  · by_cases e : b = p
    · subst e; rw [upd_same] at q; rw [hp]; exact q
    · rw [upd_ne e] at q; exact s.fh _ _ q
  · by_cases z : a = p
    · subst z; rw [upd_same] at q; cases q
    · rw [upd_ne z] at q; exact s.nt a ps q
  · by_cases z : a = p
    · subst z; exact absurd hB hn
    · rw [upd_ne z]; exact s.st.nf a hn e
  · have go : ∀ {M : List Addr} {w : World}, p ∉ M → Paired (fun m o => F m = none ∧ WO.isAt X F H m o) M w → Paired (fun m o => upd F p (.lst vs) m = none ∧ WO.isAt X (upd F p (.lst vs)) H m o) M w := by
      intro M w hM h
      induction h with
      | nil => exact .nil
      | @cons m o _ _ h1 _ ih =>
        refine .cons ⟨?_, ?_⟩ (ih fun z => hM (List.mem_cons_of_mem _ z))
        · rw [upd_ne (fun z => hM (by rw [← z]; exact List.mem_cons_self))]; exact h1.1
        · cases o with
          | lst l => obtain ⟨_, ez, ws, e1, e2⟩ := h1; exact ⟨ez, ws, e1, Rp.monoAll fg _ _ e2⟩
          | clo i caps => exact CloAt.keep' h1.2 fg (fun c o e => by rw [upd_ne (fun z => by rw [z, hp] at e; cases e)])
    exact go hM s.wr.at_
  · have h := s.sl i sl e
    cases sl with
    | un => trivial
    | dat d => obtain ⟨v, e1, e2⟩ := h; exact ⟨v, e1, e2.mono fg⟩
    | own l =>
      obtain ⟨e1, e2, e3, e4, ez, ws, e5, e6⟩ := h
      exact ⟨e1, e2, by rw [upd_ne (hO i l e)]; exact e3, e4, ez, ws, e5, Rp.monoAll fg _ _ e6⟩
    | wref k => exact h
end
end Dl
/-! DlB: the judgement of expressions; names, constants, operators, tests, displays, calls of built-ins. -/
namespace Dl
open PySem PySem.Spec PyProof.Rows L2 NdefX
/-! ### what is wanted behind -/
def Exn.isAt (X : Tx) (F H : Hp) (cls : Value) (d : Option Addr) (x : Exn) : Prop :=
  ∃ C, X.mg x.cls = some (.ref C) ∧ cls = .ref C ∧ match x.fld with
    | none => d = none
    | some (f, dv) => ∃ dx v, d = some dx ∧ H dx = some (.xd [(f, v)]) ∧ Rp X.K F v dv
def Pst {α : Type} (o : Out α) (g : α → World → Prop) (b : Exn → Ev → World → Prop) : Prop := match o with
  | .ok a w => g a w
  | .exc x e w => b x e w
  | .stuck => False
theorem Pst.bind {α β : Type} {o : Out α} {f : α → World → Out β} {g : β → World → Prop} {b : Exn → Ev → World → Prop} (h : Pst (o.bind f) g b) : Pst o (fun a w => Pst (f a w) g b) b := by cases o <;> exact h
theorem Pst.mono {α : Type} {o : Out α} {g g' : α → World → Prop} {b b' : Exn → Ev → World → Prop} (h : Pst o g b) (hg : ∀ a w, g a w → g' a w) (hb : ∀ x e w, b x e w → b' x e w) : Pst o g' b' := by
  cases o with
  | ok a w => exact hg a w h
  | exc x e w => exact hb x e w h
  | stuck => exact h
theorem Pst.imp {α : Type} {o : Out α} {g g' : α → World → Prop} {b : Exn → Ev → World → Prop} (h : Pst o g b) (hg : ∀ a w, g a w → g' a w) : Pst o g' b := h.mono hg fun _ _ _ z => z
def badX (X : Tx) (B : Base) (Wi : WX) : Exn → Ev → World → Prop := fun x env w => ∀ cls d σ H F O M, SR X B env w σ H F O M → x.isAt X F H cls d → Wi cls d σ H
/-- the reading of an expression whose denotation is e -/
def tD (X : Tx) (Wi : WX) (e : Ex) : TE := fun σ H Q => ∃ B env w F O M, SR X B env w σ H F O M ∧
  Pst (e env w) (fun r w' => ∀ v H' F' M', SR X B env w' σ H' F' O M' → Stp H F M H' F' M' → r.isAt X H env O H' F' M' v → Q v H') (badX X B Wi)
/-- of a test -/
def tT (X : Tx) (Wi : WX) (e : Ev → World → Out Bool) : TT := fun σ H Q => ∃ B env w F O M, SR X B env w σ H F O M ∧
  Pst (e env w) (fun b w' => ∀ H' F' M', SR X B env w' σ H' F' O M' → Stp H F M H' F' M' → Q b H') (badX X B Wi)
/-- of arguments, read as they are -/
def tR (X : Tx) (Wi : WX) (e : Ev → World → Out (List RV)) : TA := fun σ H Q => ∃ B env w F O M, SR X B env w σ H F O M ∧
  Pst (e env w) (fun rs w' => ∀ vs H' F' M', SR X B env w' σ H' F' O M' → Stp H F M H' F' M' → Paired (fun v r => RV.isAt X H env O H' F' M' v r) vs rs → Q vs H') (badX X B Wi)
theorem _root_.L2.PE.impD {X : Cx} {e : Expr} {t t' : TE} (h : PE X e t) (k : ∀ σ H Q, t' σ H Q → t σ H Q) : PE X e t' := ⟨fun pins s σ H Q I q => h.run pins s σ H Q I (k σ H Q q)⟩
theorem _root_.L2.PT.impD {X : Cx} {e : Expr} {t t' : TT} (h : PT X e t) (k : ∀ σ H Q, t' σ H Q → t σ H Q) : PT X e t' := ⟨fun pins s σ H Q I q => h.run pins s σ H Q I (k σ H Q q)⟩
theorem _root_.L2.PW.impD {X : Cx} {e : Expr} {t t' : TT} (h : PW X e t) (k : ∀ σ H Q, t' σ H Q → t σ H Q) : PW X e t' := ⟨fun wh pins s σ H Q I q => h.run wh pins s σ H Q I (k σ H Q q)⟩
theorem _root_.L2.PA.impD {X : Cx} {e : List Expr} {t t' : TA} (h : PA X e t) (k : ∀ σ H Q, t' σ H Q → t σ H Q) : PA X e t' := ⟨fun pos pins s σ H Q I q => h.run pos pins s σ H Q I (k σ H Q q)⟩
theorem _root_.L2.PS.impD {X : Cx} {e : Stmt} {t t' : TS} (h : PS X e t) (k : ∀ D σ H, t' D σ H → t D σ H) : PS X e t' := ⟨fun pins s σ H D I q => h.run pins s σ H D I (k D σ H q)⟩
theorem _root_.L2.PSs.impD {X : Cx} {e : List Stmt} {t t' : TS} (h : PSs X e t) (k : ∀ D σ H, t' D σ H → t D σ H) : PSs X e t' := ⟨fun pins s σ H D I q => h.run pins s σ H D I (k D σ H q)⟩
abbrev Cx.tx (X : Cx) (T : Tbs) : Tx := ⟨X.K, X.mg, T⟩
/-- e denotes d -/
abbrev JE (X : Cx) (T : Tbs) (Wi : WX) (e : Expr) (d : Ex) : Prop := PE X e (tD (Cx.tx X T) Wi d)
abbrev JT (X : Cx) (T : Tbs) (Wi : WX) (e : Expr) (d : Ev → World → Out Bool) : Prop := PT X e (tT (Cx.tx X T) Wi d)
abbrev JW (X : Cx) (T : Tbs) (Wi : WX) (e : Expr) (d : Ev → World → Out Bool) : Prop := PW X e (tT (Cx.tx X T) Wi d)
abbrev JR (X : Cx) (T : Tbs) (Wi : WX) (es : List Expr) (d : Ev → World → Out (List RV)) : Prop := PA X es (tR (Cx.tx X T) Wi d)
/-- values read as they lie now -/
def RV.val : RV → Option D
  | .dat d => some d
  | .fresh l => some (.lst l)
  | .bor _ l => some (.lst l)
  | .wref _ => none
def Rv (K : PySem.W.Frag) (F H : Hp) (v : V) : D → Prop
  | .lst l => l.length ≤ sizeLine ∧ ∃ p vs, v = .ref p ∧ SqL K H p vs ∧ Paired (Rp K F) vs l
  | d => Rp K F v d
section
variable {X : Tx} {B : Base} {env : Ev} {w w' : World} {σ : St} {H F H' F' Hs : Hp} {O : Nat → Addr} {M M' : List Addr} {v : V} {r : RV} {K : PySem.W.Frag} {d : D}
theorem Rp.rv (h : Rp K F v d) (fh : Same F H) : Rv K F H v d := by
  cases d with
  | lst l => cases h with | lst hz hs hp => exact ⟨hz, _, _, rfl, fh.seq hs, hp⟩
  | _ => exact h
theorem Rv.rp (h : Rv K F H v d) (fh : Same F H) : Rp K H v d := by
  cases d with
  | lst l => obtain ⟨hz, p, vs, rfl, hs, hp⟩ := h; exact .lst hz hs (Rp.monoAll fh _ _ hp)
  | _ => exact Rp.mono fh _ _ h
theorem RV.rv (s : SR X B env w σ H F O M) (h : r.isAt X Hs env O H F M v) (e : r.val = some d) : Rv X.K F H v d := by
  cases r with
  | dat d' => cases e; exact Rp.rv h s.fh
  | fresh l => cases e; obtain ⟨ez, p, vs, e1, _, _, _, e5, e6⟩ := h; exact ⟨ez, p, vs, e1, SqL.of e5, e6⟩
  | bor i l =>
    cases e
    obtain ⟨e1, e2⟩ := h
    obtain ⟨_, _, _, _, ez, vs, e5, e6⟩ := s.sl i _ e1
    exact ⟨ez, _, vs, e2, SqL.of e5, e6⟩
  | wref k => cases e
theorem WRel.there (wr : WRel X F H M w) {m : Addr} (hm : m ∈ M) : H m ≠ none := by
  have go : ∀ {M : List Addr} {w : World}, Paired (fun m o => F m = none ∧ WO.isAt X F H m o) M w → m ∈ M → H m ≠ none := by
    intro M w h hm
    induction h with
    | nil => cases hm
    | @cons a o _ _ h1 _ ih =>
      rcases List.mem_cons.mp hm with rfl | hm
      · cases o with
        | lst l => obtain ⟨_, _, vs, e1, _⟩ := h1; rw [e1]; simp
        | clo i caps => exact CloAt.there h1.2
      · exact ih hm
  exact go wr.at_ hm
/-- a result that an operation has made -/
def RV.newAt (K : PySem.W.Frag) (H H' F' : Hp) (v : V) : RV → Prop
  | .dat d => Rp K F' v d
  | .fresh l => l.length ≤ sizeLine ∧ ∃ p vs, v = .ref p ∧ H p = none ∧ F' p = none ∧ H' p = some (.lst vs) ∧ Paired (Rp K F') vs l
  | _ => False
theorem RV.of_new (h : r.newAt X.K H H' F' v) (s : SR X B env w σ H F O M) (e0 : ∀ a, Hs a ≠ none → H a ≠ none) : r.isAt X Hs env O H' F' M v := by
  cases r with
  | dat d => exact h
  | fresh l =>
    obtain ⟨ez, p, vs, e1, e2, e3, e4, e5⟩ := h
    refine ⟨ez, p, vs, e1, ?_, e3, fun hm => s.wr.there hm e2, e4, e5⟩
    cases q : Hs p with
    | none => rfl
    | some o => exact absurd e2 (e0 p (by rw [q]; simp))
  | bor i l => exact h.elim
  | wref k => exact h.elim
end
def lift (o : Option RV) (w : World) : Out RV := match o with
  | some r => .ok r w
  | none => .stuck
@[simp] theorem lift_some (r : RV) (w : World) : lift (some r) w = .ok r w := rfl
theorem Pst.lift {o : Option RV} {w : World} {g : RV → World → Prop} {b : Exn → Ev → World → Prop} (h : Pst (Dl.lift o w) g b) : ∃ r, o = some r ∧ g r w := by
  cases o with
  | none => exact h.elim
  | some r => exact ⟨r, rfl, h⟩
/-! ### names and constants -/
def dName (i : Nat) : Ex := fun env w => match env[i]? with
  | some (.dat d) => .ok (.dat d) w
  | some (.own l) => .ok (.bor i l) w
  | some (.wref k) => .ok (.wref k) w
  | _ => .stuck
def dC (d : D) : Ex := fun _ w => .ok (.dat d) w
section
variable {X : Cx} {T : Tbs} {Wi : WX} {pos : Pos}
theorem je_name {i : Nat} {x : Str} (h : PE X (.Name x pos) (tVar i)) : JE X T Wi (.Name x pos) (dName i) := by
  refine h.impD fun σ H Q q => ?_
  obtain ⟨B, env, w, F, O, M, s, q⟩ := q
  unfold dName at q
  cases e : env[i]? with
  | none => rw [e] at q; exact q.elim
  | some sl =>
    rw [e] at q
    have a := s.sl i sl e
    cases sl with
    | un => exact q.elim
    | dat d => obtain ⟨v, e1, e2⟩ := a; exact ⟨v, e1, q v H F M s .refl e2⟩
    | own l => obtain ⟨e1, e2⟩ := a; exact ⟨_, e1, q _ H F M s .refl ⟨e, rfl⟩⟩
    | wref k => obtain ⟨m, e1, e2⟩ := a; exact ⟨_, e2, q _ H F M s .refl ⟨m, e1, rfl⟩⟩
theorem je_const {e : Expr} {v : V} {d : D} (h : PE X e (tC v)) (r : ∀ F, Rp X.K F v d) : JE X T Wi e (dC d) := by
  refine h.impD fun σ H Q q => ?_
  obtain ⟨B, env, w, F, O, M, s, q⟩ := q
  exact q v H F M s .refl (r F)
theorem je_int {i j} : JE X T Wi (.Constant (.int i) j pos) (dC (.int i)) := je_const pe_int fun _ => .int i
theorem je_bl {b j} : JE X T Wi (.Constant (.bool b) j pos) (dC (.bl b)) := je_const pe_bl fun _ => .bl b
theorem je_non {j} : JE X T Wi (.Constant .none j pos) (dC .non) := je_const pe_non fun _ => .non
theorem je_str {x j} (h : SOk x := by exact ⟨by decide +kernel, by decide +kernel⟩) : JE X T Wi (.Constant (.str x) j pos) (dC (.str x)) := je_const pe_str fun _ => .str x h
end
/-! ### operations on two values -/
def OpS (X : Cx) (f : Value → Value → Sem Value) (g : D → D → Option RV) : Prop :=
  ∃ r : R2, OpR X f r ∧ ∀ x y d e rv H F, Same F H → NoTbl F → Rv X.K F H x d → Rv X.K F H y e → g d e = some rv → ∀ Q : VK, (∀ v H' F', Xt H F H' F' → rv.newAt X.K H H' F' v → Q v H') → r x y H Q
def vals2 (g : D → D → Option RV) (a b : RV) : Option RV := match a.val, b.val with
  | some x, some y => g x y
  | _, _ => none
def dBin (g : D → D → Option RV) (a b : Ex) : Ex := fun env w => (a env w).bind fun ra w1 => (b env w1).bind fun rb w2 => lift (vals2 g ra rb) w2
theorem vals2_some {g : D → D → Option RV} {a b : RV} {r : RV} (h : vals2 g a b = some r) : ∃ x y, a.val = some x ∧ b.val = some y ∧ g x y = some r := by
  unfold vals2 at h
  cases ea : a.val with
  | none => rw [ea] at h; cases h
  | some x =>
    cases eb : b.val with
    | none => rw [ea, eb] at h; cases h
    | some y => rw [ea, eb] at h; exact ⟨x, y, rfl, rfl, h⟩
section
variable {X : Cx} {T : Tbs} {Wi : WX} {pos : Pos} {a b : Expr} {da db : Ex}
theorem op_read {f : Value → Value → Sem Value} {g : D → D → Option RV} {r : R2} (hr : ∀ x y d e rv H F, Same F H → NoTbl F → Rv X.K F H x d → Rv X.K F H y e → g d e = some rv → ∀ Q : VK, (∀ v H' F', Xt H F H' F' → rv.newAt X.K H H' F' v → Q v H') → r x y H Q)
    {σ : St} {H : Hp} {Q : VK} (q : tD (Cx.tx X T) Wi (dBin g da db) σ H Q) : tOp r (tD (Cx.tx X T) Wi da) (tD (Cx.tx X T) Wi db) σ H Q := by
  obtain ⟨B, env, w, F, O, M, s, q⟩ := q
  refine ⟨B, env, w, F, O, M, s, q.bind.imp fun ra w1 q1 x H1 F1 M1 s1 st1 r1 => ?_⟩
  refine ⟨B, env, w1, F1, O, M1, s1, q1.bind.imp fun rb w2 q2 y H2 F2 M2 s2 st2 r2 => ?_⟩
  obtain ⟨rv, e, q3⟩ := q2.lift
  obtain ⟨d, e', ea, eb, eg⟩ := vals2_some e
  refine hr x y d e' rv H2 F2 s2.fh s2.nt (RV.rv s2 (RV.step r1 st2) ea) (RV.rv s2 r2 eb) eg Q fun v H' F' xt nw => ?_
  exact q3 v H' F' M2 (s2.xt xt) ((st1.trans st2).trans xt.stp) (RV.of_new nw s2 (st1.trans st2).th)
theorem je_bin {op : Operator} {g : D → D → Option RV} (h : OpS X (binaryOp op) g) (ha : JE X T Wi a da) (hb : JE X T Wi b db) : JE X T Wi (.BinOp a op b pos) (dBin g da db) := by
  obtain ⟨r, ho, hr⟩ := h
  exact (pe_op ho ha hb).impD fun σ H Q q => op_read (f := binaryOp op) hr q
theorem je_cmp {op : CmpOp} {g : D → D → Option RV} (h : OpS X (compareOp op) g) (ha : JE X T Wi a da) (hb : JE X T Wi b db) (hm : behindInMarks op b = false := by first | exact nomark _ | rfl) : JE X T Wi (.Compare a [op] [b] pos) (dBin g da db) := by
  obtain ⟨r, ho, hr⟩ := h
  exact (pe_cmpR ho ha hb hm).impD fun σ H Q q => op_read (f := compareOp op) hr q
end
/-- a new result by hand: a value alone -/
theorem new_val {K : PySem.W.Frag} {F H : Hp} {v : V} {d : D} {Q : VK} (fh : Same F H) (nt : NoTbl F) (q : ∀ v H' F', Xt H F H' F' → (RV.dat d).newAt K H H' F' v → Q v H') (h : Rp K F v d) : Q v H := q v H F (Xt.refl fh nt) h
theorem new_lst {K : PySem.W.Frag} {F H : Hp} {l : List D} {vs : List V} {p : Addr} {Q : VK} (fh : Same F H) (nt : NoTbl F) (q : ∀ v H' F', Xt H F H' F' → (RV.fresh l).newAt K H H' F' v → Q v H') (hp : H p = none) (hz : l.length ≤ sizeLine) (h : Paired (Rp K F) vs l) : Q (.ref p) (upd H p (.lst vs)) :=
  q _ _ F (Xt.newL fh nt hp) ⟨hz, p, vs, rfl, hp, fh.free hp, upd_same, h⟩
theorem new_tup {K : PySem.W.Frag} {F H : Hp} {l : List D} {vs : List V} {p : Addr} {Q : VK} (fh : Same F H) (nt : NoTbl F) (q : ∀ v H' F', Xt H F H' F' → (RV.dat (.tup l)).newAt K H H' F' v → Q v H') (hp : H p = none) (hz : l.length ≤ sizeLine) (h : Paired (Rp K F) vs l) : Q (.ref p) (upd H p (.tup vs)) := by
  have x : Xt H F (upd H p (.tup vs)) (upd F p (.tup vs)) := Xt.newF fh nt hp (fun _ z => by cases z)
  exact q _ _ _ x (Rp.tup hz (SqT.of upd_same) (Rp.monoAll x.ff _ _ h))
/-! ### the operators -/
def mulOk (i j : Int) : Bool := (decide (i.natAbs < 2 ^ 64) || decide (j.natAbs < 2 ^ 64)) || decide (i.natAbs.log2 + j.natAbs.log2 < 900000)
def gAdd : D → D → Option RV
  | .int i, .int j => some (.dat (.int (i + j)))
  | .str s, .str t => if s.length + t.length ≤ sizeLine then some (.dat (.str (s ++ t))) else none
  | .tup k, .tup l => if k.length + l.length ≤ sizeLine then some (.dat (.tup (k ++ l))) else none
  | .lst k, .lst l => if k.length + l.length ≤ sizeLine then some (.fresh (k ++ l)) else none
  | _, _ => none
def gSub : D → D → Option RV
  | .int i, .int j => some (.dat (.int (i - j)))
  | _, _ => none
def gMul : D → D → Option RV
  | .int i, .int j => if mulOk i j then some (.dat (.int (i * j))) else none
  | _, _ => none
def gFdiv : D → D → Option RV
  | .int i, .int j => if 0 < j ∧ (j < 1073741824 ∨ j.natAbs.log2 < 8990) then some (.dat (.int (i / j))) else none
  | _, _ => none
def gMod : D → D → Option RV
  | .int i, .int j => if 0 < j then some (.dat (.int (i % j))) else none
  | _, _ => none
def gPow : D → D → Option RV
  | .int i, .int j => if 0 ≤ j ∧ j ≤ 1000000 ∧ i.natAbs < 2 ^ 64 then some (.dat (.int (i ^ j.toNat))) else none
  | _, _ => none
theorem str_len_app (s t : Str) : (s ++ t).length = s.length + t.length := by
  show (s.cps ++ t.cps).size = _
  rw [Array.size_append]
  rfl
theorem sOk_app {s t : Str} (h1 : SOk s) (h2 : SOk t) (hz : s.length + t.length ≤ sizeLine) : SOk (s ++ t) := by
  refine ⟨?_, by rw [str_len_app]; exact hz⟩
  obtain ⟨h1, _⟩ := h1
  obtain ⟨h2, _⟩ := h2
  unfold PyData.strOk at *
  show (Array.all (s.cps ++ t.cps) fun c => decide (c < 0x110000)) = true
  rw [Array.all_append, h1, h2]
  rfl
section
variable {X : Cx}
theorem os_sub : OpS X (binaryOp .Sub) gSub := by
  refine ⟨_, op_sub, fun x y d e rv H F fh nt rx ry h Q q => ?_⟩
  cases d <;> cases e <;> first | (simp only [gSub] at h; cases h; done) | skip
  simp only [gSub, Option.some.injEq] at h; subst h
  cases rx; cases ry
  exact ⟨_, _, rfl, rfl, new_val fh nt q (.int _)⟩
theorem os_mod : OpS X (binaryOp .Mod) gMod := by
  refine ⟨_, op_mod, fun x y d e rv H F fh nt rx ry h Q q => ?_⟩
  cases d <;> cases e <;> first | (simp only [gMod] at h; cases h; done) | skip
  simp only [gMod] at h
  split at h
  · rename_i hc
    simp only [Option.some.injEq] at h; subst h
    cases rx; cases ry
    exact ⟨_, _, rfl, rfl, hc, new_val fh nt q (.int _)⟩
  · cases h
theorem os_pow : OpS X (binaryOp .Pow) gPow := by
  refine ⟨_, op_pow, fun x y d e rv H F fh nt rx ry h Q q => ?_⟩
  cases d <;> cases e <;> first | (simp only [gPow] at h; cases h; done) | skip
  simp only [gPow] at h
  split at h
  · rename_i hc
    simp only [Option.some.injEq] at h; subst h
    cases rx; cases ry
    exact ⟨_, _, rfl, rfl, hc, new_val fh nt q (.int _)⟩
  · cases h
theorem os_fdiv : OpS X (binaryOp .FloorDiv) gFdiv := by
  refine ⟨_, op_fdiv.or op_fdivW, fun x y d e rv H F fh nt rx ry h Q q => ?_⟩
  cases d <;> cases e <;> first | (simp only [gFdiv] at h; cases h; done) | skip
  simp only [gFdiv] at h
  split at h
  · rename_i hc
    simp only [Option.some.injEq] at h; subst h
    cases rx; cases ry
    obtain ⟨h0, h1 | h1⟩ := hc
    · exact .inl ⟨_, _, rfl, rfl, ⟨h0, h1⟩, new_val fh nt q (.int _)⟩
    · exact .inr ⟨_, _, rfl, rfl, ⟨h0, by omega⟩, new_val fh nt q (.int _)⟩
  · cases h
theorem os_mul : OpS X (binaryOp .Mult) gMul := by
  refine ⟨_, op_mul.or op_mulW, fun x y d e rv H F fh nt rx ry h Q q => ?_⟩
  cases d <;> cases e <;> first | (simp only [gMul] at h; cases h; done) | skip
  simp only [gMul] at h
  split at h
  · rename_i hc
    simp only [Option.some.injEq] at h; subst h
    cases rx; cases ry
    unfold mulOk at hc
    simp only [Bool.or_eq_true, decide_eq_true_eq] at hc
    rcases hc with (hc | hc) | hc
    · exact .inl ⟨_, _, rfl, rfl, .inl (by omega), new_val fh nt q (.int _)⟩
    · exact .inl ⟨_, _, rfl, rfl, .inr (by omega), new_val fh nt q (.int _)⟩
    · exact .inr ⟨_, _, rfl, rfl, (by unfold CMulW; omega), new_val fh nt q (.int _)⟩
  · cases h
end
end Dl
/-! DlC: operators on data, comparisons, truth, tests, displays, places and slices, built-ins. -/
namespace Dl
open PySem PySem.Spec PyProof.Rows L2 NdefX
def D.dep (d : D) : Nat := d.py.depth
def D.eq (d e : D) : Bool := PyData.eqv d.py e.py
theorem pyAll_eq (l : List D) : D.pyAll l = l.map D.py := by
  induction l with
  | nil => rfl
  | cons d l ih => show d.py :: D.pyAll l = _; rw [ih]; rfl
theorem paired_nil {α β : Type} {F : α → β → Prop} {xs : List α} {ys : List β} (h : Paired F xs ys) : xs = [] ↔ ys = [] := by
  cases h <;> simp
section
variable {X : Cx} {pins : List (Addr × Obj)} {σ : St} {H : Hp} {s : Shared}
theorem op_catR : OpR X (binaryOp .Add) (fun x y H Q => ∃ l b xs zs, x = .ref l ∧ y = .ref b ∧ SqL X.K H l xs ∧ SqL X.K H b zs ∧ xs.length + zs.length ≤ sizeLine ∧ ∀ p, H p = none → Q (.ref p) (upd H p (.lst (xs ++ zs)))) := by
  intro pins s σ H x y v u Q I rx ry h
  obtain ⟨l, b, xs, zs, rfl, rfl, hH, hB, hz, q⟩ := h
  cases rx
  cases ry
  obtain ⟨its, r, ⟨⟨cls, dd, data, sl⟩, n, ho, hc, hdn, hd⟩, z⟩ := I.list hH
  obtain ⟨its2, r2, ⟨⟨cls2, dd2, data2, sl2⟩, n2, ho2, hc2, hdn2, hd2⟩, z2⟩ := I.list hB
  simp only at hc hd hc2 hd2
  subst hc hd hc2 hd2
  have hl := r.length
  have hl2 := r2.length
  refine concat_meets ⟨_, ho, rfl⟩ ⟨_, ho2, rfl⟩ noFill_list_add seq_list_add PySem.F.slot_list_add PySem.F.entry_list_add (PySem.F.args_list_add_2 _ _) (list_addW l b its.toArray its2.toArray n n2 dd dd2 sl sl2 (by rw [List.size_toArray, List.size_toArray]; omega)) ⟨ho, ho2, ?_⟩
  have ea : its.toArray ++ its2.toArray = (its ++ its2).toArray := by simp
  rw [ea]
  exact ⟨.ref _, _, I.lnew (t' := s.toks) (r.append r2) (by rw [List.length_append]; omega), rfl, q _ I.fresh⟩
theorem os_add : OpS X (binaryOp .Add) gAdd := by
  refine ⟨_, op_add.or (op_add_str.or (op_catA.or op_catR)), fun x y d e rv H F fh nt rx ry h Q q => ?_⟩
  cases d <;> cases e <;> first | (simp only [gAdd] at h; cases h; done) | skip
  · simp only [gAdd, Option.some.injEq] at h; subst h
    cases rx; cases ry
    exact .inl ⟨_, _, rfl, rfl, new_val fh nt q (.int _)⟩
  · simp only [gAdd] at h
    split at h
    · rename_i hc
      simp only [Option.some.injEq] at h; subst h
      cases rx with | str _ q1 => cases ry with | str _ q2 => exact .inr (.inl ⟨_, _, rfl, rfl, hc, new_val fh nt q (.str _ (sOk_app q1 q2 hc))⟩)
    · cases h
  · simp only [gAdd] at h
    split at h
    · rename_i hc
      simp only [Option.some.injEq] at h; subst h
      obtain ⟨_, a, xs, e1, s1, p1⟩ := rx
      obtain ⟨_, b, ys, e2, s2, p2⟩ := ry
      have l1 := p1.length
      have l2 := p2.length
      exact .inr (.inr (.inr ⟨a, b, xs, ys, e1, e2, s1, s2, by omega, fun p hp => new_lst fh nt q hp (by rw [List.length_append]; exact hc) (Pr.append p1 p2)⟩))
    · cases h
  · simp only [gAdd] at h
    split at h
    · rename_i hc
      simp only [Option.some.injEq] at h; subst h
      cases rx with
      | @tup a xs _ z1' s1 p1 =>
      cases ry with
      | @tup b ys _ z2' s2 p2 =>
        have l1 := p1.length
        have l2 := p2.length
        refine .inr (.inr (.inl ⟨a, b, xs, ys, rfl, rfl, sqT_mono fh s1, sqT_mono fh s2, by omega, fun z => ?_, fun z1 z => ?_, fun z1 z2 p hp => new_tup fh nt q hp (by rw [List.length_append]; exact hc) (Pr.append p1 p2)⟩))
        · have z' := (paired_nil p1).mp z
          subst z'
          exact new_val fh nt q (.tup z2' s2 p2)
        · have z' := (paired_nil p2).mp z
          subst z'
          refine new_val fh nt q ?_
          rw [List.append_nil]
          exact .tup z1' s1 p1
    · cases h
/-! ### comparisons -/
def gEq (rm : Nat) (d e : D) : Option RV := if min d.dep e.dep ≤ rm then some (.dat (.bl (d.eq e))) else none
def gNe (rm : Nat) (d e : D) : Option RV := if min d.dep e.dep ≤ rm then some (.dat (.bl (!d.eq e))) else none
theorem os_eq {rm : Nat} (hu : X.A.units + rm < cLine) : OpS X (compareOp .Eq) (gEq rm) := by
  refine ⟨fun x y H Q => ∃ d e : D, Rp X.K H x d ∧ Rp X.K H y e ∧ min d.dep e.dep ≤ rm ∧ Q (.bl (d.eq e)) H, ?_, fun x y d e rv H F fh nt rx ry h Q q => ?_⟩
  · intro pins s σ H x y v u Q I rx ry h
    obtain ⟨d, e, h1, h2, hm, q⟩ := h
    obtain ⟨as, r1⟩ := Dp.reads I d.py x v h1.dp rx
    obtain ⟨bs, r2⟩ := Dp.reads I e.py y u h2.dp ry
    refine SeqAt.compareEq_reads r1 r2 h1.lay h2.lay ?_ ⟨.bl _, H, I, rfl, q⟩
    have : min d.py.depth e.py.depth ≤ rm := hm
    omega
  · unfold gEq at h
    split at h
    · rename_i hc
      simp only [Option.some.injEq] at h; subst h
      exact ⟨d, e, rx.rp fh, ry.rp fh, hc, new_val fh nt q (.bl _)⟩
    · cases h
theorem os_ne {rm : Nat} (hu : X.A.units + rm < cLine) : OpS X (compareOp .NotEq) (gNe rm) := by
  refine ⟨fun x y H Q => ∃ d e : D, Rp X.K H x d ∧ Rp X.K H y e ∧ min d.dep e.dep ≤ rm ∧ Q (.bl (!d.eq e)) H, ?_, fun x y d e rv H F fh nt rx ry h Q q => ?_⟩
  · intro pins s σ H x y v u Q I rx ry h
    obtain ⟨d, e, h1, h2, hm, q⟩ := h
    obtain ⟨as, r1⟩ := Dp.reads I d.py x v h1.dp rx
    obtain ⟨bs, r2⟩ := Dp.reads I e.py y u h2.dp ry
    refine SeqAt.compareNe_reads r1 r2 h1.lay h2.lay ?_ ⟨.bl _, H, I, rfl, q⟩
    have : min d.py.depth e.py.depth ≤ rm := hm
    omega
  · unfold gNe at h
    split at h
    · rename_i hc
      simp only [Option.some.injEq] at h; subst h
      exact ⟨d, e, rx.rp fh, ry.rp fh, hc, new_val fh nt q (.bl _)⟩
    · cases h
/-- order: two ints at once; other data where the library's order tells it -/
def D.lt (d e : D) : Bool := PySem.W.dataLt d.py e.py
def ordOk (rm : Nat) (d e : D) : Bool := PySem.W.alike d.py e.py && (match d with | .non => false | _ => true) && decide (min d.dep e.dep ≤ rm)
def gOrd (fi : Int → Int → Bool) (fd : D → D → Bool) (rm : Nat) : D → D → Option RV
  | .int i, .int j => some (.dat (.bl (fi i j)))
  | d, e => if ordOk rm d e then some (.dat (.bl (fd d e))) else none
def gLt := gOrd (fun i j => decide (i < j)) fun d e => d.lt e
def gGt := gOrd (fun i j => decide (j < i)) fun d e => e.lt d
def gLe := gOrd (fun i j => decide (i ≤ j)) fun d e => !e.lt d
def gGe := gOrd (fun i j => decide (j ≤ i)) fun d e => !d.lt e
theorem os_ord {op : CmpOp} {fi : Int → Int → Bool} {fd : D → D → Bool} {rm : Nat} (hu : X.A.units + rm < cLine) (hi : OpR X (compareOp op) (rI0 fun i j => .bl (fi i j)))
    (hd : ∀ (s : Shared) (a b : Value) (d e : D) (as bs : List Addr) (Q E : Value → Shared → Prop), Reads s.heap a d.py as → Reads s.heap b e.py bs → PySem.W.alike d.py e.py = true → d.py ≠ .none → X.A.units + min d.py.depth e.py.depth < cLine → Q (.bool (fd d e)) s →
      wpAny (model X.prog X.w) X.A (compareOp op a b) Q E s) : OpS X (compareOp op) (gOrd fi fd rm) := by
  have h2 : OpR X (compareOp op) (fun x y H Q => ∃ d e : D, Rp X.K H x d ∧ Rp X.K H y e ∧ ordOk rm d e = true ∧ Q (.bl (fd d e)) H) := by
    intro pins s σ H x y v u Q I rx ry h
    obtain ⟨d, e, h1, h2, hm, q⟩ := h
    obtain ⟨as, r1⟩ := Dp.reads I d.py x v h1.dp rx
    obtain ⟨bs, r2⟩ := Dp.reads I e.py y u h2.dp ry
    unfold ordOk at hm
    simp only [Bool.and_eq_true, decide_eq_true_eq] at hm
    obtain ⟨⟨m1, m2⟩, m3⟩ := hm
    have m3' : min d.py.depth e.py.depth ≤ rm := m3
    refine hd s v u d e as bs _ _ r1 r2 m1 (fun z => ?_) (by omega) ⟨.bl _, H, I, rfl, q⟩
    cases d <;> first | (cases z; done) | (simp at m2)
  refine ⟨_, hi.or h2, fun x y d e rv H F fh nt rx ry h Q q => ?_⟩
  unfold gOrd at h
  split at h
  · simp only [Option.some.injEq] at h; subst h
    cases rx; cases ry
    exact .inl ⟨_, _, rfl, rfl, new_val fh nt q (.bl _)⟩
  · split at h
    · rename_i hc
      simp only [Option.some.injEq] at h; subst h
      exact .inr ⟨d, e, rx.rp fh, ry.rp fh, hc, new_val fh nt q (.bl _)⟩
    · cases h
theorem os_lt {rm : Nat} (hu : X.A.units + rm < cLine) : OpS X (compareOp .Lt) (gLt rm) := os_ord hu op_lt fun _ _ _ _ _ _ _ _ _ r1 r2 h1 h2 h3 q => PySem.W.lt_data r1 r2 h1 h2 h3 q
theorem os_gt {rm : Nat} (hu : X.A.units + rm < cLine) : OpS X (compareOp .Gt) (gGt rm) := os_ord hu op_gt fun _ _ _ _ _ _ _ _ _ r1 r2 h1 h2 h3 q => PySem.W.gt_data r1 r2 h1 h2 h3 q
theorem os_le {rm : Nat} (hu : X.A.units + rm < cLine) : OpS X (compareOp .LtE) (gLe rm) := os_ord hu op_le fun _ _ _ _ _ _ _ _ _ r1 r2 h1 h2 h3 q => PySem.W.le_data r1 r2 h1 h2 h3 q
theorem os_ge {rm : Nat} (hu : X.A.units + rm < cLine) : OpS X (compareOp .GtE) (gGe rm) := os_ord hu op_ge fun _ _ _ _ _ _ _ _ _ r1 r2 h1 h2 h3 q => PySem.W.ge_data r1 r2 h1 h2 h3 q
/-- is: None on the right; two bools -/
def D.isN : D → Bool
  | .non => true
  | _ => false
def gIs : D → D → Option RV
  | .bl a, .bl b => some (.dat (.bl (decide (a = b))))
  | d, .non => some (.dat (.bl d.isN))
  | _, _ => none
def gIsNot : D → D → Option RV
  | .bl a, .bl b => some (.dat (.bl (!decide (a = b))))
  | d, .non => some (.dat (.bl (!d.isN)))
  | _, _ => none
theorem rv_isN {F : Hp} {x : V} {d : D} (h : Rv X.K F H x d) : decide (x = .non) = d.isN := by
  cases d with
  | lst l => obtain ⟨_, p, vs, e, _⟩ := h; subst e; rfl
  | _ => cases h <;> rfl
theorem os_is : OpS X (compareOp .Is) gIs := by
  refine ⟨_, op_isN.or op_isBl, fun x y d e rv H F fh nt rx ry h Q q => ?_⟩
  unfold gIs at h
  split at h
  · simp only [Option.some.injEq] at h; subst h
    cases rx; cases ry
    exact .inr ⟨_, _, rfl, rfl, new_val fh nt q (.bl _)⟩
  · simp only [Option.some.injEq] at h; subst h
    cases ry
    exact .inl ⟨rfl, new_val fh nt q (by rw [rv_isN rx]; exact .bl _)⟩
  · cases h
theorem os_isnot : OpS X (compareOp .IsNot) gIsNot := by
  refine ⟨_, op_notN.or op_notBl, fun x y d e rv H F fh nt rx ry h Q q => ?_⟩
  unfold gIsNot at h
  split at h
  · simp only [Option.some.injEq] at h; subst h
    cases rx; cases ry
    exact .inr ⟨_, _, rfl, rfl, new_val fh nt q (.bl _)⟩
  · simp only [Option.some.injEq] at h; subst h
    cases ry
    exact .inl ⟨rfl, new_val fh nt q (by rw [rv_isN rx]; exact .bl _)⟩
  · cases h
/-- in: a list, a tuple of data; one sign in a text -/
def depAll (l : List D) : Nat := PyData.depthAll (D.pyAll l)
def inD (neg : Bool) (rm : Nat) : D → D → Option RV
  | d, .lst l => if 1 + min (depAll l) d.dep ≤ rm then some (.dat (.bl (neg ^^ l.any fun y => y.eq d))) else none
  | d, .tup l => if 1 + min (depAll l) d.dep ≤ rm then some (.dat (.bl (neg ^^ l.any fun y => y.eq d))) else none
  | .str ⟨⟨[c]⟩⟩, .str z => some (.dat (.bl (neg ^^ decide (c ∈ z.cps.toList))))
  | _, _ => none
theorem any_py (l : List D) (d : D) : ((D.pyAll l).any fun y => PyData.eqv y d.py) = l.any fun y => y.eq d := by
  rw [pyAll_eq, List.any_map]
  rfl
theorem os_in {rm : Nat} (hu : X.A.units + rm < cLine) : OpS X (compareOp .In) (inD false rm) := by
  refine ⟨fun x y H Q => (∃ d l, Rp X.K H x d ∧ (Rp X.K H y (.lst l) ∨ Rp X.K H y (.tup l)) ∧ 1 + min (depAll l) d.dep ≤ rm ∧ Q (.bl (l.any fun y => y.eq d)) H) ∨ _, OpR.or ?_ op_in_sign, fun x y d e rv H F fh nt rx ry h Q q => ?_⟩
  · intro pins s σ H x y v u Q I rx ry h
    obtain ⟨d, l, h1, h2 | h2, hm, q⟩ := h
    · obtain ⟨as, r1⟩ := Dp.reads I d.py x v h1.dp rx
      obtain ⟨bs, r2⟩ := Dp.reads I (.list (D.pyAll l)) y u h2.dp ry
      refine SeqAt.in_list_reads r2 r1 (by have z := h2.lay; exact z) h1.lay ?_ ⟨.bl _, H, I, rfl, by rw [any_py]; exact q⟩
      have : 1 + min (PyData.depthAll (D.pyAll l)) d.py.depth ≤ rm := hm
      omega
    · obtain ⟨as, r1⟩ := Dp.reads I d.py x v h1.dp rx
      obtain ⟨bs, r2⟩ := Dp.reads I (.tuple (D.pyAll l)) y u h2.dp ry
      refine SeqAt.in_tuple_reads r2 r1 (by have z := h2.lay; exact z) h1.lay ?_ ⟨.bl _, H, I, rfl, by rw [any_py]; exact q⟩
      have : 1 + min (PyData.depthAll (D.pyAll l)) d.py.depth ≤ rm := hm
      omega
  · unfold inD at h
    split at h
    · split at h
      · rename_i hc
        simp only [Option.some.injEq, Bool.false_bne] at h; subst h
        exact .inl ⟨d, _, rx.rp fh, .inl (ry.rp fh), hc, new_val fh nt q (.bl _)⟩
      · cases h
    · split at h
      · rename_i hc
        simp only [Option.some.injEq, Bool.false_bne] at h; subst h
        exact .inl ⟨d, _, rx.rp fh, .inr (ry.rp fh), hc, new_val fh nt q (.bl _)⟩
      · cases h
    · simp only [Option.some.injEq, Bool.false_bne] at h; subst h
      cases rx; cases ry
      exact .inr ⟨_, _, rfl, rfl, new_val fh nt q (.bl _)⟩
    · cases h
theorem os_notin {rm : Nat} (hu : X.A.units + rm < cLine) : OpS X (compareOp .NotIn) (inD true rm) := by
  refine ⟨fun x y H Q => (∃ d l, Rp X.K H x d ∧ (Rp X.K H y (.lst l) ∨ Rp X.K H y (.tup l)) ∧ 1 + min (depAll l) d.dep ≤ rm ∧ Q (.bl (!l.any fun y => y.eq d)) H) ∨ _, OpR.or ?_ op_notIn_sign, fun x y d e rv H F fh nt rx ry h Q q => ?_⟩
  · intro pins s σ H x y v u Q I rx ry h
    obtain ⟨d, l, h1, h2 | h2, hm, q⟩ := h
    · obtain ⟨as, r1⟩ := Dp.reads I d.py x v h1.dp rx
      obtain ⟨bs, r2⟩ := Dp.reads I (.list (D.pyAll l)) y u h2.dp ry
      refine SeqAt.notIn_list_reads r2 r1 (by have z := h2.lay; exact z) h1.lay ?_ ⟨.bl _, H, I, rfl, by rw [any_py]; exact q⟩
      have : 1 + min (PyData.depthAll (D.pyAll l)) d.py.depth ≤ rm := hm
      omega
    · obtain ⟨as, r1⟩ := Dp.reads I d.py x v h1.dp rx
      obtain ⟨bs, r2⟩ := Dp.reads I (.tuple (D.pyAll l)) y u h2.dp ry
      refine SeqAt.notIn_tuple_reads r2 r1 (by have z := h2.lay; exact z) h1.lay ?_ ⟨.bl _, H, I, rfl, by rw [any_py]; exact q⟩
      have : 1 + min (PyData.depthAll (D.pyAll l)) d.py.depth ≤ rm := hm
      omega
  · unfold inD at h
    split at h
    · split at h
      · rename_i hc
        simp only [Option.some.injEq, Bool.true_bne] at h; subst h
        exact .inl ⟨d, _, rx.rp fh, .inl (ry.rp fh), hc, new_val fh nt q (.bl _)⟩
      · cases h
    · split at h
      · rename_i hc
        simp only [Option.some.injEq, Bool.true_bne] at h; subst h
        exact .inl ⟨d, _, rx.rp fh, .inr (ry.rp fh), hc, new_val fh nt q (.bl _)⟩
      · cases h
    · simp only [Option.some.injEq, Bool.true_bne] at h; subst h
      cases rx; cases ry
      exact .inr ⟨_, _, rfl, rfl, new_val fh nt q (.bl _)⟩
    · cases h
end
end Dl
/-! DlD: unary operators, truth, tests, displays, places, slices. -/
namespace Dl
open PySem PySem.Spec PyProof.Rows L2 NdefX
/-! ### one value -/
def vals1 (g : D → Option RV) (a : RV) : Option RV := match a.val with
  | some x => g x
  | none => none
theorem vals1_some {g : D → Option RV} {a r : RV} (h : vals1 g a = some r) : ∃ x, a.val = some x ∧ g x = some r := by
  unfold vals1 at h
  cases e : a.val with
  | none => rw [e] at h; cases h
  | some x => rw [e] at h; exact ⟨x, rfl, h⟩
def dUn (g : D → Option RV) (a : Ex) : Ex := fun env w => (a env w).bind fun ra w1 => lift (vals1 g ra) w1
def gNeg : D → Option RV
  | .int i => some (.dat (.int (-i)))
  | _ => none
def gNot : D → Option RV
  | .bl b => some (.dat (.bl (!b)))
  | _ => none
section
variable {X : Cx} {T : Tbs} {Wi : WX} {pos : Pos} {a b c : Expr} {da db dc : Ex} {rest : List Expr}
theorem un_read {g : D → Option RV} {r : V → Hp → VK → Prop} (hr : ∀ x d rv H F, Same F H → NoTbl F → Rv X.K F H x d → g d = some rv → ∀ Q : VK, (∀ v H' F', Xt H F H' F' → rv.newAt X.K H H' F' v → Q v H') → r x H Q)
    {σ : St} {H : Hp} {Q : VK} (q : tD (Cx.tx X T) Wi (dUn g da) σ H Q) : tD (Cx.tx X T) Wi da σ H (fun x H1 => r x H1 Q) := by
  obtain ⟨B, env, w, F, O, M, s, q⟩ := q
  refine ⟨B, env, w, F, O, M, s, q.bind.imp fun ra w1 q1 x H1 F1 M1 s1 st1 r1 => ?_⟩
  obtain ⟨rv, e, q3⟩ := q1.lift
  obtain ⟨d, ea, eg⟩ := vals1_some e
  refine hr x d rv H1 F1 s1.fh s1.nt (RV.rv s1 r1 ea) eg Q fun v H' F' xt nw => ?_
  exact q3 v H' F' M1 (s1.xt xt) (st1.trans xt.stp) (RV.of_new nw s1 st1.th)
theorem je_neg (ha : JE X T Wi a da) : JE X T Wi (.UnaryOp .USub a pos) (dUn gNeg da) := by
  refine (pe_un un_neg ha).impD fun σ H Q q => un_read (r := rU fun i => .int (-i)) (fun x d rv H F fh nt rx h Q q => ?_) q
  cases d <;> first | (simp only [gNeg] at h; cases h; done) | skip
  simp only [gNeg, Option.some.injEq] at h; subst h
  cases rx
  exact ⟨_, rfl, new_val fh nt q (.int _)⟩
theorem je_not (ha : JE X T Wi a da) : JE X T Wi (.UnaryOp .Not a pos) (dUn gNot da) := by
  refine (pe_not ha).impD fun σ H Q q => un_read (r := fun x H1 Q => ∃ c, x = .bl c ∧ Q (.bl (!c)) H1) (fun x d rv H F fh nt rx h Q q => ?_) q
  cases d <;> first | (simp only [gNot] at h; cases h; done) | skip
  simp only [gNot, Option.some.injEq] at h; subst h
  cases rx
  exact ⟨_, rfl, new_val fh nt q (.bl _)⟩
/-- and, or of bools as values -/
def dAnd (a b : Ex) : Ex := fun env w => (a env w).bind fun ra w1 => match ra with
  | .dat (.bl true) => b env w1
  | .dat (.bl false) => .ok (.dat (.bl false)) w1
  | _ => .stuck
def dOr (a b : Ex) : Ex := fun env w => (a env w).bind fun ra w1 => match ra with
  | .dat (.bl false) => b env w1
  | .dat (.bl true) => .ok (.dat (.bl true)) w1
  | _ => .stuck
theorem je_one {op} (ha : JE X T Wi a da) : JE X T Wi (.BoolOp op [a] pos) da := pe_one ha
theorem je_and (ha : JE X T Wi a da) (hb : JE X T Wi (.BoolOp .And (b :: rest) pos) db) : JE X T Wi (.BoolOp .And (a :: b :: rest) pos) (dAnd da db) := by
  refine (pe_and ha hb).impD fun σ H Q q => ?_
  obtain ⟨B, env, w, F, O, M, s, q⟩ := q
  refine ⟨B, env, w, F, O, M, s, q.bind.imp fun ra w1 q1 x H1 F1 M1 s1 st1 r1 => ?_⟩
  split at q1
  · cases r1
    refine ⟨true, rfl, ?_⟩
    rw [if_pos rfl]
    exact ⟨B, env, w1, F1, _, M1, s1, q1.imp fun rb w2 q2 v H2 F2 M2 s2 st2 r2 => q2 v H2 F2 M2 s2 (st1.trans st2) (RV.since r2 st1.th)⟩
  · cases r1
    refine ⟨false, rfl, ?_⟩
    rw [if_neg Bool.false_ne_true]
    exact q1 _ _ _ _ s1 st1 (.bl false)
  · exact q1.elim
theorem je_or (ha : JE X T Wi a da) (hb : JE X T Wi (.BoolOp .Or (b :: rest) pos) db) : JE X T Wi (.BoolOp .Or (a :: b :: rest) pos) (dOr da db) := by
  refine (pe_or ha hb).impD fun σ H Q q => ?_
  obtain ⟨B, env, w, F, O, M, s, q⟩ := q
  refine ⟨B, env, w, F, O, M, s, q.bind.imp fun ra w1 q1 x H1 F1 M1 s1 st1 r1 => ?_⟩
  split at q1
  · cases r1
    refine ⟨false, rfl, ?_⟩
    rw [if_neg Bool.false_ne_true]
    exact ⟨B, env, w1, F1, _, M1, s1, q1.imp fun rb w2 q2 v H2 F2 M2 s2 st2 r2 => q2 v H2 F2 M2 s2 (st1.trans st2) (RV.since r2 st1.th)⟩
  · cases r1
    refine ⟨true, rfl, ?_⟩
    rw [if_pos rfl]
    exact q1 _ _ _ _ s1 st1 (.bl true)
  · exact q1.elim
/-! ### tests -/
abbrev Tst := Ev → World → Out Bool
/-- a value that is a bool -/
def dTst (a : Ex) : Tst := fun env w => (a env w).bind fun ra w1 => match ra with
  | .dat (.bl b) => .ok b w1
  | _ => .stuck
def D.truth : D → Option Bool
  | .non => some false
  | .bl b => some b
  | .int i => some (i != 0)
  | .str s => some ((s.length : Int) != 0)
  | .lst l => some (!l.isEmpty)
  | .tup l => some (!l.isEmpty)
/-- a value by its truth -/
def dTru (a : Ex) : Tst := fun env w => (a env w).bind fun ra w1 => match ra.val with
  | some d => (match d.truth with
    | some b => .ok b w1
    | none => .stuck)
  | none => .stuck
theorem tst_read {σ : St} {H : Hp} {Q : Bool → Hp → Prop} (q : tT (Cx.tx X T) Wi (dTst da) σ H Q) : tD (Cx.tx X T) Wi da σ H (fun x H1 => ∃ c, x = .bl c ∧ Q c H1) := by
  obtain ⟨B, env, w, F, O, M, s, q⟩ := q
  refine ⟨B, env, w, F, O, M, s, q.bind.imp fun ra w1 q1 x H1 F1 M1 s1 st1 r1 => ?_⟩
  split at q1
  · cases r1; exact ⟨_, rfl, q1 _ _ _ s1 st1⟩
  · exact q1.elim
theorem jt_val (ha : JE X T Wi a da) (he : ∀ whole, isTrue a X.env whole = (do let v ← whole; standAt a.pos; holding [v] (truthy v)) := by intro _; rfl) : JT X T Wi a (dTst da) :=
  (pt_val ha he).impD fun σ H Q q => tst_read q
theorem jt_cmp {op : CmpOp} {g : D → D → Option RV} (h : OpS X (compareOp op) g) (ha : JE X T Wi a da) (hb : JE X T Wi b db) (hm : behindInMarks op b = false := by first | exact nomark _ | rfl) : JT X T Wi (.Compare a [op] [b] pos) (dTst (dBin g da db)) := by
  obtain ⟨r, ho, hr⟩ := h
  exact (pt_cmpR ho ha hb hm).impD fun σ H Q q => op_read (f := compareOp op) hr (tst_read q)
theorem jt_truth (ha : JE X T Wi a da) (he : ∀ whole, isTrue a X.env whole = (do let v ← whole; standAt a.pos; holding [v] (truthy v)) := by intro _; rfl) : JT X T Wi a (dTru da) := by
  refine (pt_truth ha he).impD fun σ H Q q => ?_
  obtain ⟨B, env, w, F, O, M, s, q⟩ := q
  refine ⟨B, env, w, F, O, M, s, q.bind.imp fun ra w1 q1 x H1 F1 M1 s1 st1 r1 => ?_⟩
  split at q1
  · rename_i d ed
    split at q1
    · rename_i k ek
      refine ⟨k, ?_, q1 _ _ _ s1 st1⟩
      have rv := RV.rv s1 r1 ed
      cases d with
      | non => cases rv; simp only [D.truth, Option.some.injEq] at ek; exact ek.symm
      | bl b => cases rv; simp only [D.truth, Option.some.injEq] at ek; exact ek.symm
      | int i => cases rv; simp only [D.truth, Option.some.injEq] at ek; exact ek.symm
      | str y =>
        cases rv with
        | str _ ok => simp only [D.truth, Option.some.injEq] at ek; exact ⟨ok.2, ek.symm⟩
      | lst l =>
        obtain ⟨_, p, vs, e, hs, hp⟩ := rv
        subst e
        simp only [D.truth, Option.some.injEq] at ek
        refine .inl ⟨vs, hs, ?_⟩
        rw [← ek]
        cases hp <;> rfl
      | tup l =>
        cases rv with
        | tup hz hs hp =>
          simp only [D.truth, Option.some.injEq] at ek
          refine .inr (.inl ⟨_, sqT_mono s1.fh hs, ?_⟩)
          rw [← ek]
          cases hp <;> rfl
    · exact q1.elim
  · exact q1.elim
def tNot' (a : Tst) : Tst := fun env w => (a env w).bind fun b w1 => .ok (!b) w1
def tAnd' (a b : Tst) : Tst := fun env w => (a env w).bind fun c w1 => if c = true then b env w1 else .ok false w1
def tOr' (a b : Tst) : Tst := fun env w => (a env w).bind fun c w1 => if c = true then .ok true w1 else b env w1
variable {ta tb : Tst}
theorem jt_not (ha : JT X T Wi a ta) : JT X T Wi (.UnaryOp .Not a pos) (tNot' ta) := by
  refine (pt_not ha).impD fun σ H Q q => ?_
  obtain ⟨B, env, w, F, O, M, s, q⟩ := q
  exact ⟨B, env, w, F, O, M, s, q.bind.imp fun c w1 q1 H1 F1 M1 s1 st1 => q1 H1 F1 M1 s1 st1⟩
theorem jw_and1 (ha : JT X T Wi a ta) : JW X T Wi (.BoolOp .And [a] pos) ta := pw_and1 ha
theorem jw_or1 (ha : JT X T Wi a ta) : JW X T Wi (.BoolOp .Or [a] pos) ta := pw_or1 ha
theorem jw_and (ha : JT X T Wi a ta) (hb : JW X T Wi (.BoolOp .And (b :: rest) pos) tb) : JW X T Wi (.BoolOp .And (a :: b :: rest) pos) (tAnd' ta tb) := by
  refine (pw_and ha hb).impD fun σ H Q q => ?_
  obtain ⟨B, env, w, F, O, M, s, q⟩ := q
  refine ⟨B, env, w, F, O, M, s, q.bind.imp fun c w1 q1 H1 F1 M1 s1 st1 => ?_⟩
  cases c with
  | true =>
    rw [if_pos rfl] at q1 ⊢
    exact ⟨B, env, w1, F1, O, M1, s1, q1.imp fun _ w2 q2 H2 F2 M2 s2 st2 => q2 H2 F2 M2 s2 (st1.trans st2)⟩
  | false =>
    rw [if_neg Bool.false_ne_true] at q1 ⊢
    exact q1 H1 F1 M1 s1 st1
theorem jw_or (ha : JT X T Wi a ta) (hb : JW X T Wi (.BoolOp .Or (b :: rest) pos) tb) : JW X T Wi (.BoolOp .Or (a :: b :: rest) pos) (tOr' ta tb) := by
  refine (pw_or ha hb).impD fun σ H Q q => ?_
  obtain ⟨B, env, w, F, O, M, s, q⟩ := q
  refine ⟨B, env, w, F, O, M, s, q.bind.imp fun c w1 q1 H1 F1 M1 s1 st1 => ?_⟩
  cases c with
  | true =>
    rw [if_pos rfl] at q1 ⊢
    exact q1 H1 F1 M1 s1 st1
  | false =>
    rw [if_neg Bool.false_ne_true] at q1 ⊢
    exact ⟨B, env, w1, F1, O, M1, s1, q1.imp fun _ w2 q2 H2 F2 M2 s2 st2 => q2 H2 F2 M2 s2 (st1.trans st2)⟩
theorem jt_bool {op} (h : JW X T Wi (.BoolOp op (a :: rest) pos) ta) : JT X T Wi (.BoolOp op (a :: rest) pos) ta := PW.pt h
def dIf (t : Tst) (a b : Ex) : Ex := fun env w => (t env w).bind fun c w1 => if c = true then a env w1 else b env w1
theorem je_if (hc : JT X T Wi c ta) (ha : JE X T Wi a da) (hb : JE X T Wi b db) : JE X T Wi (.IfExp c a b pos) (dIf ta da db) := by
  refine (pe_ifExp hc ha hb).impD fun σ H Q q => ?_
  obtain ⟨B, env, w, F, O, M, s, q⟩ := q
  refine ⟨B, env, w, F, O, M, s, q.bind.imp fun c w1 q1 H1 F1 M1 s1 st1 => ?_⟩
  cases c with
  | true =>
    rw [if_pos rfl] at q1 ⊢
    exact ⟨B, env, w1, F1, O, M1, s1, q1.imp fun rb w2 q2 v H2 F2 M2 s2 st2 r2 => q2 v H2 F2 M2 s2 (st1.trans st2) (RV.since r2 st1.th)⟩
  | false =>
    rw [if_neg Bool.false_ne_true] at q1 ⊢
    exact ⟨B, env, w1, F1, O, M1, s1, q1.imp fun rb w2 q2 v H2 F2 M2 s2 st2 r2 => q2 v H2 F2 M2 s2 (st1.trans st2) (RV.since r2 st1.th)⟩
/-- a < b < c -/
def dChain (g g' : D → D → Option RV) (a b c : Ex) : Ex := fun env w => (a env w).bind fun ra w1 => (b env w1).bind fun rb w2 => match vals2 g ra rb with
  | some (.dat (.bl true)) => (c env w2).bind fun rc w3 => lift (vals2 g' rb rc) w3
  | some (.dat (.bl false)) => .ok (.dat (.bl false)) w2
  | _ => .stuck
theorem chain_read {f f' : Value → Value → Sem Value} {g g' : D → D → Option RV} {r r' : R2} (hr : ∀ x y d e rv H F, Same F H → NoTbl F → Rv X.K F H x d → Rv X.K F H y e → g d e = some rv → ∀ Q : VK, (∀ v H' F', Xt H F H' F' → rv.newAt X.K H H' F' v → Q v H') → r x y H Q)
    (hr' : ∀ x y d e rv H F, Same F H → NoTbl F → Rv X.K F H x d → Rv X.K F H y e → g' d e = some rv → ∀ Q : VK, (∀ v H' F', Xt H F H' F' → rv.newAt X.K H H' F' v → Q v H') → r' x y H Q)
    {σ : St} {H : Hp} {Q : VK} (q : tD (Cx.tx X T) Wi (dChain g g' da db dc) σ H Q) : tChain r r' (tD (Cx.tx X T) Wi da) (tD (Cx.tx X T) Wi db) (tD (Cx.tx X T) Wi dc) σ H Q := by
  obtain ⟨B, env, w, F, O, M, s, q⟩ := q
  refine ⟨B, env, w, F, O, M, s, q.bind.imp fun ra w1 q1 x H1 F1 M1 s1 st1 r1 => ?_⟩
  refine ⟨B, env, w1, F1, O, M1, s1, q1.bind.imp fun rb w2 q2 y H2 F2 M2 s2 st2 r2 => ?_⟩
  split at q2
  · rename_i e
    obtain ⟨d, e', ea, eb, eg⟩ := vals2_some e
    refine hr x y d e' _ H2 F2 s2.fh s2.nt (RV.rv s2 (RV.step r1 st2) ea) (RV.rv s2 r2 eb) eg _ fun v H3 F3 xt nw => ?_
    cases nw
    refine ⟨true, rfl, ?_⟩
    rw [if_pos rfl]
    have s3 := s2.xt xt
    have r2' := RV.step r2 (xt.stp (M := M2))
    refine ⟨B, env, w2, F3, O, M2, s3, q2.bind.imp fun rc w4 q4 z H4 F4 M4 s4 st4 r4 => ?_⟩
    obtain ⟨rv, e2, q5⟩ := q4.lift
    obtain ⟨d2, e2', ea2, eb2, eg2⟩ := vals2_some e2
    refine hr' y z d2 e2' rv H4 F4 s4.fh s4.nt (RV.rv s4 (RV.step r2' st4) ea2) (RV.rv s4 r4 eb2) eg2 Q fun v5 H5 F5 xt5 nw5 => ?_
    have st := ((st1.trans st2).trans xt.stp).trans st4
    exact q5 v5 H5 F5 M4 (s4.xt xt5) (st.trans xt5.stp) (RV.of_new nw5 s4 st.th)
  · rename_i e
    obtain ⟨d, e', ea, eb, eg⟩ := vals2_some e
    refine hr x y d e' _ H2 F2 s2.fh s2.nt (RV.rv s2 (RV.step r1 st2) ea) (RV.rv s2 r2 eb) eg _ fun v H3 F3 xt nw => ?_
    cases nw
    refine ⟨false, rfl, ?_⟩
    rw [if_neg Bool.false_ne_true]
    exact q2 _ _ _ _ (s2.xt xt) ((st1.trans st2).trans xt.stp) (.bl false)
  · exact q2.elim
theorem je_chain {op op' : CmpOp} {g g' : D → D → Option RV} (h : OpS X (compareOp op) g) (h' : OpS X (compareOp op') g') (ha : JE X T Wi a da) (hb : JE X T Wi b db) (hc : JE X T Wi c dc) (hm : lastMarks [op, op'] [b, c] = false := by with_unfolding_all rfl) :
    JE X T Wi (.Compare a [op, op'] [b, c] pos) (dChain g g' da db dc) := by
  obtain ⟨r, ho, hr⟩ := h
  obtain ⟨r', ho', hr'⟩ := h'
  exact (pe_chain ho ho' ha hb hc hm).impD fun σ H Q q => chain_read (f := compareOp op) (f' := compareOp op') hr hr' q
theorem jt_chain {op op' : CmpOp} {g g' : D → D → Option RV} (h : OpS X (compareOp op) g) (h' : OpS X (compareOp op') g') (ha : JE X T Wi a da) (hb : JE X T Wi b db) (hc : JE X T Wi c dc) (hm : lastMarks [op, op'] [b, c] = false := by with_unfolding_all rfl) :
    JT X T Wi (.Compare a [op, op'] [b, c] pos) (dTst (dChain g g' da db dc)) := by
  obtain ⟨r, ho, hr⟩ := h
  obtain ⟨r', ho', hr'⟩ := h'
  exact (pt_chain ho ho' ha hb hc hm).impD fun σ H Q q => chain_read (f := compareOp op) (f' := compareOp op') hr hr' (tst_read q)
/-! ### places -/
theorem atI_pair {α β : Type} {F : α → β → Prop} {vs : List α} {l : List β} {i : Int} {d : β} (h : Paired F vs l) (e : atI l i = some d) : ∃ v, atI vs i = some v ∧ F v d := by
  unfold atI at e ⊢
  rw [h.length]
  cases q : ixN l.length i with
  | none => rw [q] at e; cases e
  | some j => rw [q] at e; exact Pr.get h e
def gIx : D → D → Option RV
  | .lst l, .int i => (atI l i).map .dat
  | .tup l, .int i => (atI l i).map .dat
  | .str s, .int i => (atI s.cps.toList i).map fun c => .dat (.str ⟨#[c]⟩)
  | _, _ => none
theorem sOk_mem {s : Str} {c : Nat} (h : SOk s) (hc : c ∈ s.cps.toList) : SOk ⟨#[c]⟩ := by
  obtain ⟨h, _⟩ := h
  refine ⟨?_, by show 1 ≤ sizeLine; rw [sizeLine_eq]; decide⟩
  unfold PyData.strOk at *
  rw [Array.all_eq_true_iff_forall_mem] at h
  have := h c (by simpa using hc)
  simpa using this
theorem atI_mem {α : Type} {l : List α} {i : Int} {d : α} (e : atI l i = some d) : d ∈ l := by
  obtain ⟨j, _, h, _⟩ := atI_get e
  exact List.mem_of_getElem? h
theorem je_ix (ha : JE X T Wi a da) (hb : JE X T Wi b db) (hs : PlainIx b := by exact fun _ _ => rfl) : JE X T Wi (.Subscript a b pos) (dBin gIx da db) := by
  refine (pe_ix ix_seq ha hb hs).impD fun σ H Q q => op_read (f := getItem) (r := rIx X.K) (fun x y d e rv H F fh nt rx ry h Q q => ?_) q
  cases d <;> cases e <;> first | (simp only [gIx] at h; cases h; done) | skip
  · rename_i z i
    simp only [gIx] at h
    cases ec : atI z.cps.toList i with
    | none => rw [ec] at h; cases h
    | some c =>
      rw [ec] at h
      simp only [Option.map_some, Option.some.injEq] at h; subst h
      cases rx with
      | str _ ok =>
        cases ry
        exact .inr (.inr ⟨_, _, c, rfl, rfl, ok.2, ec, new_val fh nt q (.str _ (sOk_mem ok (atI_mem ec)))⟩)
  · rename_i l i
    simp only [gIx] at h
    cases ec : atI l i with
    | none => rw [ec] at h; cases h
    | some c =>
      rw [ec] at h
      simp only [Option.map_some, Option.some.injEq] at h; subst h
      obtain ⟨_, p, vs, e, hs, hp⟩ := rx
      subst e
      cases ry
      obtain ⟨v, ev, rv⟩ := atI_pair hp ec
      exact .inl ⟨p, vs, _, v, rfl, rfl, hs, ev, new_val fh nt q rv⟩
  · rename_i l i
    simp only [gIx] at h
    cases ec : atI l i with
    | none => rw [ec] at h; cases h
    | some c =>
      rw [ec] at h
      simp only [Option.map_some, Option.some.injEq] at h; subst h
      cases rx with
      | tup hz hs hp =>
        cases ry
        obtain ⟨v, ev, rv⟩ := atI_pair hp ec
        exact .inr (.inl ⟨_, _, _, v, rfl, rfl, sqT_mono fh hs, ev, new_val fh nt q rv⟩)
/-- slices -/
def optI (o : Option Ex) (env : Ev) (w : World) : Out (Option Int) := match o with
  | none => .ok none w
  | some e => (e env w).bind fun r w1 => match r with
    | .dat (.int i) => .ok (some i) w1
    | _ => .stuck
def cutD {α : Type} (l : List α) (lo hi : Option Int) : List α := (l.drop (HT.sIx l.length 0 lo)).take (HT.sIx l.length l.length hi - HT.sIx l.length 0 lo)
def gSl (lo hi : Option Int) : D → Option RV
  | .lst l => some (.fresh (cutD l lo hi))
  | .tup l => some (.dat (.tup (cutD l lo hi)))
  | .str s => some (.dat (.str ⟨(cutD s.cps.toList lo hi).toArray⟩))
  | _ => none
def dSl (a : Ex) (lo hi : Option Ex) : Ex := fun env w => (a env w).bind fun ra w1 => (optI lo env w1).bind fun l w2 => (optI hi env w2).bind fun u w3 => lift (vals1 (gSl l u) ra) w3
def tOpt (X : Tx) (Wi : WX) (o : Option Ex) : TO := fun σ H Q => ∃ B env w F O M, SR X B env w σ H F O M ∧
  Pst (optI o env w) (fun l w' => ∀ H' F' M', SR X B env w' σ H' F' O M' → Stp H F M H' F' M' → Q l H') (badX X B Wi)
abbrev JO (X : Cx) (T : Tbs) (Wi : WX) (e : Option Expr) (d : Option Ex) : Prop := PO X e (tOpt (Cx.tx X T) Wi d)
theorem jo_none : JO X T Wi none none := ⟨fun pins s σ H Q I q => by
  obtain ⟨B, env, w, F, O, M, sr, q⟩ := q
  exact po_none.run pins s σ H Q I (q H F M sr .refl)⟩
theorem jo_some (ha : JE X T Wi a da) : JO X T Wi (some a) (some da) := ⟨fun pins s σ H Q I q => by
  refine (po_some ha).run pins s σ H Q I ?_
  obtain ⟨B, env, w, F, O, M, sr, q⟩ := q
  have q := (show Pst ((da env w).bind fun r w1 => match r with
    | .dat (.int i) => Out.ok (some i) w1
    | _ => .stuck) _ _ from q).bind
  refine ⟨B, env, w, F, O, M, sr, q.imp fun ra w1 q1 x H1 F1 M1 s1 st1 r1 => ?_⟩
  split at q1
  · cases r1; exact ⟨_, rfl, q1 _ _ _ s1 st1⟩
  · exact q1.elim⟩
theorem drop_take_mem {α : Type} {l : List α} {m n : Nat} {c : α} (h : c ∈ (l.drop m).take n) : c ∈ l := List.mem_of_mem_drop (List.mem_of_mem_take h)
theorem cutD_len {α : Type} (l : List α) (lo hi : Option Int) : (cutD l lo hi).length ≤ l.length := by
  unfold cutD
  rw [List.length_take, List.length_drop]
  omega
theorem sOk_cut {s : Str} {lo hi : Option Int} (h : SOk s) : SOk ⟨(cutD s.cps.toList lo hi).toArray⟩ := by
  obtain ⟨h, hz⟩ := h
  refine ⟨?_, Nat.le_trans ?_ hz⟩
  · unfold PyData.strOk at *
    rw [Array.all_eq_true_iff_forall_mem] at h ⊢
    intro c hc
    refine h c ?_
    have : c ∈ cutD s.cps.toList lo hi := by simpa using hc
    have := drop_take_mem this
    simpa using this
  · show (cutD s.cps.toList lo hi).toArray.size ≤ s.cps.size
    have := cutD_len s.cps.toList lo hi
    rw [List.size_toArray]
    simpa using this
theorem cutD_whole {α : Type} {l : List α} {lo hi : Option Int} (h : HT.sIx l.length 0 lo = 0 ∧ HT.sIx l.length l.length hi = l.length) : cutD l lo hi = l := by
  unfold cutD
  rw [h.1, h.2, List.drop_zero, Nat.sub_zero, List.take_length]
theorem cut_pair {α β : Type} {F : α → β → Prop} {vs : List α} {l : List β} {lo hi : Option Int} (h : Paired F vs l) : Paired F ((vs.drop (HT.sIx vs.length 0 lo)).take (HT.sIx vs.length vs.length hi - HT.sIx vs.length 0 lo)) (cutD l lo hi) := by
  unfold cutD
  rw [h.length]
  exact Pr.take _ (Pr.drop _ h)
theorem je_slice {lo hi : Option Expr} {dl dh : Option Ex} {p2 : Pos} (ha : JE X T Wi a da) (hl : JO X T Wi lo dl) (hh : JO X T Wi hi dh) : JE X T Wi (.Subscript a (.Slice lo hi none p2) pos) (dSl da dl dh) := by
  refine (pe_slice (SlR.or sl_list (SlR.or sl_tupA sl_str)) ha hl hh).impD fun σ H Q q => ?_
  obtain ⟨B, env, w, F, O, M, s, q⟩ := q
  refine ⟨B, env, w, F, O, M, s, q.bind.imp fun ra w1 q1 x H1 F1 M1 s1 st1 r1 => ?_⟩
  refine ⟨B, env, w1, F1, O, M1, s1, q1.bind.imp fun l w2 q2 H2 F2 M2 s2 st2 => ?_⟩
  refine ⟨B, env, w2, F2, O, M2, s2, q2.bind.imp fun u w3 q3 H3 F3 M3 s3 st3 => ?_⟩
  obtain ⟨rv, e, q4⟩ := q3.lift
  obtain ⟨d, ea, eg⟩ := vals1_some e
  have rx := RV.rv s3 (RV.step r1 (st2.trans st3)) ea
  have st := (st1.trans st2).trans st3
  have fin : ∀ v H' F', Xt H3 F3 H' F' → rv.newAt X.K H3 H' F' v → Q v H' := fun v H' F' xt nw => q4 v H' F' M3 (s3.xt xt) (st.trans xt.stp) (RV.of_new nw s3 st.th)
  cases d <;> first | (simp only [gSl] at eg; cases eg; done) | skip
  · simp only [gSl, Option.some.injEq] at eg; subst eg
    cases rx with
    | str _ ok => exact .inr (.inr ⟨_, rfl, ok.2, new_val s3.fh s3.nt fin (.str _ (sOk_cut ok))⟩)
  · simp only [gSl, Option.some.injEq] at eg; subst eg
    obtain ⟨hz, p, vs, e, hs, hp⟩ := rx
    subst e
    exact .inl ⟨p, vs, rfl, hs, fun p' hp' => new_lst s3.fh s3.nt fin hp' (Nat.le_trans (cutD_len _ _ _) hz) (cut_pair hp)⟩
  · rename_i k
    simp only [gSl, Option.some.injEq] at eg; subst eg
    cases rx with
    | @tup a vs _ hz hs hp =>
      refine .inr (.inl ⟨a, vs, rfl, sqT_mono s3.fh hs, fun hw => ?_, fun _ p' hp' => new_tup s3.fh s3.nt fin hp' (Nat.le_trans (cutD_len _ _ _) hz) (cut_pair hp)⟩)
      have hw' : HT.sIx k.length 0 l = 0 ∧ HT.sIx k.length k.length u = k.length := by rw [← hp.length]; exact hw
      refine new_val s3.fh s3.nt fin ?_
      rw [cutD_whole hw']
      exact .tup hz hs hp
end
end Dl
/-! DlE: arguments, displays, calls of defs, calls of built-ins. -/
namespace Dl
open PySem PySem.Spec PyProof.Rows L2 NdefX
/-! ### arguments that are kept: what is fresh is frozen -/
def RV.arg : RV → Option RV
  | .dat d => some (.dat d)
  | .fresh l => some (.dat (.lst l))
  | .bor _ _ => none
  | .wref k => some (.wref k)
def argAt (X : Tx) (F : Hp) (M : List Addr) (v : V) : RV → Prop
  | .dat d => Rp X.K F v d
  | .wref k => ∃ m, M[k]? = some m ∧ v = .ref m
  | _ => False
abbrev Exs := Ev → World → Out (List RV)
def aNil : Exs := fun _ w => .ok [] w
def aCons (e : Ex) (r : Exs) : Exs := fun env w => (e env w).bind fun x w1 => match x.arg with
  | some a => (r env w1).bind fun as w2 => .ok (a :: as) w2
  | none => .stuck
/-- read as they are -/
def rNil : Exs := fun _ w => .ok [] w
def rCons (e : Ex) (r : Exs) : Exs := fun env w => (e env w).bind fun x w1 => (r env w1).bind fun xs w2 => .ok (x :: xs) w2
def tA (X : Tx) (Wi : WX) (e : Exs) : TA := fun σ H Q => ∃ B env w F O M, SR X B env w σ H F O M ∧
  Pst (e env w) (fun rs w' => ∀ vs H' F' M', SR X B env w' σ H' F' O M' → Stp H F M H' F' M' → Paired (argAt X F' M') vs rs → Q vs H') (badX X B Wi)
abbrev JA (X : Cx) (T : Tbs) (Wi : WX) (es : List Expr) (d : Exs) : Prop := PA X es (tA (Cx.tx X T) Wi d)
section
variable {X : Tx} {H F H' F' : Hp} {M M' : List Addr}
theorem Stp.freeze {p : Addr} {o : HO} (st : Stp H F M H' F' M') (hp : H p = none) (hF : F' p = none) : Stp H F M H' (upd F' p o) M' :=
  ⟨st.fg.trans (same_upd hF), st.fr, st.th, fun a h e => by
    by_cases z : a = p
    · subst z; exact absurd hp h
    · rw [upd_ne z]; exact st.nf a h e, st.mw⟩
theorem argAt_step {v : V} {r : RV} (h : argAt X F M v r) (st : Stp H F M H' F' M') : argAt X F' M' v r := by
  obtain ⟨nw, em, _⟩ := id st.mw
  cases r with
  | dat d => exact Rp.mono st.fg _ _ h
  | wref k => obtain ⟨m, e1, e2⟩ := h; exact ⟨m, mem_of_pfx em e1, e2⟩
  | fresh l => exact h.elim
  | bor i l => exact h.elim
/-- a value is kept -/
theorem keep_arg {B : Base} {env : Ev} {w w1 : World} {σ : St} {O : Nat → Addr} {v : V} {r a : RV} (s : SR X B env w σ H F O M) (s1 : SR X B env w1 σ H' F' O M') (st : Stp H F M H' F' M') (h : r.isAt X H env O H' F' M' v) (e : r.arg = some a) :
    ∃ F1, SR X B env w1 σ H' F1 O M' ∧ Stp H F M H' F1 M' ∧ argAt X F1 M' v a := by
  cases r with
  | dat d => cases e; exact ⟨F', s1, st, h⟩
  | wref k => cases e; exact ⟨F', s1, st, h⟩
  | bor i l => cases e
  | fresh l =>
    cases e
    obtain ⟨hz, p, vs, e1, e2, e3, e4, e5, e6⟩ := h
    have hB : B.H p = none := by
      cases q : B.H p with
      | none => rfl
      | some o => exact absurd e2 (s.st.th p (by rw [q]; simp))
    have hO : ∀ i l, env[i]? = some (.own l) → O i ≠ p := fun i l e z => by
      obtain ⟨_, _, _, _, _, ws, q, _⟩ := s.sl i _ e
      rw [z, e2] at q; cases q
    refine ⟨upd F' p (.lst vs), s1.freeze hB e4 hO e5 e3, st.freeze e2 e3, ?_⟩
    subst e1
    exact .lst hz (SqL.of upd_same) (Rp.monoAll (same_upd e3) _ _ e6)
end
section
variable {X : Cx} {T : Tbs} {Wi : WX} {pos : Pos} {e : Expr} {es : List Expr} {d : Ex} {ds : Exs}
theorem ja_nil : JA X T Wi [] aNil := pa_nil.impD fun σ H Q q => by
  obtain ⟨B, env, w, F, O, M, s, q⟩ := q
  exact q [] H F M s .refl .nil
theorem ja_cons (h : JE X T Wi e d) (hs : JA X T Wi es ds) (hst : starEach (e :: es) X.env = (false, eval e X.env) :: starEach es X.env := by rfl) : JA X T Wi (e :: es) (aCons d ds) := by
  refine (pa_cons h hs hst).impD fun σ H Q q => ?_
  obtain ⟨B, env, w, F, O, M, s, q⟩ := q
  refine ⟨B, env, w, F, O, M, s, q.bind.imp fun r w1 q1 x H1 F1 M1 s1 st1 r1 => ?_⟩
  split at q1
  · rename_i a ea
    obtain ⟨F2, s2, st2, a2⟩ := keep_arg s s1 st1 r1 ea
    exact ⟨B, env, w1, F2, O, M1, s2, q1.bind.imp fun as w3 q3 vs H3 F3 M3 s3 st3 p3 => q3 (x :: vs) H3 F3 M3 s3 (st2.trans st3) (.cons (argAt_step a2 st3) p3)⟩
  · exact q1.elim
theorem jr_nil : JR X T Wi [] rNil := pa_nil.impD fun σ H Q q => by
  obtain ⟨B, env, w, F, O, M, s, q⟩ := q
  exact q [] H F M s .refl .nil
theorem jr_cons (h : JE X T Wi e d) (hs : JR X T Wi es ds) (hst : starEach (e :: es) X.env = (false, eval e X.env) :: starEach es X.env := by rfl) : JR X T Wi (e :: es) (rCons d ds) := by
  refine (pa_cons h hs hst).impD fun σ H Q q => ?_
  obtain ⟨B, env, w, F, O, M, s, q⟩ := q
  refine ⟨B, env, w, F, O, M, s, q.bind.imp fun r w1 q1 x H1 F1 M1 s1 st1 r1 => ?_⟩
  exact ⟨B, env, w1, F1, O, M1, s1, q1.bind.imp fun as w3 q3 vs H3 F3 M3 s3 st3 p3 => q3 (x :: vs) H3 F3 M3 s3 (st1.trans st3) (.cons (RV.step r1 st3) (Paired.mapP p3 fun _ _ z => RV.since z st1.th))⟩
/-! ### displays -/
def RV.dd : RV → Option D
  | .dat d => some d
  | _ => none
def dats : List RV → Option (List D)
  | [] => some []
  | r :: rs => match r.dd, dats rs with
    | some d, some ds => some (d :: ds)
    | _, _ => none
theorem dats_at {X : Tx} {F : Hp} {M : List Addr} : ∀ {vs : List V} {rs : List RV} {ds : List D}, Paired (argAt X F M) vs rs → dats rs = some ds → Paired (Rp X.K F) vs ds
  | _, _, _, .nil, e => by cases e; exact .nil
  | _, r :: rs, ds, .cons h t, e => by
    unfold dats at e
    split at e
    · rename_i d ds' e1 e2
      cases e
      refine .cons ?_ (dats_at t e2)
      cases r with
      | dat d' => cases e1; exact h
      | _ => cases e1
    · cases e
def dTup (es : Exs) : Ex := fun env w => (es env w).bind fun rs w1 => match dats rs with
  | some ds => if ds.length ≤ 1000 then .ok (.dat (.tup ds)) w1 else .stuck
  | none => .stuck
def dLst (es : Exs) : Ex := fun env w => (es env w).bind fun rs w1 => match dats rs with
  | some ds => if ds.length ≤ 1000 then .ok (.fresh ds) w1 else .stuck
  | none => .stuck
theorem je_tup {k : Nat} (h : JA X T Wi es ds) : JE X T Wi (.Tuple es k pos) (dTup ds) := by
  refine (pe_tup h).impD fun σ H Q q => ?_
  obtain ⟨B, env, w, F, O, M, s, q⟩ := q
  refine ⟨B, env, w, F, O, M, s, q.bind.imp fun rs w1 q1 vs H1 F1 M1 s1 st1 p1 => ?_⟩
  split at q1
  · rename_i l el
    split at q1
    · rename_i hz
      have pp := dats_at p1 el
      have hz' : l.length ≤ sizeLine := Nat.le_trans hz (by rw [sizeLine_eq]; decide)
      exact ⟨by rw [pp.length]; exact hz', fun p hp => new_tup s1.fh s1.nt (fun v H' F' xt nw => q1 v H' F' M1 (s1.xt xt) (st1.trans xt.stp) (RV.of_new nw s1 st1.th)) hp hz' pp⟩
    · exact q1.elim
  · exact q1.elim
theorem je_lst (h : JA X T Wi es ds) : JE X T Wi (.List es pos) (dLst ds) := by
  refine (pe_lst h).impD fun σ H Q q => ?_
  obtain ⟨B, env, w, F, O, M, s, q⟩ := q
  refine ⟨B, env, w, F, O, M, s, q.bind.imp fun rs w1 q1 vs H1 F1 M1 s1 st1 p1 => ?_⟩
  split at q1
  · rename_i l el
    split at q1
    · rename_i hz
      have pp := dats_at p1 el
      have hz' : l.length ≤ sizeLine := Nat.le_trans hz (by rw [sizeLine_eq]; decide)
      exact ⟨by rw [pp.length]; exact hz', fun p hp => new_lst s1.fh s1.nt (fun v H' F' xt nw => q1 v H' F' M1 (s1.xt xt) (st1.trans xt.stp) (RV.of_new nw s1 st1.th)) hp hz' pp⟩
    · exact q1.elim
  · exact q1.elim
end
/-! ### calls of defs -/
structure Cs where
  call : Nat → List RV → World → Out RV
  room : Nat
/-- what a def promises that computes m -/
def spD (X : Tx) (m : List RV → World → Out RV) : Sp := fun vs H Q E => ∃ F M args w, Same F H ∧ NoTbl F ∧ WRel X F H M w ∧ TabsN X.T.tabs H ∧ Paired (argAt X F M) vs args ∧
  Pst (m args w) (fun r w' => ∀ v H' F' M', Same F' H' → NoTbl F' → WRel X F' H' M' w' → TabsN X.T.tabs H' → Stp H F M H' F' M' → r.isAt X H [] (fun _ => 0) H' F' M' v → Q v H')
    (fun x _ w' => ∀ cls d H' F' M', Same F' H' → NoTbl F' → WRel X F' H' M' w' → TabsN X.T.tabs H' → Stp H F M H' F' M' → x.isAt X F' H' cls d → E cls d H')
/-- the def by the name x is the i-th one -/
structure Cal (X : Cx) (T : Tbs) (n : Nat) (C : Cs) (x : Str) (i : Nat) : Prop where
  ex : ∃ (a : Addr) (fd : FuncData) (ps : List Str), X.mg x = some (.ref a) ∧ PySem.W.keepIn X.K (.ref a) = true ∧ Binds X.K fd ps [] ∧ FnOk X.prog X.w X.K X.mg X.base (L2.CX X.prog X.w) n a fd ps (spD (Cx.tx X T) (C.call i))
def withEnv {α : Type} (env : Ev) (o : Out α) : Out α := match o with
  | .ok a w => .ok a w
  | .exc x _ w => .exc x env w
  | .stuck => .stuck
def dCall (C : Cs) (i : Nat) (as : Exs) : Ex := fun env w => (as env w).bind fun rs w1 => withEnv env (C.call i rs w1)
@[simp] theorem withEnv_ok {α : Type} (env : Ev) (a : α) (w : World) : withEnv env (.ok a w) = .ok a w := rfl
theorem isAt_nil {X : Tx} {Hs H F : Hp} {M : List Addr} {v : V} {r : RV} {env : Ev} {O : Nat → Addr} (h : r.isAt X Hs [] (fun _ => 0) H F M v) : r.isAt X Hs env O H F M v := by
  cases r with
  | bor i l => obtain ⟨e, _⟩ := h; cases i <;> cases e
  | dat d => exact h
  | fresh l => exact h
  | wref k => exact h
section
variable {X : Cx} {T : Tbs} {Wi : WX} {pos p : Pos} {e : Expr} {es : List Expr} {d : Ex} {ds : Exs} {C : Cs} {n i : Nat} {x : Str}
theorem je_call (c : Cal X T n C x i) (hr : Room n X.A) (tk : Takes X Wi) (hg : Gl X x) (h : JA X T Wi (e :: es) ds) (hdb : (x == ("__debug__" : Str)) = false := by decide)
    (he : starEach (e :: es) X.env = (false, eval e X.env) :: starEach es X.env := by rfl) (hpl : (backTo pos (starEach es X.env)).any (·.1) = false := by rfl) : JE X T Wi (.Call (.Name x p) (e :: es) [] pos) (dCall C i ds) := by
  obtain ⟨a, fd, ps, hm, hk, hb, F⟩ := c.ex
  refine (pe_callS F hr hg hm hk hb (fun σ => passAt tk σ) h hdb he hpl).impD fun σ H Q q => ?_
  obtain ⟨B, env, w, F, O, M, s, q⟩ := q
  refine ⟨B, env, w, F, O, M, s, q.bind.imp fun rs w1 q1 vs H1 F1 M1 s1 st1 p1 => ?_⟩
  refine ⟨F1, M1, rs, w1, s1.fh, s1.nt, s1.wr, s1.tb, p1, ?_⟩
  cases ec : C.call i rs w1 with
  | stuck => rw [ec] at q1; exact q1.elim
  | ok r w2 =>
    rw [ec] at q1
    intro v H2 F2 M2 fh nt wr tb st2 r2
    exact q1 v H2 F2 M2 (s1.step st2 fh nt wr tb) (st1.trans st2) (RV.since (isAt_nil r2) st1.th)
  | exc x' env' w2 =>
    rw [ec] at q1
    intro cls d' H2 F2 M2 fh nt wr tb st2 r2
    exact q1 cls d' σ H2 F2 O M2 (s1.step st2 fh nt wr tb) r2
end
/-! ### calls of built-ins -/
def CaS (X : Cx) (f : Value) (g : List D → Option RV) : Prop :=
  ∃ r, CallR X f r ∧ ∀ xs ds rv H F, Same F H → NoTbl F → Paired (Rv X.K F H) xs ds → g ds = some rv → ∀ Q : VK, (∀ v H' F', Xt H F H' F' → rv.newAt X.K H H' F' v → Q v H') → r xs H Q
def vals : List RV → Option (List D)
  | [] => some []
  | r :: rs => match r.val, vals rs with
    | some d, some ds => some (d :: ds)
    | _, _ => none
def dBlt (g : List D → Option RV) (es : Exs) : Ex := fun env w => (es env w).bind fun rs w1 => match vals rs with
  | some ds => lift (g ds) w1
  | none => .stuck
theorem vals_at {X : Tx} {B : Base} {env : Ev} {w : World} {σ : St} {Hs H F : Hp} {O : Nat → Addr} {M : List Addr} (s : SR X B env w σ H F O M) : ∀ {vs : List V} {rs : List RV} {ds : List D}, Paired (fun v r => RV.isAt X Hs env O H F M v r) vs rs → vals rs = some ds → Paired (Rv X.K F H) vs ds
  | _, _, _, .nil, e => by cases e; exact .nil
  | _, r :: rs, ds, .cons h t, e => by
    unfold vals at e
    split at e
    · rename_i d ds' e1 e2
      cases e
      exact .cons (RV.rv s h e1) (vals_at s t e2)
    · cases e
section
variable {X : Cx} {T : Tbs} {Wi : WX} {pos p : Pos} {e : Expr} {es : List Expr} {d : Ex} {ds : Exs} {x : Str}
theorem blt_read {g : List D → Option RV} {r : List V → Hp → VK → Prop} (hr : ∀ xs ds rv H F, Same F H → NoTbl F → Paired (Rv X.K F H) xs ds → g ds = some rv → ∀ Q : VK, (∀ v H' F', Xt H F H' F' → rv.newAt X.K H H' F' v → Q v H') → r xs H Q)
    {σ : St} {H : Hp} {Q : VK} (q : tD (Cx.tx X T) Wi (dBlt g ds) σ H Q) : tR (Cx.tx X T) Wi ds σ H (fun vs H1 => r vs H1 Q) := by
  obtain ⟨B, env, w, F, O, M, s, q⟩ := q
  refine ⟨B, env, w, F, O, M, s, q.bind.imp fun rs w1 q1 vs H1 F1 M1 s1 st1 p1 => ?_⟩
  split at q1
  · rename_i l el
    obtain ⟨rv, e, q3⟩ := q1.lift
    refine hr vs l rv H1 F1 s1.fh s1.nt (vals_at s1 p1 el) e Q fun v H' F' xt nw => ?_
    exact q3 v H' F' M1 (s1.xt xt) (st1.trans xt.stp) (RV.of_new nw s1 st1.th)
  · exact q1.elim
theorem je_blt {id : String} {g : List D → Option RV} (hc : CaS X (.builtin id) g) (hg : Gl X x) (hm : X.mg x = none) (hv : bootBuiltins x = some (.builtin id)) (h : JR X T Wi (e :: es) ds)
    (hd : (x == ("__debug__" : Str)) = false := by decide) (hn : x ≠ "__name__" := by decide)
    (he : starEach (e :: es) X.env = (false, eval e X.env) :: starEach es X.env := by rfl) (hpl : (backTo pos (starEach es X.env)).any (·.1) = false := by rfl) : JE X T Wi (.Call (.Name x p) (e :: es) [] pos) (dBlt g ds) := by
  obtain ⟨r, hc, hr⟩ := hc
  exact (pe_callB hc hg hm hv h hn hd he hpl).impD fun σ H Q q => blt_read hr q
theorem je_bty {id : String} {g : List D → Option RV} (hc : CaS X (.type id) g) (hg : Gl X x) (hm : X.mg x = none) (hv : bootBuiltins x = some (.type id)) (h : JR X T Wi (e :: es) ds)
    (hd : (x == ("__debug__" : Str)) = false := by decide) (hn : x ≠ "__name__" := by decide)
    (he : starEach (e :: es) X.env = (false, eval e X.env) :: starEach es X.env := by rfl) (hpl : (backTo pos (starEach es X.env)).any (·.1) = false := by rfl) : JE X T Wi (.Call (.Name x p) (e :: es) [] pos) (dBlt g ds) := by
  obtain ⟨r, hc, hr⟩ := hc
  exact (pe_callTy hc hg hm hv h hn hd he hpl).impD fun σ H Q q => blt_read hr q
end
end Dl
/-! DlF: the built-in functions on data; isinstance. -/
namespace Dl
open PySem PySem.Spec PyProof.Rows L2 NdefX
def intsOf : List D → Option (List Int)
  | [] => some []
  | .int i :: l => (intsOf l).map (i :: ·)
  | _ :: _ => none
def bolsOf : List D → Option (List Bool)
  | [] => some []
  | .bl i :: l => (bolsOf l).map (i :: ·)
  | _ :: _ => none
theorem ints_at {K : PySem.W.Frag} {F : Hp} : ∀ {vs : List V} {l : List D} {ns : List Int}, Paired (Rp K F) vs l → intsOf l = some ns → vs = ns.map V.int
  | _, _, _, .nil, e => by cases e; rfl
  | v :: vs, d :: l, ns, .cons h t, e => by
    cases d <;> first | (simp only [intsOf] at e; cases e; done) | skip
    rename_i i
    simp only [intsOf] at e
    cases q : intsOf l with
    | none => rw [q] at e; cases e
    | some ms =>
      rw [q] at e
      simp only [Option.map_some, Option.some.injEq] at e; subst e
      cases h
      rw [ints_at t q]
      rfl
theorem bols_at {K : PySem.W.Frag} {F : Hp} : ∀ {vs : List V} {l : List D} {ns : List Bool}, Paired (Rp K F) vs l → bolsOf l = some ns → vs = ns.map V.bl
  | _, _, _, .nil, e => by cases e; rfl
  | v :: vs, d :: l, ns, .cons h t, e => by
    cases d <;> first | (simp only [bolsOf] at e; cases e; done) | skip
    rename_i i
    simp only [bolsOf] at e
    cases q : bolsOf l with
    | none => rw [q] at e; cases e
    | some ms =>
      rw [q] at e
      simp only [Option.map_some, Option.some.injEq] at e; subst e
      cases h
      rw [bols_at t q]
      rfl
@[simp] theorem intsOf_map (ns : List Int) : intsOf (ns.map D.int) = some ns := by
  induction ns with
  | nil => rfl
  | cons n ns ih => simp [intsOf, ih]
@[simp] theorem bolsOf_map (ns : List Bool) : bolsOf (ns.map D.bl) = some ns := by
  induction ns with
  | nil => rfl
  | cons n ns ih => simp [bolsOf, ih]
/-- the items of a list or tuple -/
def D.items : D → Option (List D)
  | .lst l => some l
  | .tup l => some l
  | _ => none
theorem rv_items {K : PySem.W.Frag} {F H : Hp} {v : V} {d : D} {l : List D} (fh : Same F H) (h : Rv K F H v d) (e : d.items = some l) : l.length ≤ sizeLine ∧ ∃ p vs, v = .ref p ∧ (SqL K H p vs ∨ SqT K H p vs) ∧ Paired (Rp K F) vs l := by
  cases d with
  | lst m => cases e; obtain ⟨hz, p, vs, e1, h1, h2⟩ := h; exact ⟨hz, p, vs, e1, .inl h1, h2⟩
  | tup m => cases e; cases h with | tup hz h1 h2 => exact ⟨hz, _, _, rfl, .inr (sqT_mono fh h1), h2⟩
  | _ => cases e
def cLen : List D → Option RV
  | [.str s] => some (.dat (.int s.length))
  | [.lst l] => some (.dat (.int l.length))
  | [.tup l] => some (.dat (.int l.length))
  | _ => none
def cInt : List D → Option RV
  | [.int i] => some (.dat (.int i))
  | [.bl b] => some (.dat (.int (if b then 1 else 0)))
  | _ => none
def cTuple : List D → Option RV
  | [.lst l] => some (.dat (.tup l))
  | [.tup l] => some (.dat (.tup l))
  | _ => none
def cList : List D → Option RV
  | [.lst l] => some (.fresh l)
  | [.tup l] => some (.fresh l)
  | _ => none
def cSum : List D → Option RV
  | [.lst l] => (intsOf l).map fun ns => .dat (.int ns.sum)
  | _ => none
def cAll : List D → Option RV
  | [.lst l] => (bolsOf l).map fun ns => .dat (.bl (ns.all id))
  | _ => none
def cAny : List D → Option RV
  | [.lst l] => (bolsOf l).map fun ns => .dat (.bl (ns.any id))
  | _ => none
def cMax2 : List D → Option RV
  | [.int i, .int j] => some (.dat (.int (if j > i then j else i)))
  | _ => none
def cMin2 : List D → Option RV
  | [.int i, .int j] => some (.dat (.int (if j < i then j else i)))
  | _ => none
def cAbs : List D → Option RV
  | [.int i] => some (.dat (.int (if i < 0 then -i else i)))
  | _ => none
section
variable {X : Cx}
theorem cs_len : CaS X (.builtin "len") cLen := by
  refine ⟨_, call_len_str.or call_len_seq, fun xs ds rv H F fh nt p h Q q => ?_⟩
  unfold cLen at h
  split at h
  · simp only [Option.some.injEq] at h; subst h
    cases p with | cons h1 h2 => cases h2; cases h1 with | str _ ok => exact .inl ⟨_, rfl, ok.2, new_val fh nt q (.int _)⟩
  · simp only [Option.some.injEq] at h; subst h
    cases p with
    | cons h1 h2 =>
      cases h2
      obtain ⟨_, a, vs, e, h3, h4⟩ := h1
      subst e
      refine .inr ⟨a, vs, rfl, .inl h3, ?_⟩
      rw [h4.length]
      exact new_val fh nt q (.int _)
  · simp only [Option.some.injEq] at h; subst h
    cases p with
    | cons h1 h2 =>
      cases h2
      cases h1 with
      | tup hz h3 h4 =>
        refine .inr ⟨_, _, rfl, .inr (sqT_mono fh h3), ?_⟩
        rw [h4.length]
        exact new_val fh nt q (.int _)
  · cases h
theorem cs_int : CaS X (.type "int") cInt := by
  refine ⟨_, call_int1, fun xs ds rv H F fh nt p h Q q => ?_⟩
  unfold cInt at h
  split at h
  · simp only [Option.some.injEq] at h; subst h
    cases p with | cons h1 h2 => cases h2; cases h1; exact .inl ⟨_, rfl, new_val fh nt q (.int _)⟩
  · simp only [Option.some.injEq] at h; subst h
    cases p with | cons h1 h2 => cases h2; cases h1; exact .inr ⟨_, rfl, new_val fh nt q (.int _)⟩
  · cases h
theorem cs_tuple : CaS X (.type "tuple") cTuple := by
  refine ⟨_, call_tuple_of, fun xs ds rv H F fh nt p h Q q => ?_⟩
  unfold cTuple at h
  split at h
  · simp only [Option.some.injEq] at h; subst h
    cases p with
    | cons h1 h2 =>
      cases h2
      obtain ⟨hz, a, vs, e, h3, h4⟩ := h1
      subst e
      exact ⟨a, vs, rfl, .inl ⟨h3, fun p hp => new_tup fh nt q hp hz h4⟩⟩
  · simp only [Option.some.injEq] at h; subst h
    cases p with
    | cons h1 h2 =>
      cases h2
      cases h1 with
      | tup hz h3 h4 => exact ⟨_, _, rfl, .inr ⟨sqT_mono fh h3, new_val fh nt q (.tup hz h3 h4)⟩⟩
  · cases h
theorem cs_list : CaS X (.type "list") cList := by
  refine ⟨_, call_list_of, fun xs ds rv H F fh nt p h Q q => ?_⟩
  unfold cList at h
  split at h
  · simp only [Option.some.injEq] at h; subst h
    cases p with
    | cons h1 h2 =>
      cases h2
      obtain ⟨hz, a, vs, e, h3, h4⟩ := h1
      subst e
      exact ⟨a, vs, rfl, .inl h3, fun p hp => new_lst fh nt q hp hz h4⟩
  · simp only [Option.some.injEq] at h; subst h
    cases p with
    | cons h1 h2 =>
      cases h2
      cases h1 with
      | tup hz h3 h4 => exact ⟨_, _, rfl, .inr (sqT_mono fh h3), fun p hp => new_lst fh nt q hp hz h4⟩
  · cases h
theorem cs_sum (hc : X.calm = true) : CaS X (.builtin "sum") cSum := by
  refine ⟨_, cr_sum hc, fun xs ds rv H F fh nt p h Q q => ?_⟩
  unfold cSum at h
  split at h
  · rename_i l
    cases e : intsOf l with
    | none => rw [e] at h; cases h
    | some ns =>
      rw [e] at h
      simp only [Option.map_some, Option.some.injEq] at h; subst h
      cases p with
      | cons h1 h2 =>
        cases h2
        obtain ⟨hz, a, vs, e1, h3, h4⟩ := h1
        subst e1
        rw [ints_at h4 e] at h3
        exact ⟨a, ns, rfl, h3, new_val fh nt q (.int _)⟩
  · cases h
theorem cs_all (hc : X.calm = true) : CaS X (.builtin "all") cAll := by
  refine ⟨_, cr_all hc, fun xs ds rv H F fh nt p h Q q => ?_⟩
  unfold cAll at h
  split at h
  · rename_i l
    cases e : bolsOf l with
    | none => rw [e] at h; cases h
    | some ns =>
      rw [e] at h
      simp only [Option.map_some, Option.some.injEq] at h; subst h
      cases p with
      | cons h1 h2 =>
        cases h2
        obtain ⟨hz, a, vs, e1, h3, h4⟩ := h1
        subst e1
        rw [bols_at h4 e] at h3
        exact ⟨a, ns, rfl, h3, new_val fh nt q (.bl _)⟩
  · cases h
theorem cs_any (hc : X.calm = true) : CaS X (.builtin "any") cAny := by
  refine ⟨_, cr_any hc, fun xs ds rv H F fh nt p h Q q => ?_⟩
  unfold cAny at h
  split at h
  · rename_i l
    cases e : bolsOf l with
    | none => rw [e] at h; cases h
    | some ns =>
      rw [e] at h
      simp only [Option.map_some, Option.some.injEq] at h; subst h
      cases p with
      | cons h1 h2 =>
        cases h2
        obtain ⟨hz, a, vs, e1, h3, h4⟩ := h1
        subst e1
        rw [bols_at h4 e] at h3
        exact ⟨a, ns, rfl, h3, new_val fh nt q (.bl _)⟩
  · cases h
theorem cs_max2 (hc : X.calm = true) : CaS X (.builtin "max") cMax2 := by
  refine ⟨_, call_max2 hc, fun xs ds rv H F fh nt p h Q q => ?_⟩
  unfold cMax2 at h
  split at h
  · simp only [Option.some.injEq] at h; subst h
    cases p with | cons h1 h2 => cases h2 with | cons h3 h4 => cases h4; cases h1; cases h3; exact ⟨_, _, rfl, new_val fh nt q (.int _)⟩
  · cases h
theorem cs_min2 (hc : X.calm = true) : CaS X (.builtin "min") cMin2 := by
  refine ⟨_, call_min2 hc, fun xs ds rv H F fh nt p h Q q => ?_⟩
  unfold cMin2 at h
  split at h
  · simp only [Option.some.injEq] at h; subst h
    cases p with | cons h1 h2 => cases h2 with | cons h3 h4 => cases h4; cases h1; cases h3; exact ⟨_, _, rfl, new_val fh nt q (.int _)⟩
  · cases h
theorem cs_abs : CaS X (.builtin "abs") cAbs := by
  refine ⟨_, call_abs, fun xs ds rv H F fh nt p h Q q => ?_⟩
  unfold cAbs at h
  split at h
  · simp only [Option.some.injEq] at h; subst h
    cases p with | cons h1 h2 => cases h2; cases h1; exact ⟨_, rfl, new_val fh nt q (.int _)⟩
  · cases h
end
/-! ### isinstance -/
def D.tyName : D → String
  | .non => "NoneType"
  | .bl _ => "bool"
  | .int _ => "int"
  | .str _ => "str"
  | .lst _ => "list"
  | .tup _ => "tuple"
inductive Ty where
  | int | bool | str | tuple | list
def Ty.nm : Ty → String
  | .int => "int"
  | .bool => "bool"
  | .str => "str"
  | .tuple => "tuple"
  | .list => "list"
def D.isTy : D → Ty → Bool
  | .int _, .int => true
  | .bl _, .int => true
  | .bl _, .bool => true
  | .str _, .str => true
  | .tup _, .tuple => true
  | .lst _, .list => true
  | _, _ => false
theorem kit_isTy (d : D) (t : Ty) : kitB d.tyName t.nm = some (d.isTy t) := by
  cases d <;> cases t <;> (show kitB _ _ = some _; simp only [D.tyName, Ty.nm, D.isTy]; decide +kernel)
def gIsi (ts : List Ty) (d : D) : Option RV := some (.dat (.bl (ts.any d.isTy)))
theorem tyX_of {K : PySem.W.Frag} {F H : Hp} {v : V} {d : D} (fh : Same F H) (h : Rv K F H v d) : TyX K H v (.type d.tyName) := by
  cases d with
  | non => cases h; exact .base .non
  | bl b => cases h; exact .base (.bl b)
  | int i => cases h; exact .base (.int i)
  | str s => cases h; exact .base (.str s)
  | lst l =>
    obtain ⟨_, p, vs, e, h1, _⟩ := h
    subst e
    rcases h1 with (h1 | ⟨o, h1⟩) | ⟨o, its, n, h1, h2, _⟩
    · exact .base (.lst h1)
    · exact .base (.frz h1)
    · exact .kList h1 h2
  | tup l =>
    cases h with
    | tup hz h1 _ =>
      rcases h1 with (h1 | ⟨o, h1⟩) | ⟨o, its, n, h1, h2, _⟩
      · exact .base (.tup (fh _ _ h1))
      · exact .fTuple (fh _ _ h1)
      · exact .kTuple h1 h2
section
variable {X : Cx} {T : Tbs} {Wi : WX} {pos p p1 p2 pt : Pos} {a : Expr} {da : Ex} {x : Str}
theorem je_isi {t : Ty} {y : Str} (hg : Gl X "isinstance") (hm : X.mg "isinstance" = none) (hgt : Gl X y) (hmt : X.mg y = none) (hvt : bootBuiltins y = some (.type t.nm)) (ha : JE X T Wi a da)
    (hnt : y ≠ "__name__" := by decide) (hdt : (y == ("__debug__" : Str)) = false := by decide)
    (he : starEach (a :: [.Name y p1]) X.env = (false, eval a X.env) :: starEach [.Name y p1] X.env := by rfl) (hpl : (backTo pos (starEach [.Name y p1] X.env)).any (·.1) = false := by rfl)
    (he2 : starEach [.Name y p1] X.env = (false, eval (.Name y p1) X.env) :: starEach [] X.env := by rfl) : JE X T Wi (.Call (.Name "isinstance" p) [a, .Name y p1] [] pos) (dUn (gIsi [t]) da) := by
  refine (pe_callB call_isi hg hm boot_isinstance (pa_cons ha (pa_cons (pe_bltn hgt hmt hvt (v := .ty t.nm) rfl hnt hdt) pa_nil he2) he) (by decide) (by decide) he hpl).impD fun σ H Q q => ?_
  refine un_read (r := fun x H1 Q => rIsi X.K [x, .ty t.nm] H1 Q) (fun x d rv H F fh nt rx h Q q => ?_) q
  simp only [gIsi, Option.some.injEq] at h; subst h
  refine ⟨x, .ty t.nm, .type d.tyName, .type t.nm, d.isTy t, rfl, .ty _, tyX_of fh rx, kit_ty (kit_isTy d t), ?_⟩
  refine new_val fh nt q ?_
  simp only [List.any_cons, List.any_nil, Bool.or_false]
  exact .bl _
theorem je_isi2 {t t2 : Ty} {y z : Str} {k : Nat} (hg : Gl X "isinstance") (hm : X.mg "isinstance" = none) (hgt : Gl X y) (hmt : X.mg y = none) (hvt : bootBuiltins y = some (.type t.nm)) (hgz : Gl X z) (hmz : X.mg z = none) (hvz : bootBuiltins z = some (.type t2.nm)) (ha : JE X T Wi a da)
    (hnt : y ≠ "__name__" := by decide) (hdt : (y == ("__debug__" : Str)) = false := by decide) (hnz : z ≠ "__name__" := by decide) (hdz : (z == ("__debug__" : Str)) = false := by decide)
    (he : starEach (a :: [.Tuple [.Name y p1, .Name z p2] k pt]) X.env = (false, eval a X.env) :: starEach [.Tuple [.Name y p1, .Name z p2] k pt] X.env := by rfl) (hpl : (backTo pos (starEach [.Tuple [.Name y p1, .Name z p2] k pt] X.env)).any (·.1) = false := by rfl)
    (he2 : starEach [.Tuple [.Name y p1, .Name z p2] k pt] X.env = (false, eval (.Tuple [.Name y p1, .Name z p2] k pt) X.env) :: starEach [] X.env := by rfl)
    (he3 : starEach [.Name y p1, .Name z p2] X.env = (false, eval (.Name y p1) X.env) :: starEach [.Name z p2] X.env := by rfl) (he4 : starEach [.Name z p2] X.env = (false, eval (.Name z p2) X.env) :: starEach [] X.env := by rfl) :
    JE X T Wi (.Call (.Name "isinstance" p) [a, .Tuple [.Name y p1, .Name z p2] k pt] [] pos) (dUn (gIsi [t, t2]) da) := by
  refine (pe_callB call_isiT hg hm boot_isinstance (pa_cons ha (pa_cons (pe_tup (pa_cons (pe_bltn hgt hmt hvt (v := .ty t.nm) rfl hnt hdt) (pa_cons (pe_bltn hgz hmz hvz (v := .ty t2.nm) rfl hnz hdz) pa_nil he4) he3)) pa_nil he2) he) (by decide) (by decide) he hpl).impD fun σ H Q q => ?_
  refine un_read (r := fun x H1 Q => tCons (tTup (tCons (tC (.ty t.nm)) (tCons (tC (.ty t2.nm)) tNil))) tNil σ H1 fun xs H2 => rIsiT X.K (x :: xs) H2 Q) (fun x d rv H F fh nt rx h Q q => ?_) q
  simp only [gIsi, Option.some.injEq] at h; subst h
  refine ⟨by show 2 ≤ sizeLine; rw [sizeLine_eq]; decide, fun tp ht => ?_⟩
  have xt : Xt H F (upd H tp (.tup [.ty t.nm, .ty t2.nm])) F := ⟨same_upd ht, Same.refl _, fh.trans (same_upd ht), fun _ _ e => e, nt⟩
  refine ⟨x, tp, [.ty t.nm, .ty t2.nm], .type d.tyName, [.type t.nm, .type t2.nm], d.isTy t || d.isTy t2, rfl, upd_same, .cons (.ty _) (.cons (.ty _) .nil), ?_, ?_, ?_⟩
  · have rx' : Rv X.K F (upd H tp (.tup [.ty t.nm, .ty t2.nm])) x d := by
      cases d with
      | lst l => obtain ⟨hz, p, vs, e, h1, h2⟩ := rx; exact ⟨hz, p, vs, e, xt.hh.seq h1, h2⟩
      | _ => exact rx
    exact tyX_of xt.fh rx'
  · refine kitAny_cons (kit_ty (kit_isTy d t)) (fun e => ?_) (fun e => ?_)
    · rw [e, Bool.false_or]
      exact kitAny_cons (kit_ty (kit_isTy d t2)) (fun e => by rw [e]; exact kitAny_nil) (fun e => by rw [e])
    · rw [e, Bool.true_or]
  · refine q _ _ _ xt ?_
    simp only [List.any_cons, List.any_nil, Bool.or_false]
    exact .bl _
end
end Dl
/-! DlG: what is walked; targets; list comprehensions. -/
namespace Dl
open PySem PySem.Spec PyProof.Rows L2 NdefX
/-! ### sources -/
abbrev Src := Ev → World → Out (List D)
structure Walk (K : PySem.W.Frag) (l : List D) (F0 : Hp) (J : It) : Prop where
  bd : l.length ≤ sizeLine
  go : ∀ i H F, Same F0 F → Same F H → i < l.length → J.go i H
  stop : ∀ i H F, Same F0 F → Same F H → l.length ≤ i → J.stop i H
  yld : ∀ i H F x H' d, Same F0 F → Same F H → NoTbl F → J.yld i H x H' → l[i]? = some d → ∃ F', Xt H F H' F' ∧ Rp K F' x d
def tIt (X : Tx) (Wi : WX) (e : Src) : TI := fun σ H R => ∃ B env w F O M, SR X B env w σ H F O M ∧
  Pst (e env w) (fun l w' => ∀ J H' F' M', SR X B env w' σ H' F' O M' → Stp H F M H' F' M' → Walk X.K l F' J → R J H') (badX X B Wi)
abbrev JI (X : Cx) (T : Tbs) (Wi : WX) (tg it : Expr) (d : Src) : Prop := PI X tg it (tIt (Cx.tx X T) Wi d)
def RV.its (r : RV) : Option (List D) := match r.arg with
  | some (.dat d) => d.items
  | _ => none
/-- a list or a tuple -/
def iSeq (e : Ex) : Src := fun env w => (e env w).bind fun r w1 => match r.its with
  | some l => .ok l w1
  | none => .stuck
theorem walk_lst {K : PySem.W.Frag} {F : Hp} {a : Addr} {vs : List V} {l : List D} (hz : l.length ≤ sizeLine) (h : SqL K F a vs) (p : Paired (Rp K F) vs l) : Walk K l F (Itl K a) := by
  refine ⟨hz, fun i H F1 e1 e2 hi => ?_, fun i H F1 e1 e2 hi => ?_, fun i H F1 x H' d e1 e2 nt y hd => ?_⟩
  · have hv : i < vs.length := by rw [p.length]; exact hi
    exact ⟨vs, vs[i], e2.seq (e1.seq h), List.getElem?_eq_getElem hv⟩
  · exact ⟨vs, e2.seq (e1.seq h), by rw [p.length]; exact hi⟩
  · obtain ⟨rfl, y⟩ := y
    have q := y vs (e2.seq (e1.seq h))
    obtain ⟨v, ev, rv⟩ := Pr.get p hd
    rw [ev] at q; cases q
    exact ⟨F1, Xt.refl e2 nt, rv.mono e1⟩
theorem walk_tup {K : PySem.W.Frag} {F : Hp} {a : Addr} {vs : List V} {l : List D} (hz : l.length ≤ sizeLine) (h : SqT K F a vs) (p : Paired (Rp K F) vs l) : Walk K l F (Itt K a) := by
  refine ⟨hz, fun i H F1 e1 e2 hi => ?_, fun i H F1 e1 e2 hi => ?_, fun i H F1 x H' d e1 e2 nt y hd => ?_⟩
  · have hv : i < vs.length := by rw [p.length]; exact hi
    exact ⟨vs, vs[i], sqT_mono e2 (sqT_mono e1 h), List.getElem?_eq_getElem hv⟩
  · exact ⟨vs, sqT_mono e2 (sqT_mono e1 h), by rw [p.length]; exact hi⟩
  · obtain ⟨rfl, y⟩ := y
    have q := y vs (sqT_mono e2 (sqT_mono e1 h))
    obtain ⟨v, ev, rv⟩ := Pr.get p hd
    rw [ev] at q; cases q
    exact ⟨F1, Xt.refl e2 nt, rv.mono e1⟩
theorem walk_rng {K : PySem.W.Frag} {F : Hp} {lo : Int} {n : Nat} {l : List D} (hz : n ≤ sizeLine) (hl : l = (List.range n).map fun (i : Nat) => D.int (lo + i)) : Walk K l F (Itr lo n) := by
  subst hl
  refine ⟨by simpa using hz, fun i H F1 e1 e2 hi => by show i < n; simpa using hi, fun i H F1 e1 e2 hi => by show n ≤ i; simpa using hi, fun i H F1 x H' d e1 e2 nt y hd => ?_⟩
  obtain ⟨rfl, rfl⟩ := y
  simp only [List.getElem?_map, List.getElem?_range] at hd
  by_cases hi : i < n
  · rw [List.getElem?_range hi] at hd
    simp only [Option.map_some, Option.some.injEq] at hd; subst hd
    exact ⟨F1, Xt.refl e2 nt, .int _⟩
  · rw [List.getElem?_eq_none (by simpa using hi)] at hd; cases hd
section
variable {X : Cx} {T : Tbs} {Wi : WX} {pos p : Pos} {e a b tg : Expr} {d : Ex} {ds : Exs}
theorem pi_or {wi wi' : TI} (h : PI X tg e wi) (h' : PI X tg e wi') : PI X tg e (fun σ H R => wi σ H R ∨ wi' σ H R) :=
  ⟨fun pins s σ H R I q => q.elim (h.run pins s σ H R I) (h'.run pins s σ H R I)⟩
theorem _root_.L2.PI.impD {t t' : TI} (h : PI X tg e t) (k : ∀ σ H Q, t' σ H Q → t σ H Q) : PI X tg e t' := ⟨fun pins s σ H Q I q => h.run pins s σ H Q I (k σ H Q q)⟩
theorem ji_seq (h : JE X T Wi e d) : JI X T Wi tg e (iSeq d) := by
  refine (pi_or (pi_list h) (pi_tup h)).impD fun σ H Q q => ?_
  obtain ⟨B, env, w, F, O, M, s, q⟩ := q
  have q := q.bind
  cases eo : d env w with
  | stuck => rw [eo] at q; exact q.elim
  | exc x env' w' =>
    rw [eo] at q
    exact .inl ⟨B, env, w, F, O, M, s, by rw [eo]; exact q⟩
  | ok r w1 =>
    rw [eo] at q
    have q1 : Pst (match r.its with
      | some l => Out.ok l w1
      | none => .stuck) _ _ := q
    split at q1
    · rename_i l el
      unfold RV.its at el
      split at el
      · rename_i dd ea
        cases dd with
        | lst m =>
          cases el
          refine .inl ⟨B, env, w, F, O, M, s, ?_⟩
          rw [eo]
          intro v H1 F1 M1 s1 st1 r1
          obtain ⟨F2, s2, st2, a2⟩ := keep_arg s s1 st1 r1 ea
          cases a2 with
          | lst hz h1 h2 => exact ⟨_, rfl, ⟨_, s2.fh.seq h1⟩, q1 _ H1 F2 M1 s2 st2 (walk_lst hz h1 h2)⟩
        | tup m =>
          cases el
          refine .inr ⟨B, env, w, F, O, M, s, ?_⟩
          rw [eo]
          intro v H1 F1 M1 s1 st1 r1
          obtain ⟨F2, s2, st2, a2⟩ := keep_arg s s1 st1 r1 ea
          cases a2 with
          | tup hz h1 h2 => exact ⟨_, rfl, ⟨_, sqT_mono s2.fh h1⟩, q1 _ H1 F2 M1 s2 st2 (walk_tup hz h1 h2)⟩
        | _ => cases el
      · cases el
    · exact q1.elim
/-- range -/
def rngD (lo hi : Int) : List D := (List.range (hi - lo).toNat).map fun (i : Nat) => D.int (lo + i)
def iRange (g : List D → Option (Int × Int)) (es : Exs) : Src := fun env w => (es env w).bind fun rs w1 => match vals rs with
  | some ds => (match g ds with
    | some (lo, hi) => if (hi - lo).toNat ≤ 16777216 ∧ -(2 ^ 62) ≤ lo ∧ lo < 2 ^ 62 ∧ -(2 ^ 62) ≤ hi ∧ hi < 2 ^ 62 then .ok (rngD lo hi) w1 else .stuck
    | none => .stuck)
  | none => .stuck
def rg1 : List D → Option (Int × Int)
  | [.int j] => some (0, j)
  | _ => none
def rg2 : List D → Option (Int × Int)
  | [.int i, .int j] => some (i, j)
  | _ => none
theorem ji_range1 (hg : Gl X "range") (hm : X.mg "range" = none) (h : JR X T Wi [a] ds) (hs : starEach [a] X.env = [(false, eval a X.env)] := by rfl) : JI X T Wi tg (.Call (.Name "range" p) [a] [] pos) (iRange rg1 ds) := by
  refine (pi_range1 hg hm h hs).impD fun σ H Q q => ?_
  obtain ⟨B, env, w, F, O, M, s, q⟩ := q
  refine ⟨B, env, w, F, O, M, s, q.bind.imp fun rs w1 q1 vs H1 F1 M1 s1 st1 p1 => ?_⟩
  split at q1
  · rename_i l el
    split at q1
    · rename_i lo hi eg
      split at q1
      · rename_i hc
        have pv := vals_at s1 p1 el
        unfold rg1 at eg
        split at eg
        · cases eg
          cases pv with
          | cons h1 h2 =>
            cases h2; cases h1
            refine ⟨_, rfl, hc.2.2.2.1, hc.2.2.2.2, q1 _ H1 F1 M1 s1 st1 ?_⟩
            have := hc.1
            refine walk_rng (by rw [sizeLine_eq]; omega) ?_
            unfold rngD
            rw [Int.sub_zero]
        · cases eg
      · exact q1.elim
    · exact q1.elim
  · exact q1.elim
theorem ji_range2 (hg : Gl X "range") (hm : X.mg "range" = none) (h : JR X T Wi [a, b] ds) (hs : starEach [a, b] X.env = [(false, eval a X.env), (false, eval b X.env)] := by rfl) (hs2 : starEach [b] X.env = [(false, eval b X.env)] := by rfl) :
    JI X T Wi tg (.Call (.Name "range" p) [a, b] [] pos) (iRange rg2 ds) := by
  refine (pi_range2 hg hm h hs hs2).impD fun σ H Q q => ?_
  obtain ⟨B, env, w, F, O, M, s, q⟩ := q
  refine ⟨B, env, w, F, O, M, s, q.bind.imp fun rs w1 q1 vs H1 F1 M1 s1 st1 p1 => ?_⟩
  split at q1
  · rename_i l el
    split at q1
    · rename_i lo hi eg
      split at q1
      · rename_i hc
        have pv := vals_at s1 p1 el
        unfold rg2 at eg
        split at eg
        · cases eg
          cases pv with
          | cons h1 h2 =>
            cases h2 with
            | cons h3 h4 =>
              cases h4; cases h1; cases h3
              refine ⟨_, _, rfl, hc.2, q1 _ H1 F1 M1 s1 st1 ?_⟩
              have := hc.1
              exact walk_rng (by rw [sizeLine_eq]; omega) rfl
        · cases eg
      · exact q1.elim
    · exact q1.elim
  · exact q1.elim
end
/-! ### targets -/
abbrev Tgt := D → Ev → Option Ev
abbrev Tgts := List D → Ev → Option Ev
def gN (i : Nat) : Tgt := fun d env => some (env.set i (.dat d))
def gT (n : Nat) (ts : Tgts) : Tgt := fun d env => match d with
  | .tup l => if l.length = n then ts l env else none
  | _ => none
def gsNil : Tgts := fun l env => match l with
  | [] => some env
  | _ => none
def gsCons (t : Tgt) (ts : Tgts) : Tgts := fun l env => match l with
  | d :: r => (t d env).bind fun env' => ts r env'
  | [] => none
section
variable {X : Tx} {B : Base} {env : Ev} {w : World} {σ : St} {H F : Hp} {O : Nat → Addr} {M : List Addr}
theorem SR.setDat {i : Nat} {v : V} {d : D} (s : SR X B env w σ H F O M) (r : Rp X.K F v d) : SR X B (env.set i (.dat d)) w (σ.set i (some v)) H F O M := by
  refine ⟨by simpa using s.len, s.fh, s.nt, s.st, s.wr, s.tb, fun j sl e => ?_, fun j k lj lk e1 e2 => ?_⟩
  · by_cases hj : i = j
    · subst hj
      have hlt : i < env.length := by simpa using (List.getElem?_eq_some_iff.mp e).1
      rw [List.getElem?_set_self hlt] at e
      cases e
      refine ⟨v, ?_, r⟩
      rw [List.getElem?_set_self (by rw [s.len]; exact hlt)]
    · rw [List.getElem?_set_ne hj] at e
      have := s.sl j sl e
      rw [List.getElem?_set_ne hj]
      exact this
  · have e1' : env[j]? = some (.own lj) := by
      by_cases hj : i = j
      · subst hj
        have hlt : i < env.length := by simpa using (List.getElem?_eq_some_iff.mp e1).1
        rw [List.getElem?_set_self hlt] at e1; cases e1
      · rw [List.getElem?_set_ne hj] at e1; exact e1
    have e2' : env[k]? = some (.own lk) := by
      by_cases hj : i = k
      · subst hj
        have hlt : i < env.length := by simpa using (List.getElem?_eq_some_iff.mp e2).1
        rw [List.getElem?_set_self hlt] at e2; cases e2
      · rw [List.getElem?_set_ne hj] at e2; exact e2
    exact s.inj j k lj lk e1' e2'
def wipeE (env : Ev) : List Nat → Ev
  | [] => env
  | v :: vs => (wipeE env vs).set v .un
theorem SR.setUn {i : Nat} (s : SR X B env w σ H F O M) : SR X B (env.set i .un) w (σ.set i none) H F O M := by
  refine ⟨by simpa using s.len, s.fh, s.nt, s.st, s.wr, s.tb, fun j sl e => ?_, fun j k lj lk e1 e2 => ?_⟩
  · by_cases hj : i = j
    · subst hj
      have hlt : i < env.length := by simpa using (List.getElem?_eq_some_iff.mp e).1
      rw [List.getElem?_set_self hlt] at e
      cases e
      trivial
    · rw [List.getElem?_set_ne hj] at e
      have := s.sl j sl e
      rw [List.getElem?_set_ne hj]
      exact this
  · have e1' : env[j]? = some (.own lj) := by
      by_cases hj : i = j
      · subst hj
        have hlt : i < env.length := by simpa using (List.getElem?_eq_some_iff.mp e1).1
        rw [List.getElem?_set_self hlt] at e1; cases e1
      · rw [List.getElem?_set_ne hj] at e1; exact e1
    have e2' : env[k]? = some (.own lk) := by
      by_cases hj : i = k
      · subst hj
        have hlt : i < env.length := by simpa using (List.getElem?_eq_some_iff.mp e2).1
        rw [List.getElem?_set_self hlt] at e2; cases e2
      · rw [List.getElem?_set_ne hj] at e2; exact e2
    exact s.inj j k lj lk e1' e2'
theorem SR.wipe (s : SR X B env w σ H F O M) : ∀ vs : List Nat, SR X B (wipeE env vs) w (L2.wipe σ vs) H F O M
  | [] => s
  | v :: vs => (SR.wipe s vs).setUn
theorem wipe_set {σ : St} {i : Nat} {x : Option V} : ∀ {vs : List Nat}, i ∈ vs → L2.wipe (σ.set i x) vs = L2.wipe σ vs
  | [], h => by cases h
  | v :: vs, h => by
    unfold L2.wipe
    by_cases hi : i ∈ vs
    · rw [wipe_set hi]
    · have hv : i = v := by
        rcases List.mem_cons.mp h with z | z
        · exact z
        · exact absurd z hi
      subst hv
      have go : ∀ {us : List Nat}, i ∉ us → L2.wipe (σ.set i x) us = (L2.wipe σ us).set i x := by
        intro us
        induction us with
        | nil => intro _; rfl
        | cons u us ih =>
          intro hu
          unfold L2.wipe
          rw [ih (fun z => hu (List.mem_cons_of_mem _ z)), List.set_comm _ _ (fun z => hu (by rw [z]; exact List.mem_cons_self))]
      rw [go hi, List.set_set]
end
/-- a target that stores into slots of vs alone -/
def tG (X : Tx) (g : Tgt) (vs : List Nat) : TG := fun v σ H Q => ∃ B env w F O M d env', SR X B env w σ H F O M ∧ Rp X.K F v d ∧ g d env = some env' ∧
  ∀ σ', SR X B env' w σ' H F O M → (∀ us : List Nat, (∀ i ∈ vs, i ∈ us) → wipe σ' us = wipe σ us) → Q σ' H
def tGs (X : Tx) (g : Tgts) (vs : List Nat) : TGs := fun v σ H Q => ∃ B env w F O M d env', SR X B env w σ H F O M ∧ Paired (Rp X.K F) v d ∧ g d env = some env' ∧
  ∀ σ', SR X B env' w σ' H F O M → (∀ us : List Nat, (∀ i ∈ vs, i ∈ us) → wipe σ' us = wipe σ us) → Q σ' H
abbrev JG (X : Cx) (T : Tbs) (tg : Expr) (g : Tgt) (vs : List Nat) : Prop := PG X tg (tG (Cx.tx X T) g vs)
abbrev JGs (X : Cx) (T : Tbs) (tg : List Expr) (g : Tgts) (vs : List Nat) : Prop := PGs X tg (tGs (Cx.tx X T) g vs)
section
variable {X : Cx} {T : Tbs} {pos : Pos} {e : Expr} {es : List Expr}
theorem _root_.L2.PG.impD {t t' : TG} (h : PG X e t) (k : ∀ v σ H Q, t' v σ H Q → t v σ H Q) : PG X e t' := ⟨fun pins s σ H v u Q I r q => h.run pins s σ H v u Q I r (k v σ H Q q)⟩
theorem _root_.L2.PGs.impD {t t' : TGs} (h : PGs X es t) (k : ∀ v σ H Q, t' v σ H Q → t v σ H Q) : PGs X es t' := ⟨fun pins s σ H v u Q I r q => h.run pins s σ H v u Q I r (k v σ H Q q)⟩
theorem jg_name {i : Nat} {x : Str} (h : PG X (.Name x pos) (gName i)) : JG X T (.Name x pos) (gN i) [i] := by
  refine h.impD fun v σ H Q q => ?_
  obtain ⟨B, env, w, F, O, M, d, env', s, r, e, q⟩ := q
  cases e
  exact q _ (s.setDat r) fun us hu => wipe_set (hu i (by simp))
theorem jgs_nil : JGs X T [] gsNil [] := pgs_nil.impD fun v σ H Q q => by
  obtain ⟨B, env, w, F, O, M, d, env', s, p, e, q⟩ := q
  unfold gsNil at e
  split at e
  · cases e
    cases p
    exact ⟨rfl, q σ s fun _ _ => rfl⟩
  · cases e
theorem jgs_cons {g : Tgt} {gs : Tgts} {vs us : List Nat} (h : JG X T e g vs) (hs : JGs X T es gs us) (hst : (assignEach (e :: es) X.env).map (·.2) = assign e X.env :: (assignEach es X.env).map (·.2) := by rfl) : JGs X T (e :: es) (gsCons g gs) (vs ++ us) := by
  refine (pgs_cons h hs hst).impD fun v σ H Q q => ?_
  obtain ⟨B, env, w, F, O, M, d, env', s, p, e, q⟩ := q
  unfold gsCons at e
  split at e
  · rename_i d0 r0
    cases eg : g d0 env with
    | none => rw [eg] at e; cases e
    | some env1 =>
      rw [eg] at e
      cases p with
      | @cons v0 _ vr _ p1 p2 =>
        refine ⟨v0, vr, rfl, B, env, w, F, O, M, d0, env1, s, p1, eg, fun σ1 s1 h1 => ?_⟩
        refine ⟨B, env1, w, F, O, M, r0, env', s1, p2, e, fun σ2 s2 h2 => q σ2 s2 fun ts ht => ?_⟩
        rw [h2 ts (fun i hi => ht i (List.mem_append_right _ hi)), h1 ts (fun i hi => ht i (List.mem_append_left _ hi))]
  · cases e
theorem jg_tup {k n : Nat} {gs : Tgts} {vs : List Nat} (hc : X.calm = true) (h : JGs X T es gs vs) (hn : (assignEach es X.env).length = n := by rfl) (hst : (assignEach es X.env).findIdx? (·.1) = none := by rfl) : JG X T (.Tuple es k pos) (gT n gs) vs := by
  refine (pg_tup hc h hn hst).impD fun v σ H Q q => ?_
  obtain ⟨B, env, w, F, O, M, d, env', s, p, e, q⟩ := q
  unfold gT at e
  split at e
  · split at e
    · rename_i hl
      cases p with
      | @tup a xs _ hz h1 h2 =>
        exact ⟨a, xs, rfl, sqT_mono s.fh h1, by rw [h2.length]; exact hl, B, env, w, F, O, M, _, env', s, h2, e, q⟩
    · cases e
  · cases e
end
/-! ### list comprehensions -/
def noX {α : Type} (o : Out α) : Out α := match o with
  | .ok a w => .ok a w
  | _ => .stuck
@[simp] theorem noX_ok {α : Type} (a : α) (w : World) : noX (.ok a w) = .ok a w := rfl
theorem Pst.noX {α : Type} {o : Out α} {g : α → World → Prop} {b b' : Exn → Ev → World → Prop} (h : Pst (Dl.noX o) g b) : Pst o g b' := by
  cases o with
  | ok a w => exact h
  | exc x e w => exact h.elim
  | stuck => exact h.elim
def RV.st : RV → Option D
  | .dat d => some d
  | .fresh l => some (.lst l)
  | _ => none
theorem st_arg {r : RV} {d : D} (h : r.st = some d) : r.arg = some (.dat d) := by
  cases r <;> first | (cases h; done) | (cases h; rfl)
def compGo (g : Tgt) (tt : Tst) (elt : Ex) (env0 : Ev) : List D → World → Out (List D)
  | [], w => .ok [] w
  | d :: ds, w => match g d env0 with
    | none => .stuck
    | some env1 => (noX (tt env1 w)).bind fun b w1 => if b = true then (noX (elt env1 w1)).bind fun r w2 => (match r.st with
        | some x => (compGo g tt elt env0 ds w2).bind fun xs w3 => .ok (x :: xs) w3
        | none => .stuck)
      else compGo g tt elt env0 ds w1
def dComp (src : Src) (vs : List Nat) (g : Tgt) (tt : Tst) (elt : Ex) : Ex := fun env w => (src env w).bind fun l w1 => (compGo g tt elt (wipeE env vs) l w1).bind fun xs w2 => .ok (.fresh xs) w2
def tYes' : Tst := fun _ w => .ok true w
abbrev noW : WX := fun _ _ _ _ => False
abbrev JTs (X : Cx) (T : Tbs) (es : List Expr) (d : Tst) : Prop := PTs X es (tT (Cx.tx X T) noW d)
section
variable {X : Cx} {T : Tbs} {Wi : WX} {pos : Pos}
theorem _root_.L2.PTs.impD {X : Cx} {es : List Expr} {t t' : TT} (h : PTs X es t) (k : ∀ σ H Q, t' σ H Q → t σ H Q) : PTs X es t' := ⟨fun pins s σ H Q I q => h.run pins s σ H Q I (k σ H Q q)⟩
theorem jts_nil : JTs X T [] tYes' := pts_nil.impD fun σ H Q q => by
  obtain ⟨B, env, w, F, O, M, s, q⟩ := q
  exact q H F M s .refl
theorem jts_one {c : Expr} {t : Tst} (h : JT X T noW c t) : JTs X T [c] t := pts_one h
theorem tab_updL {T : List NTab} {H : Hp} {D : Addr} {vs ws : List V} (t : TabsN T H) (e : H D = some (.lst vs)) : TabsN T (upd H D (.lst ws)) := fun p hp => by
  obtain ⟨ps, h1, h2, h3⟩ := t p hp
  have n1 : p.1 ≠ D := ne_of h1 e (by simp)
  refine ⟨ps, by rw [upd_ne n1]; exact h1, h2, fun pos cv hc => ?_⟩
  obtain ⟨c, e1, e2⟩ := h3 pos cv hc
  have n2 : c ≠ D := ne_of e2 e (by unfold LamX.CodeO; simp)
  exact ⟨c, e1, by rw [upd_ne n2]; exact e2⟩
theorem tab_new {T : List NTab} {H : Hp} {D : Addr} {o : HO} (t : TabsN T H) (e : H D = none) : TabsN T (upd H D o) := t.ext (same_upd e)
/-- a list that no one else knows is written -/
theorem SR.updFree {X : Tx} {B : Base} {env : Ev} {w : World} {σ : St} {H F : Hp} {O : Nat → Addr} {M : List Addr} {D : Addr} {vs ws : List V} (s : SR X B env w σ H F O M) (e : H D = some (.lst vs)) (hB : B.H D = none) (hF : F D = none) (hM : D ∉ M)
    (hO : ∀ i l, env[i]? = some (.own l) → O i ≠ D) : SR X B env w σ (upd H D (.lst ws)) F O M := by
  have ne : ∀ {a : Addr} {o : HO}, H a = some o → a ≠ D → upd H D (.lst ws) a = some o := fun h n => by rw [upd_ne n]; exact h
  refine ⟨s.len, fun b o q => ?_, s.nt, ⟨s.st.fg, fun a o hM' ht q => ?_, fun a h => ?_, s.st.nf, s.st.mw⟩, ⟨s.wr.nd, ?_⟩, tab_updL s.tb e, fun i sl e' => ?_, s.inj⟩
  · exact ne (s.fh _ _ q) (fun z => by subst z; rw [hF] at q; cases q)
  · exact ne (s.st.fr a o hM' ht q) (fun z => by subst z; rw [hB] at q; cases q)
  · by_cases z : a = D
    · subst z; rw [upd_same]; simp
    · rw [upd_ne z]; exact s.st.th a h
  · have go : ∀ {M : List Addr} {w : World}, D ∉ M → Paired (fun m o => F m = none ∧ WO.isAt X F H m o) M w → Paired (fun m o => F m = none ∧ WO.isAt X F (upd H D (.lst ws)) m o) M w := by
      intro M w hM h
      induction h with
      | nil => exact .nil
      | @cons m o _ _ h1 _ ih =>
        have nm : m ≠ D := fun z => hM (by rw [← z]; exact List.mem_cons_self)
        refine .cons ⟨h1.1, ?_⟩ (ih fun z => hM (List.mem_cons_of_mem _ z))
        cases o with
        | lst l => obtain ⟨_, ez, us, e1, e2⟩ := h1; exact ⟨ez, us, ne e1 nm, e2⟩
        | clo i caps => exact CloAt.keep h1.2 (keepE_upd e) (Same.refl _) (fun _ _ e => e)
    exact go hM s.wr.at_
  · have h := s.sl i sl e'
    cases sl with
    | un => trivial
    | dat d => exact h
    | own l =>
      obtain ⟨e1, e2, e3, e4, ez, us, e5, e6⟩ := h
      exact ⟨e1, e2, e3, e4, ez, us, ne e5 (hO i l e'), e6⟩
    | wref k => exact h
theorem wipe_own {env : Ev} {i : Nat} {l : List D} : ∀ {vs : List Nat}, (wipeE env vs)[i]? = some (.own l) → env[i]? = some (.own l)
  | [], h => h
  | v :: vs, h => by
    unfold wipeE at h
    by_cases hi : v = i
    · subst hi
      by_cases hv : v < (wipeE env vs).length
      · rw [List.getElem?_set_self hv] at h; cases h
      · rw [List.getElem?_eq_none (by simpa using hv)] at h; cases h
    · rw [List.getElem?_set_ne hi] at h
      exact wipe_own h
/-- the comprehension's own reading -/
theorem lc_read {src : Src} {g : Tgt} {tt : Tst} {elt : Ex} {vs us : List Nat} (hvs : ∀ i ∈ us, i ∈ vs) {σ : St} {H : Hp} {Q : VK} (q : tD (Cx.tx X T) Wi (dComp src vs g tt elt) σ H Q) :
    tLc (tIt (Cx.tx X T) Wi src) (tG (Cx.tx X T) g us) (tT (Cx.tx X T) noW tt) (tD (Cx.tx X T) noW elt) vs σ H Q := by
  obtain ⟨B, env, w, F, O, M, s, q⟩ := q
  refine ⟨B, env, w, F, O, M, s, q.bind.imp fun l w1 q1 J H1 F1 M1 s1 st1 wk D hD => ?_⟩
  have q1 := q1.bind
  have hB : B.H D = none := by
    cases z : B.H D with
    | none => rfl
    | some o => exact absurd hD (s1.st.th D (by rw [z]; simp))
  have hH : H D = none := by
    cases z : H D with
    | none => rfl
    | some o => exact absurd hD (st1.th D (by rw [z]; simp))
  have hO : ∀ i k, env[i]? = some (.own k) → O i ≠ D := fun i k e z => by
    obtain ⟨_, _, _, _, _, ws, q', _⟩ := s.sl i _ e
    rw [z, hH] at q'; cases q'
  refine ⟨fun i m H' => m = l.length - i ∧ i ≤ l.length ∧ ∃ w' es F' M' vsD, es.length ≤ i ∧ SR (Cx.tx X T) B env w' σ H' F' O M' ∧ Stp H F M H' F' M' ∧ Same F1 F' ∧ H' D = some (.lst vsD) ∧ F' D = none ∧ D ∉ M' ∧ Paired (Rp X.K F') vsD es ∧
      Pst (compGo g tt elt (wipeE env vs) (l.drop i) w') (fun rest w2 => ∀ v H2 F2 M2, SR (Cx.tx X T) B env w2 σ H2 F2 O M2 → Stp H F M H2 F2 M2 → RV.isAt (Cx.tx X T) H env O H2 F2 M2 v (.fresh (es ++ rest)) → Q v H2) (fun _ _ _ => False), ⟨l.length, by simp, Nat.zero_le _, w1, [], F1, M1, [], Nat.le_refl _, ?_⟩, ?_⟩
  · have xt : Xt H1 F1 (upd H1 D (.lst [])) F1 := Xt.newL s1.fh s1.nt hD
    refine ⟨s1.xt xt, st1.trans xt.stp, Same.refl _, upd_same, s1.fh.free hD, fun z => s1.wr.there z hD, .nil, ?_⟩
    rw [List.drop_zero]
    cases eg : compGo g tt elt (wipeE env vs) l w1 with
    | stuck => rw [eg] at q1; exact q1.elim
    | ok rest w2 => rw [eg] at q1; exact fun v H2 F2 M2 s2 st2 r2 => q1 v H2 F2 M2 s2 st2 r2
    | exc x e' w2 =>
      exfalso
      have nx : ∀ (l : List Dl.D) (w : World) (x : Exn) (e : Ev) (w2 : World), compGo g tt elt (wipeE env vs) l w ≠ .exc x e w2 := by
        intro l
        induction l with
        | nil => intro w x e w2 z; cases z
        | cons d ds ih =>
          intro w x e w2 z
          unfold compGo at z
          split at z
          · cases z
          · rename_i env1 _
            cases h1 : tt env1 w with
            | stuck => rw [h1] at z; cases z
            | exc _ _ _ => rw [h1] at z; cases z
            | ok b w3 =>
              rw [h1] at z
              simp only [noX_ok, bind_ok] at z
              split at z
              · cases h2 : elt env1 w3 with
                | stuck => rw [h2] at z; cases z
                | exc _ _ _ => rw [h2] at z; cases z
                | ok r w4 =>
                  rw [h2] at z
                  simp only [noX_ok, bind_ok] at z
                  split at z
                  · cases h3 : compGo g tt elt (wipeE env vs) ds w4 with
                    | stuck => rw [h3] at z; cases z
                    | exc a b c => exact ih _ _ _ _ h3
                    | ok a b => rw [h3] at z; cases z
                  · cases z
              · exact ih _ _ _ _ z
      exact nx l w1 x e' w2 eg
  · rintro i m H' ⟨rfl, hi, w', es, F', M', vsD, hes, sr, st, sf, hDl, hFD, hMD, pd, qq⟩
    by_cases hlt : i < l.length
    · refine .inr ⟨wk.go i H' F' sf sr.fh hlt, fun H'' => i + 1 ≤ l.length ∧ ∃ w' es F' M' vsD, es.length ≤ i + 1 ∧ SR (Cx.tx X T) B env w' σ H'' F' O M' ∧ Stp H F M H'' F' M' ∧ Same F1 F' ∧ H'' D = some (.lst vsD) ∧ F' D = none ∧ D ∉ M' ∧ Paired (Rp X.K F') vsD es ∧
          Pst (compGo g tt elt (wipeE env vs) (l.drop (i + 1)) w') (fun rest w2 => ∀ v H2 F2 M2, SR (Cx.tx X T) B env w2 σ H2 F2 O M2 → Stp H F M H2 F2 M2 → RV.isAt (Cx.tx X T) H env O H2 F2 M2 v (.fresh (es ++ rest)) → Q v H2) (fun _ _ _ => False), fun H'' ⟨z1, z2⟩ => ⟨l.length - (i + 1), by omega, rfl, z1, z2⟩, fun x H2 hy => ?_⟩
      obtain ⟨F2, xt2, rx⟩ := wk.yld i H' F' x H2 l[i] sf sr.fh sr.nt hy (List.getElem?_eq_getElem hlt)
      have sr2 := sr.xt xt2
      rw [List.drop_eq_getElem_cons hlt] at qq
      unfold compGo at qq
      split at qq
      · exact qq.elim
      · rename_i env1 eg
        refine ⟨B, wipeE env vs, w', F2, O, M', l[i], env1, sr2.wipe vs, rx, eg, fun σ2 s2 hw => ⟨?_, ?_⟩⟩
        · rw [hw vs hvs]
          have idem : ∀ us : List Nat, (∀ i ∈ us, i ∈ vs) → wipe (wipe σ vs) us = wipe σ vs := by
            intro us
            induction us with
            | nil => intro _; rfl
            | cons u us ih =>
              intro hu
              show (wipe (wipe σ vs) us).set u none = wipe σ vs
              rw [ih fun i hi => hu i (List.mem_cons_of_mem _ hi)]
              have hu' := hu u List.mem_cons_self
              have : ∀ {ws : List Nat}, u ∈ ws → (wipe σ ws).set u none = wipe σ ws := by
                intro ws
                induction ws with
                | nil => intro h; cases h
                | cons a ws ih2 =>
                  intro h
                  show ((wipe σ ws).set a none).set u none = (wipe σ ws).set a none
                  by_cases ha : a = u
                  · subst ha; rw [List.set_set]
                  · rcases List.mem_cons.mp h with z | z
                    · exact absurd z.symm ha
                    · rw [List.set_comm _ _ ha, ih2 z]
              exact this hu'
          exact idem vs fun _ h => h
        · have qt := qq.bind.noX (b' := badX (Cx.tx X T) B noW)
          refine ⟨B, env1, w', F2, O, M', s2, qt.imp fun b w3 q3 H3 F3 M3 s3 st3 => ?_⟩
          have sr3 := sr2.step st3 s3.fh s3.nt s3.wr s3.tb
          have hDl3 : H3 D = some (.lst vsD) := st3.fr D _ (fun z => absurd z hMD) (fun _ z => by cases z) (xt2.hh _ _ hDl)
          have hMD3 : D ∉ M3 := notM' st3 hMD (by rw [xt2.hh _ _ hDl]; simp)
          have hFD2 : F2 D = none := xt2.nf D (by rw [hDl]; simp) hFD
          have hFD3 : F3 D = none := st3.nf D (by rw [xt2.hh _ _ hDl]; simp) hFD2
          have st03 := (st.trans xt2.stp).trans st3
          cases b with
          | false =>
            simp only [Bool.false_eq_true, if_false] at q3 ⊢
            exact ⟨hlt, w3, es, F3, M3, vsD, by omega, sr3, st03, (sf.trans xt2.ff).trans st3.fg, hDl3, hFD3, hMD3, Rp.monoAll (xt2.ff.trans st3.fg) _ _ pd, q3⟩
          | true =>
            simp only [if_true] at q3 ⊢
            have qe := q3.bind.noX (b' := badX (Cx.tx X T) B noW)
            refine ⟨B, env1, w3, F3, O, M3, s3, qe.imp fun r w4 q4 y H4 F4 M4 s4 st4 r4 => ?_⟩
            split at q4
            · rename_i d ed
              obtain ⟨F5, s5, st5, a5⟩ := keep_arg s3 s4 st4 r4 (st_arg ed)
              have hDl4 : H4 D = some (.lst vsD) := st5.fr D _ (fun z => absurd z hMD3) (fun _ z => by cases z) hDl3
              have hMD4 : D ∉ M4 := notM' st5 hMD3 (by rw [hDl3]; simp)
              have hFD5 : F5 D = none := st5.nf D (by rw [hDl3]; simp) hFD3
              have sr5 := sr3.step st5 s5.fh s5.nt s5.wr s5.tb
              have st05 := st03.trans st5
              have sr6 := sr5.updFree (ws := vsD ++ [y]) hDl4 hB hFD5 hMD4 hO
              have pd5 := Rp.monoAll ((xt2.ff.trans st3.fg).trans st5.fg) _ _ pd
              have hvl : vsD.length ≤ i := by rw [pd.length]; exact hes
              have hbd := wk.bd
              refine ⟨vsD, hDl4, by omega, hlt, w4, es ++ [d], F5, M4, vsD ++ [y], ?_, sr6, ?_, ((sf.trans xt2.ff).trans st3.fg).trans st5.fg, upd_same, hFD5, hMD4, Pr.append pd5 (.cons a5 .nil), ?_⟩
              · rw [List.length_append, List.length_singleton]; omega
              · exact ⟨st05.fg, fun a o hM' ht q' => by
                  have := st05.fr a o hM' ht q'
                  have na : a ≠ D := fun z => by subst z; rw [hH] at q'; cases q'
                  rw [upd_ne na]; exact this, fun a h => by
                  by_cases z : a = D
                  · subst z; rw [upd_same]; simp
                  · rw [upd_ne z]; exact st05.th a h, st05.nf, st05.mw⟩
              · have q5 := q4.bind
                refine q5.imp fun rest w5 q6 v H6 F6 M6 s6 st6 r6 => q6 v H6 F6 M6 s6 st6 ?_
                rw [List.append_assoc] at r6
                exact r6
            · exact q4.elim
    · have hil : i = l.length := by omega
      subst hil
      refine .inl ⟨wk.stop _ H' F' sf sr.fh (Nat.le_refl _), ?_⟩
      rw [List.drop_length] at qq
      have qq' : ∀ v H2 F2 M2, SR (Cx.tx X T) B env w' σ H2 F2 O M2 → Stp H F M H2 F2 M2 → RV.isAt (Cx.tx X T) H env O H2 F2 M2 v (.fresh (es ++ [])) → Q v H2 := qq
      rw [List.append_nil] at qq'
      exact qq' _ H' F' M' sr st ⟨Nat.le_trans hes wk.bd, D, vsD, rfl, hH, hFD, hMD, hDl, pd⟩
theorem je_comp {elt tg iter : Expr} {ifs : List Expr} {scope : Scope} {own : List (Str × Nat)} {src : Src} {g : Tgt} {tt : Tst} {de : Ex} {us vs : List Nat} (hc : X.calm = true) (hN : X.N.Nodup) (hi : JI X T Wi tg iter src) (ok : BlkOk X.N X.env.scope scope own)
    (hv : own.map (·.2) = vs) (hvs : ∀ i ∈ us, i ∈ vs)
    (hg : ∀ (s : Shared) (H : Hp) (C : Addr) (cl : List (Str × Addr)) (fp : List Addr), JG (X.blk s H scope (compEnvC scope cl C X.env) fp) T tg g us)
    (ht : ∀ (s : Shared) (H : Hp) (C : Addr) (cl : List (Str × Addr)) (fp : List Addr), JTs (X.blk s H scope (compEnvC scope cl C X.env) fp) T ifs tt)
    (he : ∀ (s : Shared) (H : Hp) (C : Addr) (cl : List (Str × Addr)) (fp : List Addr), JE (X.blk s H scope (compEnvC scope cl C X.env) fp) T noW elt de) (hs : ∀ x, foldedSetIterable iter X.env x = pure x := by intro _; rfl) :
    JE X T Wi (.ListComp elt [⟨tg, iter, ifs, 0⟩] scope pos) (dComp src vs g tt de) := by
  subst hv
  exact (pe_lc hc hN hi ok hg ht he hs).impD fun σ H Q q => lc_read hvs q
theorem js_setComp {i : Nat} {y : Str} {py spos : Pos} {elt tg iter : Expr} {ifs : List Expr} {scope : Scope} {own : List (Str × Nat)} {src : Src} {g : Tgt} {tt : Tst} {de : Ex} {us : List Nat} (hc : X.calm = true) (hN : X.N.Nodup) (hy : X.N[i]? = some y) (hyl : X.env.scope.names.lookup y = some .local)
    (hsw : swapsWith (.ListComp elt [⟨tg, iter, ifs, 0⟩] scope pos) (some (.Name y py)) spos.line X.env = pure true) (hi : JI X T Wi tg iter src) (ok : BlkOk X.N X.env.scope scope own) (hvs : ∀ i ∈ us, i ∈ own.map (·.2))
    (hg : ∀ (s : Shared) (H : Hp) (C : Addr) (cl : List (Str × Addr)) (fp : List Addr), JG (X.blk s H scope (compEnvC scope cl C X.env) fp) T tg g us)
    (ht : ∀ (s : Shared) (H : Hp) (C : Addr) (cl : List (Str × Addr)) (fp : List Addr), JTs (X.blk s H scope (compEnvC scope cl C X.env) fp) T ifs tt)
    (he : ∀ (s : Shared) (H : Hp) (C : Addr) (cl : List (Str × Addr)) (fp : List Addr), JE (X.blk s H scope (compEnvC scope cl C X.env) fp) T noW elt de) (hs : ∀ x, foldedSetIterable iter X.env x = pure x := by intro _; rfl) :
    PS X (.Assign [.Name y py] (.ListComp elt [⟨tg, iter, ifs, 0⟩] scope pos) spos) (tAsg (tD (Cx.tx X T) Wi (dComp src (own.map (·.2)) g tt de)) (gName i)) :=
  (ps_setLc hc hN hy hyl hsw hi ok hg ht he hs).impD fun D σ H q => lc_read hvs q
end
end Dl
/-! DlH: statements. -/
namespace Dl
open PySem PySem.Spec PyProof.Rows L2 NdefX
inductive Fl where
  | nx (env : Ev) | rt (r : RV) | bk (env : Ev) | ct (env : Ev)
abbrev Sd := Ev → World → Out Fl
/-- what is handed back -/
structure RetAt (X : Tx) (B : Base) (w : World) (H F : Hp) (M : List Addr) (v : V) (r : RV) : Prop where
  st : Stp B.H B.F B.M H F M
  fh : Same F H
  nt : NoTbl F
  wr : WRel X F H M w
  tb : TabsN X.T.tabs H
  at_ : r.isAt X B.H [] (fun _ => 0) H F M v
def flG (X : Tx) (B : Base) (F0 : Hp) (Dn : Ends) (f : Fl) (w : World) : Prop := match f with
  | .nx env => ∀ σ H F O M, SR X B env w σ H F O M → Same F0 F → Dn.nx σ H
  | .rt r => ∀ v H F M, RetAt X B w H F M v r → Dn.rt v H
  | .bk env => ∀ σ H F O M, SR X B env w σ H F O M → Same F0 F → Dn.bk σ H
  | .ct env => ∀ σ H F O M, SR X B env w σ H F O M → Same F0 F → Dn.ct σ H
theorem flG.later {X : Tx} {B : Base} {F0 F1 : Hp} {Dn : Ends} {f : Fl} {w : World} (h : flG X B F0 Dn f w) (e : Same F0 F1) : flG X B F1 Dn f w := by
  cases f with
  | nx env => exact fun σ H F O M s k => h σ H F O M s (e.trans k)
  | bk env => exact fun σ H F O M s k => h σ H F O M s (e.trans k)
  | ct env => exact fun σ H F O M s k => h σ H F O M s (e.trans k)
  | rt r => exact h
def tS (X : Tx) (Wi : WX) (s : Sd) : TS := fun Dn σ H => ∃ B env w F O M, SR X B env w σ H F O M ∧ Pst (s env w) (flG X B F Dn) (badX X B Wi)
abbrev JS (X : Cx) (T : Tbs) (Wi : WX) (st : Stmt) (d : Sd) : Prop := PS X st (tS (Cx.tx X T) Wi d)
abbrev JSs (X : Cx) (T : Tbs) (Wi : WX) (st : List Stmt) (d : Sd) : Prop := PSs X st (tS (Cx.tx X T) Wi d)
/-! ### blocks -/
def sNil : Sd := fun env w => .ok (.nx env) w
def sSeq (a b : Sd) : Sd := fun env w => (a env w).bind fun f w1 => match f with
  | .nx env1 => b env1 w1
  | f => .ok f w1
section
variable {X : Cx} {T : Tbs} {Wi : WX} {pos : Pos} {st : Stmt} {sts : List Stmt} {a b : Sd} {e : Expr} {d : Ex}
theorem jss_nil : JSs X T Wi [] sNil := pss_nil.impD fun D σ H q => by
  obtain ⟨B, env, w, F, O, M, s, q⟩ := q
  exact q σ H F O M s (Same.refl _)
theorem jss_cons (h : JS X T Wi st a) (hs : JSs X T Wi sts b) : JSs X T Wi (st :: sts) (sSeq a b) := (pss_cons h hs).impD fun D σ H q => by
  obtain ⟨B, env, w, F, O, M, s, q⟩ := q
  refine ⟨B, env, w, F, O, M, s, q.bind.imp fun f w1 q1 => ?_⟩
  cases f with
  | nx env1 => exact fun σ1 H1 F1 O1 M1 s1 k => ⟨B, env1, w1, F1, O1, M1, s1, q1.imp fun f w z => z.later k⟩
  | rt r => exact q1
  | bk env1 => exact q1
  | ct env1 => exact q1
theorem jss_one (h : JS X T Wi st a) : JSs X T Wi [st] a := pss_one h
def sPass : Sd := fun env w => .ok (.nx env) w
def sBreak : Sd := fun env w => .ok (.bk env) w
def sCont : Sd := fun env w => .ok (.ct env) w
def sNever : Sd := fun _ _ => .stuck
theorem js_pass : JS X T Wi (.Pass pos) sPass := ps_pass.impD fun D σ H q => by
  obtain ⟨B, env, w, F, O, M, s, q⟩ := q
  exact q σ H F O M s (Same.refl _)
theorem js_break : JS X T Wi (.Break pos) sBreak := ps_break.impD fun D σ H q => by
  obtain ⟨B, env, w, F, O, M, s, q⟩ := q
  exact q σ H F O M s (Same.refl _)
theorem js_cont : JS X T Wi (.Continue pos) sCont := ps_continue.impD fun D σ H q => by
  obtain ⟨B, env, w, F, O, M, s, q⟩ := q
  exact q σ H F O M s (Same.refl _)
theorem js_never : JS X T Wi st sNever := ps_never.impD fun D σ H q => by
  obtain ⟨B, env, w, F, O, M, s, q⟩ := q
  exact q.elim
/-- an expression whose value is dropped -/
def sExpr (e : Ex) : Sd := fun env w => (e env w).bind fun _ w1 => .ok (.nx env) w1
theorem js_expr (h : JE X T Wi e d) (hs : swapsWith e none pos.line X.env = pure false := by rfl) : JS X T Wi (.Expr e pos) (sExpr d) := (ps_expr h hs).impD fun D σ H q => by
  obtain ⟨B, env, w, F, O, M, s, q⟩ := q
  exact ⟨B, env, w, F, O, M, s, q.bind.imp fun r w1 q1 v H1 F1 M1 s1 st1 r1 => q1 σ H1 F1 O M1 s1 st1.fg⟩
/-- return -/
def RV.ret : RV → RV
  | .bor _ l => .fresh l
  | r => r
def sRet (e : Ex) : Sd := fun env w => (e env w).bind fun r w1 => .ok (.rt r.ret) w1
theorem ret_at {X : Tx} {B : Base} {env : Ev} {w w1 : World} {σ : St} {H F H1 F1 : Hp} {O : Nat → Addr} {M M1 : List Addr} {v : V} {r : RV} (s : SR X B env w σ H F O M) (s1 : SR X B env w1 σ H1 F1 O M1) (h : r.isAt X H env O H1 F1 M1 v) : RetAt X B w1 H1 F1 M1 v r.ret := by
  refine ⟨s1.st, s1.fh, s1.nt, s1.wr, s1.tb, ?_⟩
  cases r with
  | dat d => exact h
  | wref k => exact h
  | fresh l => exact RV.since (r := .fresh l) (env := []) (O := fun _ => 0) h s.st.th
  | bor i l =>
    obtain ⟨e1, e2⟩ := h
    obtain ⟨_, e4, e5, e6, ez, vs, e7, e8⟩ := s1.sl i _ e1
    exact ⟨ez, O i, vs, e2, e4, e5, e6, e7, e8⟩
theorem js_ret (h : JE X T Wi e d) : JS X T Wi (.Return (some e) pos) (sRet d) := (ps_ret h).impD fun D σ H q => by
  obtain ⟨B, env, w, F, O, M, s, q⟩ := q
  exact ⟨B, env, w, F, O, M, s, q.bind.imp fun r w1 q1 v H1 F1 M1 s1 st1 r1 => q1 v H1 F1 M1 (ret_at s s1 r1)⟩
def sRetN : Sd := fun _ w => .ok (.rt (.dat .non)) w
theorem js_retN : JS X T Wi (.Return none pos) sRetN := ps_retN.impD fun D σ H q => by
  obtain ⟨B, env, w, F, O, M, s, q⟩ := q
  exact q .non H F M ⟨s.st, s.fh, s.nt, s.wr, s.tb, .non⟩
/-- if -/
def sIf (c : Tst) (a b : Sd) : Sd := fun env w => (c env w).bind fun k w1 => if k = true then a env w1 else b env w1
theorem js_if {c : Expr} {tc : Tst} {sa sb : List Stmt} (hc : JT X T Wi c tc) (ha : JSs X T Wi sa a) (hb : JSs X T Wi sb b) : JS X T Wi (.If c sa sb pos) (sIf tc a b) := (ps_if hc ha hb).impD fun D σ H q => by
  obtain ⟨B, env, w, F, O, M, s, q⟩ := q
  refine ⟨B, env, w, F, O, M, s, q.bind.imp fun k w1 q1 H1 F1 M1 s1 st1 => ?_⟩
  cases k with
  | true => rw [if_pos rfl] at q1 ⊢; exact ⟨B, env, w1, F1, O, M1, s1, q1.imp fun f w z => z.later st1.fg⟩
  | false => rw [if_neg Bool.false_ne_true] at q1 ⊢; exact ⟨B, env, w1, F1, O, M1, s1, q1.imp fun f w z => z.later st1.fg⟩
/-! ### names stored -/
section
variable {X : Tx} {B : Base} {env : Ev} {w : World} {σ : St} {H F Hs : Hp} {O : Nat → Addr} {M : List Addr}
theorem own_of_set {sl : Sl} {i j : Nat} {l : List D} (h : (env.set i sl)[j]? = some (.own l)) (hn : ∀ l, sl ≠ .own l) : env[j]? = some (.own l) ∧ i ≠ j := by
  by_cases hj : i = j
  · subst hj
    have hlt : i < env.length := by simpa using (List.getElem?_eq_some_iff.mp h).1
    rw [List.getElem?_set_self hlt] at h
    exact absurd (Option.some.inj h) (hn l)
  · rw [List.getElem?_set_ne hj] at h; exact ⟨h, hj⟩
theorem SR.setOwn {i : Nat} {p : Addr} {vs : List V} {l : List D} (s : SR X B env w σ H F O M) (hz : l.length ≤ sizeLine) (hB : B.H p = none) (hF : F p = none) (hM : p ∉ M) (hp : H p = some (.lst vs)) (pp : Paired (Rp X.K F) vs l)
    (hO : ∀ j k, j ≠ i → env[j]? = some (.own k) → O j ≠ p) : SR X B (env.set i (.own l)) w (σ.set i (some (.ref p))) H F (fun j => if j = i then p else O j) M := by
  refine ⟨by simpa using s.len, s.fh, s.nt, s.st, s.wr, s.tb, fun j sl e => ?_, fun j k lj lk e1 e2 h => ?_⟩
  · by_cases hj : i = j
    · subst hj
      have hlt : i < env.length := by simpa using (List.getElem?_eq_some_iff.mp e).1
      rw [List.getElem?_set_self hlt] at e
      cases e
      rw [List.getElem?_set_self (by rw [s.len]; exact hlt)]
      show (some (some (V.ref p)) : Option (Option V)) = some (some (.ref (if i = i then p else O i))) ∧ B.H (if i = i then p else O i) = none ∧ F (if i = i then p else O i) = none ∧ (if i = i then p else O i) ∉ M ∧ l.length ≤ sizeLine ∧ ∃ vs, H (if i = i then p else O i) = some (.lst vs) ∧ Paired (Rp X.K F) vs l
      rw [if_pos rfl]
      exact ⟨rfl, hB, hF, hM, hz, vs, hp, pp⟩
    · rw [List.getElem?_set_ne hj] at e ⊢
      have h := s.sl j sl e
      cases sl with
      | own k =>
        show σ[j]? = some (some (.ref (if j = i then p else O j))) ∧ B.H (if j = i then p else O j) = none ∧ F (if j = i then p else O j) = none ∧ (if j = i then p else O j) ∉ M ∧ k.length ≤ sizeLine ∧ ∃ vs, H (if j = i then p else O j) = some (.lst vs) ∧ Paired (Rp X.K F) vs k
        rw [if_neg (fun z => hj z.symm)]
        exact h
      | un => trivial
      | dat d => exact h
      | wref k => exact h
  · have h : (if j = i then p else O j) = (if k = i then p else O k) := h
    by_cases hj : j = i
    · by_cases hk : k = i
      · rw [hj, hk]
      · rw [if_pos hj, if_neg hk] at h
        rw [List.getElem?_set_ne (fun z => hk z.symm)] at e2
        exact absurd h.symm (hO k lk hk e2)
    · rw [List.getElem?_set_ne (fun z => hj z.symm)] at e1
      by_cases hk : k = i
      · rw [if_neg hj, if_pos hk] at h
        exact absurd h (hO j lj hj e1)
      · rw [if_neg hj, if_neg hk] at h
        rw [List.getElem?_set_ne (fun z => hk z.symm)] at e2
        exact s.inj j k lj lk e1 e2 h
theorem SR.setRef {i k : Nat} {m : Addr} (s : SR X B env w σ H F O M) (hm : M[k]? = some m) : SR X B (env.set i (.wref k)) w (σ.set i (some (.ref m))) H F O M := by
  refine ⟨by simpa using s.len, s.fh, s.nt, s.st, s.wr, s.tb, fun j sl e => ?_, fun j k lj lk e1 e2 => ?_⟩
  · by_cases hj : i = j
    · subst hj
      have hlt : i < env.length := by simpa using (List.getElem?_eq_some_iff.mp e).1
      rw [List.getElem?_set_self hlt] at e
      cases e
      exact ⟨m, hm, by rw [List.getElem?_set_self (by rw [s.len]; exact hlt)]⟩
    · rw [List.getElem?_set_ne hj] at e
      have := s.sl j sl e
      rw [List.getElem?_set_ne hj]
      exact this
  · exact s.inj j k lj lk (own_of_set e1 (fun _ z => by cases z)).1 (own_of_set e2 (fun _ z => by cases z)).1
/-- facts of a fresh list -/
theorem fresh_out {r : RV} {l : List D} {w0 : World} {H0 F0 : Hp} {M0 : List Addr} {v : V} (s0 : SR X B env w0 σ H0 F0 O M0) (h : (RV.fresh l).isAt X H0 env O H F M v) : l.length ≤ sizeLine ∧ ∃ p vs, v = .ref p ∧ B.H p = none ∧ F p = none ∧ p ∉ M ∧ H p = some (.lst vs) ∧ Paired (Rp X.K F) vs l ∧ ∀ j k, env[j]? = some (.own k) → O j ≠ p := by
  obtain ⟨hz, p, vs, e1, e2, e3, e4, e5, e6⟩ := h
  refine ⟨hz, p, vs, e1, ?_, e3, e4, e5, e6, fun j k e z => ?_⟩
  · cases q : B.H p with
    | none => rfl
    | some o => exact absurd e2 (s0.st.th p (by rw [q]; simp))
  · obtain ⟨_, _, _, _, _, ws, q, _⟩ := s0.sl j _ e
    rw [z, e2] at q; cases q
end
/-- name = e -/
def sSet (i : Nat) (e : Ex) : Sd := fun env w => (e env w).bind fun r w1 => match r with
  | .dat d => .ok (.nx (env.set i (.dat d))) w1
  | .fresh l => .ok (.nx (env.set i (.own l))) w1
  | .wref k => .ok (.nx (env.set i (.wref k))) w1
  | .bor _ _ => .stuck
theorem set_read {i : Nat} {D : Ends} {σ : St} {H : Hp} (q : tS (Cx.tx X T) Wi (sSet i d) D σ H) : tAsg (tD (Cx.tx X T) Wi d) (gName i) D σ H := by
  obtain ⟨B, env, w, F, O, M, s, q⟩ := q
  refine ⟨B, env, w, F, O, M, s, q.bind.imp fun r w1 q1 v H1 F1 M1 s1 st1 r1 => ?_⟩
  cases r with
  | dat d => exact q1 _ H1 F1 O M1 (s1.setDat r1) st1.fg
  | wref k => obtain ⟨m, e1, e2⟩ := r1; subst e2; exact q1 _ H1 F1 O M1 (s1.setRef e1) st1.fg
  | bor i l => exact q1.elim
  | fresh l =>
    obtain ⟨hz, p, vs, e1, e2, e3, e4, e5, e6, e7⟩ := fresh_out (r := .dat .non) s r1
    subst e1
    exact q1 _ H1 F1 _ M1 (s1.setOwn hz e2 e3 e4 e5 e6 fun j k _ e => e7 j k e) st1.fg
theorem js_set {i : Nat} {x : Str} {pos' : Pos} (hN : X.N.Nodup) (hi : X.N[i]? = some x) (hx : Loc X.env.scope x) (h : JE X T Wi e d) (hs : swapsWith e (some (.Name x pos')) pos.line X.env = pure false := by rfl)
    (hf : X.fn x = true ∨ X.env.scope.names.lookup x = some .local := by first | exact .inl rfl | exact .inr rfl | assumption) : JS X T Wi (.Assign [.Name x pos'] e pos) (sSet i d) :=
  (ps_set hN hi hx h hs hf).impD fun D σ H q => set_read q
/-- name = [..] -/
theorem js_setC {i : Nat} {y : Str} {py spos : Pos} {elt tg iter : Expr} {ifs : List Expr} {scope : Scope} {own : List (Str × Nat)} {src : Src} {g : Tgt} {tt : Tst} {de : Ex} {us vs : List Nat} (hc : X.calm = true) (hN : X.N.Nodup) (hy : X.N[i]? = some y) (hyl : X.env.scope.names.lookup y = some .local)
    (hsw : swapsWith (.ListComp elt [⟨tg, iter, ifs, 0⟩] scope pos) (some (.Name y py)) spos.line X.env = pure true) (hi : JI X T Wi tg iter src) (ok : BlkOk X.N X.env.scope scope own) (hv : own.map (·.2) = vs) (hvs : ∀ i ∈ us, i ∈ vs)
    (hg : ∀ (s : Shared) (H : Hp) (C : Addr) (cl : List (Str × Addr)) (fp : List Addr), JG (X.blk s H scope (compEnvC scope cl C X.env) fp) T tg g us)
    (ht : ∀ (s : Shared) (H : Hp) (C : Addr) (cl : List (Str × Addr)) (fp : List Addr), JTs (X.blk s H scope (compEnvC scope cl C X.env) fp) T ifs tt)
    (he : ∀ (s : Shared) (H : Hp) (C : Addr) (cl : List (Str × Addr)) (fp : List Addr), JE (X.blk s H scope (compEnvC scope cl C X.env) fp) T noW elt de) (hs : ∀ x, foldedSetIterable iter X.env x = pure x := by intro _; rfl) :
    JS X T Wi (.Assign [.Name y py] (.ListComp elt [⟨tg, iter, ifs, 0⟩] scope pos) spos) (sSet i (dComp src vs g tt de)) := by
  subst hv
  exact (js_setComp hc hN hy hyl hsw hi ok hvs hg ht he hs).impD fun D σ H q => set_read q
/-- name = e, a fresh list, that is to be changed through references -/
def sSetW (i : Nat) (e : Ex) : Sd := fun env w => (e env w).bind fun r w1 => match r with
  | .fresh l => .ok (.nx (env.set i (.wref w1.length))) (w1 ++ [.lst l])
  | _ => .stuck
theorem paired_app1 {α β : Type} {R : α → β → Prop} {xs : List α} {ys : List β} {x : α} {y : β} (h : Paired R xs ys) (r : R x y) : Paired R (xs ++ [x]) (ys ++ [y]) := Pr.append h (.cons r .nil)
theorem js_setW {i : Nat} {x : Str} {pos' : Pos} (hN : X.N.Nodup) (hi : X.N[i]? = some x) (hx : Loc X.env.scope x) (h : JE X T Wi e d) (hs : swapsWith e (some (.Name x pos')) pos.line X.env = pure false := by rfl)
    (hf : X.fn x = true ∨ X.env.scope.names.lookup x = some .local := by first | exact .inl rfl | exact .inr rfl | assumption) : JS X T Wi (.Assign [.Name x pos'] e pos) (sSetW i d) := by
  refine (ps_set hN hi hx h hs hf).impD fun D σ H q => ?_
  obtain ⟨B, env, w, F, O, M, s, q⟩ := q
  refine ⟨B, env, w, F, O, M, s, q.bind.imp fun r w1 q1 v H1 F1 M1 s1 st1 r1 => ?_⟩
  cases r with
  | dat d => exact q1.elim
  | wref k => exact q1.elim
  | bor i l => exact q1.elim
  | fresh l =>
    obtain ⟨hz, p, vs, e1, e2, e3, e4, e5, e6, e7⟩ := fresh_out (r := .dat .non) s r1
    subst e1
    have hl : M1.length = w1.length := s1.wr.at_.length
    have s2 : SR (Cx.tx X T) B env (w1 ++ [.lst l]) σ H1 F1 O (M1 ++ [p]) := by
      refine ⟨s1.len, s1.fh, s1.nt, ⟨s1.st.fg, s1.st.fr, s1.st.th, s1.st.nf, ?_⟩, ⟨?_, paired_app1 s1.wr.at_ ⟨e3, hz, vs, e5, e6⟩⟩, s1.tb, fun j sl e => ?_, s1.inj⟩
      · obtain ⟨nw, em, hn⟩ := s1.st.mw
        refine ⟨nw ++ [p], by rw [em, List.append_assoc], fun m hm => ?_⟩
        rcases List.mem_append.mp hm with z | z
        · exact hn m z
        · rw [List.mem_singleton.mp z]; exact e2
      · rw [List.nodup_append]
        refine ⟨s1.wr.nd, by simp, fun a ha b hb => ?_⟩
        rw [List.mem_singleton.mp hb]
        exact fun z => e4 (z ▸ ha)
      · have h := s1.sl j sl e
        cases sl with
        | un => trivial
        | dat d => exact h
        | own k =>
          obtain ⟨f1, f2, f3, f4, f5⟩ := h
          refine ⟨f1, f2, f3, ?_, f5⟩
          rw [List.mem_append]
          rintro (z | z)
          · exact f4 z
          · exact e7 j k e (List.mem_singleton.mp z)
        | wref k => obtain ⟨m, f1, f2⟩ := h; exact ⟨m, mem_of_pfx rfl f1, f2⟩
    refine q1 _ H1 F1 O (M1 ++ [p]) (s2.setRef ?_) st1.fg
    rw [← hl, List.getElem?_append_right (Nat.le_refl _), Nat.sub_self]
    rfl
/-- (a, b) = e -/
def sAsg (g : Tgt) (e : Ex) : Sd := fun env w => (e env w).bind fun r w1 => match r.arg with
  | some (.dat d) => (match g d env with
    | some env' => .ok (.nx env') w1
    | none => .stuck)
  | _ => .stuck
theorem js_asg {tg : Expr} {g : Tgt} {us : List Nat} (hg : JG X T tg g us) (h : JE X T Wi e d) (hs : swapsWithSole [tg] e pos.line X.env = pure false := by rfl) (hw : swappedStores [tg] e X.env = pure none := by rfl)
    (h1 : (assignEach [tg] X.env).map (·.2) = [assign tg X.env] := by rfl) : JS X T Wi (.Assign [tg] e pos) (sAsg g d) := by
  refine (ps_asg h hg hs hw h1).impD fun D σ H q => ?_
  obtain ⟨B, env, w, F, O, M, s, q⟩ := q
  refine ⟨B, env, w, F, O, M, s, q.bind.imp fun r w1 q1 v H1 F1 M1 s1 st1 r1 => ?_⟩
  split at q1
  · rename_i dd ea
    split at q1
    · rename_i env' eg
      obtain ⟨F2, s2, st2, a2⟩ := keep_arg s s1 st1 r1 ea
      exact ⟨B, env, w1, F2, O, M1, dd, env', s2, a2, eg, fun σ' s' _ => q1 σ' H1 F2 O M1 s' st2.fg⟩
    · exact q1.elim
  · exact q1.elim
/-- name op= e, by the operation -/
def sAug (i : Nat) (g : D → D → Option RV) (e : Ex) : Sd := fun env w => match env[i]? with
  | some (.dat x) => (e env w).bind fun r w1 => (match r.val with
    | some y => (match g x y with
      | some (.dat z) => .ok (.nx (env.set i (.dat z))) w1
      | _ => .stuck)
    | none => .stuck)
  | _ => .stuck
theorem js_aug {i : Nat} {x : Str} {op : Operator} {g : D → D → Option RV} {pos' : Pos} (hN : X.N.Nodup) (hi : X.N[i]? = some x) (hx : Loc X.env.scope x) (hop : OpS X (inplaceOp op) g) (h : JE X T Wi e d)
    (hf : X.fn x = true ∨ X.env.scope.names.lookup x = some .local := by first | exact .inl rfl | exact .inr rfl | assumption) : JS X T Wi (.AugAssign (.Name x pos') op e pos) (sAug i g d) := by
  obtain ⟨r, ho, hr⟩ := hop
  refine (ps_aug (ti := r) hN hi hx h (fun pins s σ H x y v u Q I rx ry q => ho pins s σ H x y v u Q I rx ry q) hf).impD fun D σ H q => ?_
  obtain ⟨B, env, w, F, O, M, s, q⟩ := q
  unfold sAug at q
  split at q
  · rename_i dx ex
    obtain ⟨v, e1, e2⟩ := s.sl i _ ex
    refine ⟨v, e1, B, env, w, F, O, M, s, q.bind.imp fun rr w1 q1 y H1 F1 M1 s1 st1 r1 => ?_⟩
    split at q1
    · rename_i dy ey
      split at q1
      · rename_i dz ez
        refine hr v y dx dy _ H1 F1 s1.fh s1.nt (Rp.rv (e2.mono st1.fg) s1.fh) (RV.rv s1 r1 ey) ez _ fun z H2 F2 xt nw => ?_
        exact q1 _ H2 F2 O M1 ((s1.xt xt).setDat nw) (st1.fg.trans xt.ff)
      · exact q1.elim
    · exact q1.elim
  · exact q.elim
theorem is_add : OpS X (inplaceOp .Add) (fun d e => match d, e with
    | .int i, .int j => some (.dat (.int (i + j)))
    | _, _ => none) := by
  refine ⟨_, iop_add, fun x y d e rv H F fh nt rx ry h Q q => ?_⟩
  cases d <;> cases e <;> first | (simp only at h; cases h; done) | skip
  simp only [Option.some.injEq] at h; subst h
  cases rx; cases ry
  exact ⟨_, _, rfl, rfl, new_val fh nt q (.int _)⟩
theorem is_sub : OpS X (inplaceOp .Sub) gSub := by
  refine ⟨_, iop_sub, fun x y d e rv H F fh nt rx ry h Q q => ?_⟩
  cases d <;> cases e <;> first | (simp only [gSub] at h; cases h; done) | skip
  simp only [gSub, Option.some.injEq] at h; subst h
  cases rx; cases ry
  exact ⟨_, _, rfl, rfl, new_val fh nt q (.int _)⟩
/-! ### own lists changed -/
theorem SR.updOwn {X : Tx} {B : Base} {env : Ev} {w : World} {σ : St} {H F : Hp} {O : Nat → Addr} {M : List Addr} {i : Nat} {l l' : List D} {vs' : List V} (s : SR X B env w σ H F O M) (e : env[i]? = some (.own l)) (hz : l'.length ≤ sizeLine) (p : Paired (Rp X.K F) vs' l') :
    SR X B (env.set i (.own l')) w σ (upd H (O i) (.lst vs')) F O M := by
  obtain ⟨e1, e2, e3, e4, ez, vs, e5, e6⟩ := s.sl i _ e
  have hlt : i < env.length := (List.getElem?_eq_some_iff.mp e).1
  have ne : ∀ {a : Addr} {o : HO}, H a = some o → a ≠ O i → upd H (O i) (.lst vs') a = some o := fun h n => by rw [upd_ne n]; exact h
  refine ⟨by simpa using s.len, fun b o q => ?_, s.nt, ⟨s.st.fg, fun a o hM' ht q => ?_, fun a h => ?_, s.st.nf, s.st.mw⟩, ⟨s.wr.nd, ?_⟩, tab_updL s.tb e5, fun j sl e' => ?_, fun j k lj lk f1 f2 h => ?_⟩
  · exact ne (s.fh _ _ q) (fun z => by subst z; rw [e3] at q; cases q)
  · exact ne (s.st.fr a o hM' ht q) (fun z => by subst z; rw [e2] at q; cases q)
  · by_cases z : a = O i
    · subst z; rw [upd_same]; simp
    · rw [upd_ne z]; exact s.st.th a h
  · have go : ∀ {M : List Addr} {w : World}, O i ∉ M → Paired (fun m o => F m = none ∧ WO.isAt X F H m o) M w → Paired (fun m o => F m = none ∧ WO.isAt X F (upd H (O i) (.lst vs')) m o) M w := by
      intro M w hM h
      induction h with
      | nil => exact .nil
      | @cons m o _ _ h1 _ ih =>
        have nm : m ≠ O i := fun z => hM (by rw [← z]; exact List.mem_cons_self)
        refine .cons ⟨h1.1, ?_⟩ (ih fun z => hM (List.mem_cons_of_mem _ z))
        cases o with
        | lst l => obtain ⟨_, ez, us, f1, f2⟩ := h1; exact ⟨ez, us, ne f1 nm, f2⟩
        | clo i caps => exact CloAt.keep h1.2 (keepE_upd e5) (Same.refl _) (fun _ _ e => e)
    exact go e4 s.wr.at_
  · by_cases hj : i = j
    · subst hj
      rw [List.getElem?_set_self hlt] at e'
      cases e'
      exact ⟨e1, e2, e3, e4, hz, vs', upd_same, p⟩
    · rw [List.getElem?_set_ne hj] at e'
      have h := s.sl j sl e'
      cases sl with
      | un => trivial
      | dat d => exact h
      | own k =>
        obtain ⟨f1, f2, f3, f4, fz, us, f5, f6⟩ := h
        exact ⟨f1, f2, f3, f4, fz, us, ne f5 (fun z => hj (s.inj i j l k e e' z.symm)), f6⟩
      | wref k => exact h
  · have own' : ∀ {j : Nat} {lj : List D}, (env.set i (.own l'))[j]? = some (.own lj) → ∃ l0, env[j]? = some (.own l0) := by
      intro j lj f
      by_cases hj : i = j
      · subst hj; exact ⟨l, e⟩
      · rw [List.getElem?_set_ne hj] at f; exact ⟨lj, f⟩
    obtain ⟨a1, b1⟩ := own' f1
    obtain ⟨a2, b2⟩ := own' f2
    exact s.inj j k a1 a2 b1 b2 h
def sAppend (i : Nat) (e : Ex) : Sd := fun env w => match env[i]? with
  | some (.own l) => (e env w).bind fun r w1 => (match r.st with
    | some d => if l.length < 16777216 then .ok (.nx (env.set i (.own (l ++ [d])))) w1 else .stuck
    | none => .stuck)
  | _ => .stuck
theorem js_append {i : Nat} {x : Str} {p1 p2 p3 : Pos} (h0 : PE X (.Name x p1) (tVar i)) (h : JE X T Wi e d)
    (hs : swapsWith (.Call (.Attribute (.Name x p1) "append" p2) [e] [] p3) none pos.line X.env = pure false := by rfl)
    (hbase : attributeBase (.Name x p1) "append" X.env (eval (.Name x p1) X.env) = eval (.Name x p1) X.env := by rfl)
    (hfew : ((backTo p3 (starEach (e :: []) X.env)).all (fun x => !x.1) && (backToKw p3 (keywordEach [] X.env)).all (fun x => x.1.isSome)
      && decide ((e :: []).length + ([] : List Keyword).length + (if ([] : List Keyword).isEmpty then 0 else 1) < 30)) = true := by rfl)
    (hline : (p2.endLine == p3.line) = true := by rfl) (hst : starEach (e :: []) X.env = (false, eval e X.env) :: starEach [] X.env := by rfl) (hplain : (backTo p3 (starEach [] X.env)).any (·.1) = false := by rfl) :
    JS X T Wi (.Expr (.Call (.Attribute (.Name x p1) "append" p2) [e] [] p3) pos) (sAppend i d) := by
  refine (ps_expr (pe_bm PySem.F.plainAttrs_list PySem.F.slot_list_append PySem.F.type_list_append mt_append h0 (pa_cons h pa_nil hst) hbase hfew hline hst hplain) hs).impD fun D σ H q => ?_
  obtain ⟨B, env, w, F, O, M, s, q⟩ := q
  unfold sAppend at q
  split at q
  · rename_i l el
    obtain ⟨e1, e2, e3, e4, ez, vs, e5, e6⟩ := s.sl i _ el
    refine ⟨.ref (O i), e1, .inl ⟨rfl, vs, SqL.of e5⟩, B, env, w, F, O, M, s, q.bind.imp fun r w1 q1 v H1 F1 M1 s1 st1 r1 => ?_⟩
    split at q1
    · rename_i dd er
      split at q1
      · rename_i hz
        obtain ⟨F2, s2, st2, a2⟩ := keep_arg s s1 st1 r1 (st_arg er)
        obtain ⟨g1, g2, g3, g4, gz, ws, g5, g6⟩ := s2.sl i _ el
        have hwl : ws.length = l.length := g6.length
        refine ⟨O i, ws, v, rfl, rfl, g5, by rw [hwl, sizeLine_eq]; exact hz, ?_⟩
        exact q1 σ _ F2 O M1 (s2.updOwn el (by rw [List.length_append, List.length_singleton, sizeLine_eq]; omega) (Pr.append g6 (.cons a2 .nil))) st2.fg
      · exact q1.elim
    · exact q1.elim
  · exact q.elim
end
end Dl
/-! DlI: extend, stores by place, the world's lists, loops. -/
namespace Dl
open PySem PySem.Spec PyProof.Rows L2 NdefX
section
variable {X : Cx}
/-- extend by any list that can be read -/
def rExtA (K : PySem.W.Frag) : V → List V → Hp → VK → Prop := fun x vs H Q => ∃ l b xs zs, x = .ref l ∧ vs = [.ref b] ∧ H l = some (.lst xs) ∧ (SqL K H b zs ∨ SqT K H b zs) ∧ l ≠ b ∧ xs.length + zs.length ≤ sizeLine ∧ Q .non (upd H l (.lst (xs ++ zs)))
end
section
variable {X : Cx} {T : Tbs} {Wi : WX} {pos : Pos} {st : Stmt} {sts : List Stmt} {a b : Sd} {e : Expr} {d : Ex}
/-! ### stores by place: an own list, or one of the world's -/
def sSetIx (i : Nat) (ix e : Ex) : Sd := fun env w => (e env w).bind fun r w1 => match env[i]?, r.st with
  | some (.own l), some d => (ix env w1).bind fun k w2 => (match k with
    | .dat (.int z) => (match ixN l.length z with
      | some j => .ok (.nx (env.set i (.own (l.set j d)))) w2
      | none => .stuck)
    | _ => .stuck)
  | some (.wref m), some d => (ix env w1).bind fun k w2 => (match k, w2[m]? with
    | .dat (.int z), some (.lst l) => (match ixN l.length z with
      | some j => .ok (.nx env) (w2.set m (.lst (l.set j d)))
      | none => .stuck)
    | _, _ => .stuck)
  | _, _ => .stuck
theorem WRel.get {X : Tx} {F H : Hp} {M : List Addr} {w : World} (wr : WRel X F H M w) {k : Nat} {o : WO} (h : w[k]? = some o) : ∃ m, M[k]? = some m ∧ F m = none ∧ WO.isAt X F H m o := Pr.get wr.at_ h
/-- a list of the world is written -/
theorem SR.updW {X : Tx} {B : Base} {env : Ev} {w : World} {σ : St} {H F : Hp} {O : Nat → Addr} {M : List Addr} {k : Nat} {m : Addr} {l l' : List D} {vs' : List V} (s : SR X B env w σ H F O M) (e : w[k]? = some (.lst l)) (em : M[k]? = some m) (hz : l'.length ≤ sizeLine) (p : Paired (Rp X.K F) vs' l') :
    SR X B env (w.set k (.lst l')) σ (upd H m (.lst vs')) F O M := by
  obtain ⟨m', em', hF, ez, vs, e5, e6⟩ := s.wr.get e
  rw [em] at em'; cases em'
  have hmM : m ∈ M := List.mem_of_getElem? em
  have ne : ∀ {a : Addr} {o : HO}, H a = some o → a ≠ m → upd H m (.lst vs') a = some o := fun h n => by rw [upd_ne n]; exact h
  -- the frame: what stood at the entry and is no world's list
  have hBm : m ∈ B.M ∨ B.H m = none := by
    obtain ⟨nw, en, hn⟩ := s.st.mw
    rw [en] at hmM
    rcases List.mem_append.mp hmM with z | z
    · exact .inl z
    · exact .inr (hn m z)
  refine ⟨s.len, fun b o q => ?_, s.nt, ⟨s.st.fg, fun a o hM' ht q => ?_, fun a h => ?_, s.st.nf, s.st.mw⟩, ⟨s.wr.nd, ?_⟩, tab_updL s.tb e5, fun j sl e' => ?_, s.inj⟩
  · exact ne (s.fh _ _ q) (fun z => by subst z; rw [hF] at q; cases q)
  · refine ne (s.st.fr a o hM' ht q) (fun z => ?_)
    subst z
    rcases hBm with z | z
    · obtain ⟨φ, rfl⟩ := hM' z
      have q2 := s.st.fr _ _ hM' ht q
      rw [e5] at q2
      cases q2
    · rw [z] at q; cases q
  · by_cases z : a = m
    · subst z; rw [upd_same]; simp
    · rw [upd_ne z]; exact s.st.th a h
  · have go : ∀ {M : List Addr} {w : World} {k : Nat}, M.Nodup → M[k]? = some m → Paired (fun m o => F m = none ∧ WO.isAt X F H m o) M w → Paired (fun a o => F a = none ∧ WO.isAt X F (upd H m (.lst vs')) a o) M (w.set k (.lst l')) := by
      intro M w k nd hk h
      induction h generalizing k with
      | nil => cases hk
      | @cons a o M' w' h1 ht ih =>
        obtain ⟨nda, nd'⟩ := List.nodup_cons.mp nd
        cases k with
        | zero =>
          simp only [List.getElem?_cons_zero, Option.some.injEq] at hk
          subst hk
          refine .cons ⟨hF, hz, vs', upd_same, p⟩ ?_
          have rest : ∀ {M' : List Addr} {w' : World}, a ∉ M' → Paired (fun m o => F m = none ∧ WO.isAt X F H m o) M' w' → Paired (fun b o => F b = none ∧ WO.isAt X F (upd H a (.lst vs')) b o) M' w' := by
            intro M' w' hn h
            induction h with
            | nil => exact .nil
            | @cons b o _ _ h1 _ ih =>
              refine .cons ⟨h1.1, ?_⟩ (ih fun z => hn (List.mem_cons_of_mem _ z))
              cases o with
              | lst l => obtain ⟨_, ez, us, f1, f2⟩ := h1; exact ⟨ez, us, ne f1 (fun z => hn (by rw [← z]; exact List.mem_cons_self)), f2⟩
              | clo i caps => exact CloAt.keep h1.2 (keepE_upd e5) (Same.refl _) (fun _ _ e => e)
          exact rest nda ht
        | succ k =>
          simp only [List.getElem?_cons_succ] at hk
          refine .cons ⟨h1.1, ?_⟩ (ih nd' hk)
          cases o with
          | lst l => obtain ⟨_, ez, us, f1, f2⟩ := h1; exact ⟨ez, us, ne f1 (fun z => nda (by rw [z]; exact List.mem_of_getElem? hk)), f2⟩
          | clo i caps => exact CloAt.keep h1.2 (keepE_upd e5) (Same.refl _) (fun _ _ e => e)
    exact go s.wr.nd em s.wr.at_
  · have h := s.sl j sl e'
    cases sl with
    | un => trivial
    | dat d => exact h
    | own k =>
      obtain ⟨f1, f2, f3, f4, fz, us, f5, f6⟩ := h
      exact ⟨f1, f2, f3, f4, fz, us, ne f5 (fun z => f4 (z ▸ hmM)), f6⟩
    | wref k => exact h
theorem js_setIx {i : Nat} {x : Str} {p1 p2 : Pos} {ei : Expr} {di : Ex} (h0 : PE X (.Name x p1) (tVar i)) (hi : JE X T Wi ei di) (h : JE X T Wi e d)
    (ha : ∀ v, assign (.Subscript (.Name x p1) ei p2) X.env v = (do
      let ov ← holding [v] (eval (.Name x p1) X.env)
      let iv ← holding [v, ov] (eval ei X.env)
      standAt p2
      holding [v, ov, iv] (setItem ov iv v)
      release [v, ov, iv] []) := by intro _; rfl)
    (hs : swapsWithSole [.Subscript (.Name x p1) ei p2] e pos.line X.env = pure false := by rfl) (hw : swappedStores [.Subscript (.Name x p1) ei p2] e X.env = pure none := by rfl)
    (h1 : (assignEach [.Subscript (.Name x p1) ei p2] X.env).map (·.2) = [assign (.Subscript (.Name x p1) ei p2) X.env] := by rfl) : JS X T Wi (.Assign [.Subscript (.Name x p1) ei p2] e pos) (sSetIx i di d) := by
  refine (ps_asg h (pg_sub h0 hi set_list ha) hs hw h1).impD fun D σ H q => ?_
  obtain ⟨B, env, w, F, O, M, s, q⟩ := q
  refine ⟨B, env, w, F, O, M, s, q.bind.imp fun r w1 q1 v H1 F1 M1 s1 st1 r1 => ?_⟩
  split at q1
  · rename_i l dd el er
    obtain ⟨F2, s2, st2, a2⟩ := keep_arg s s1 st1 r1 (st_arg er)
    obtain ⟨e1, e2, e3, e4, ez, vs, e5, e6⟩ := s2.sl i _ el
    refine ⟨.ref (O i), e1, B, env, w1, F2, O, M1, s2, q1.bind.imp fun k w2 q2 y H3 F3 M3 s3 st3 r3 => ?_⟩
    split at q2
    · rename_i z
      cases r3
      split at q2
      · rename_i j ej
        obtain ⟨g1, g2, g3, g4, gz, ws, g5, g6⟩ := s3.sl i _ el
        refine ⟨O i, ws, z, j, rfl, rfl, g5, by rw [g6.length]; exact ej, ?_⟩
        exact q2 σ _ F3 O M3 (s3.updOwn el (by rw [List.length_set]; exact gz) (Pr.set (Rp.mono st3.fg _ _ a2) j g6)) (st2.fg.trans st3.fg)
      · exact q2.elim
    · exact q2.elim
  · rename_i m dd em er
    obtain ⟨F2, s2, st2, a2⟩ := keep_arg s s1 st1 r1 (st_arg er)
    obtain ⟨am, e1, e2⟩ := s2.sl i _ em
    refine ⟨.ref am, e2, B, env, w1, F2, O, M1, s2, q1.bind.imp fun k w2 q2 y H3 F3 M3 s3 st3 r3 => ?_⟩
    split at q2
    · rename_i z l el
      cases r3
      split at q2
      · rename_i j ej
        obtain ⟨am3, f1, f2⟩ := s3.sl i _ em
        obtain ⟨am', f3, f4, fz, ws, f5, f6⟩ := s3.wr.get el
        rw [f1] at f3; cases f3
        obtain ⟨nw, en, _⟩ := id st3.mw
        have : am3 = am := by
          have := mem_of_pfx en e1
          rw [f1] at this
          exact Option.some.inj this
        subst this
        refine ⟨am3, ws, z, j, rfl, rfl, f5, by rw [f6.length]; exact ej, ?_⟩
        exact q2 σ _ F3 O M3 (s3.updW el f1 (by rw [List.length_set]; exact fz) (Pr.set (Rp.mono st3.fg _ _ a2) j f6)) (st2.fg.trans st3.fg)
      · exact q2.elim
    · exact q2.elim
  · exact q1.elim
/-- an item of one of the world's lists -/
def dIxW (i : Nat) (ix : Ex) : Ex := fun env w => match env[i]? with
  | some (.wref m) => (ix env w).bind fun k w1 => (match k, w1[m]? with
    | .dat (.int z), some (.lst l) => lift ((atI l z).map .dat) w1
    | _, _ => .stuck)
  | _ => .stuck
theorem je_ixW {i : Nat} {x : Str} {p1 : Pos} {ei : Expr} {di : Ex} (h0 : PE X (.Name x p1) (tVar i)) (hi : JE X T Wi ei di) (hs : PlainIx ei := by exact fun _ _ => rfl) : JE X T Wi (.Subscript (.Name x p1) ei pos) (dIxW i di) := by
  refine (pe_ix ix_list h0 hi hs).impD fun σ H Q q => ?_
  obtain ⟨B, env, w, F, O, M, s, q⟩ := q
  unfold dIxW at q
  split at q
  · rename_i m em
    obtain ⟨am, e1, e2⟩ := s.sl i _ em
    refine ⟨.ref am, e2, B, env, w, F, O, M, s, q.bind.imp fun k w1 q1 y H1 F1 M1 s1 st1 r1 => ?_⟩
    split at q1
    · rename_i z l el
      cases r1
      obtain ⟨rv, e, q3⟩ := q1.lift
      cases ea : atI l z with
      | none => rw [ea] at e; cases e
      | some dd =>
        rw [ea] at e
        cases e
        obtain ⟨am1, f1, f2⟩ := s1.sl i _ em
        obtain ⟨am', f3, f4, fz, ws, f5, f6⟩ := s1.wr.get el
        rw [f1] at f3; cases f3
        obtain ⟨nw, en, _⟩ := id st1.mw
        have : am1 = am := by
          have := mem_of_pfx en e1
          rw [f1] at this
          exact Option.some.inj this
        subst this
        obtain ⟨v, ev, rv⟩ := atI_pair f6 ea
        exact ⟨am1, ws, z, v, rfl, rfl, SqL.of f5, ev, q3 v H1 F1 M1 s1 st1 rv⟩
    · exact q1.elim
  · exact q.elim
/-! ### for -/
def forGo (g : Tgt) (body : Sd) : List D → Sd
  | [], env, w => .ok (.nx env) w
  | d :: ds, env, w => match g d env with
    | some env1 => (body env1 w).bind fun f w1 => (match f with
      | .nx e => forGo g body ds e w1
      | .ct e => forGo g body ds e w1
      | .bk e => .ok (.nx e) w1
      | .rt r => .ok (.rt r) w1)
    | none => .stuck
def sFor (src : Src) (g : Tgt) (body : Sd) : Sd := fun env w => (src env w).bind fun l w1 => forGo g body l env w1
theorem js_for {tg iter : Expr} {body : List Stmt} {src : Src} {g : Tgt} {us : List Nat} (hp : PassesOwn (model X.prog X.w) X.A X.env X.xe) (hc : X.calm = true) (hi : JI X T Wi tg iter src) (hg : JG X T tg g us) (hb : JSs X T Wi body b)
    (hs : ∀ x, foldedSetIterable iter X.env x = pure x := by intro _; rfl) : JS X T Wi (.For tg iter body [] pos) (sFor src g b) := by
  refine (ps_for hp hc hi hg hb hs).impD fun D σ H q => ?_
  obtain ⟨B, env, w, F, O, M, s, q⟩ := q
  refine ⟨B, env, w, F, O, M, s, q.bind.imp fun l w1 q1 J H1 F1 M1 s1 st1 wk => ?_⟩
  refine ⟨fun i m σ H => m = l.length - i ∧ i ≤ l.length ∧ ∃ env w F O M, SR (Cx.tx X T) B env w σ H F O M ∧ Same F1 F ∧ Pst (forGo g b (l.drop i) env w) (flG (Cx.tx X T) B F D) (badX (Cx.tx X T) B Wi), ⟨l.length, by simp, Nat.zero_le _, env, w1, F1, O, M1, s1, Same.refl _, by rw [List.drop_zero]; exact q1.imp fun f w z => z.later st1.fg⟩, ?_⟩
  rintro i m σ' H' ⟨rfl, hi, env', w', F', O', M', s', sf, qq⟩
  by_cases hlt : i < l.length
  · rw [List.drop_eq_getElem_cons hlt] at qq
    refine .inr ⟨wk.go i H' F' sf s'.fh hlt, fun σ H => i + 1 ≤ l.length ∧ ∃ env w F O M, SR (Cx.tx X T) B env w σ H F O M ∧ Same F1 F ∧ Pst (forGo g b (l.drop (i + 1)) env w) (flG (Cx.tx X T) B F D) (badX (Cx.tx X T) B Wi), fun σ H ⟨z1, z2⟩ => ⟨l.length - (i + 1), by omega, rfl, z1, z2⟩, fun x H2 hy => ?_⟩
    obtain ⟨F2, xt2, rx⟩ := wk.yld i H' F' x H2 l[i] sf s'.fh s'.nt hy (List.getElem?_eq_getElem hlt)
    have s2 := s'.xt xt2
    unfold forGo at qq
    split at qq
    · rename_i env1 eg
      refine ⟨B, env', w', F2, O', M', l[i], env1, s2, rx, eg, fun σ3 s3 _ => ?_⟩
      refine ⟨B, env1, w', F2, O', M', s3, qq.bind.imp fun f w4 q4 => ?_⟩
      cases f with
      | nx e => exact fun σ5 H5 F5 O5 M5 s5 k => ⟨hlt, e, w4, F5, O5, M5, s5, (sf.trans xt2.ff).trans k, q4.imp fun f w z => z.later (xt2.ff.trans k)⟩
      | ct e => exact fun σ5 H5 F5 O5 M5 s5 k => ⟨hlt, e, w4, F5, O5, M5, s5, (sf.trans xt2.ff).trans k, q4.imp fun f w z => z.later (xt2.ff.trans k)⟩
      | bk e => exact fun σ5 H5 F5 O5 M5 s5 k => q4 σ5 H5 F5 O5 M5 s5 (xt2.ff.trans k)
      | rt r => exact q4
    · exact qq.elim
  · have hil : i = l.length := by omega
    subst hil
    rw [List.drop_length] at qq
    exact .inl ⟨wk.stop _ H' F' sf s'.fh (Nat.le_refl _), qq σ' H' F' O' M' s' (Same.refl _)⟩
end
end Dl
/-! DlJ: defs, levels, the law. -/
namespace Dl
open PySem PySem.Spec PyProof.Rows L2 NdefX
structure DefB where
  ar : Nat
  ns : Nat
  body : Cs → Sd
def toSl : RV → Sl
  | .dat d => .dat d
  | .wref k => .wref k
  | _ => .un
def initE (args : List RV) (ns : Nat) : Ev := args.map toSl ++ List.replicate (ns - args.length) .un
def endR (o : Out Fl) : Out RV := match o with
  | .ok (.rt r) w => .ok r w
  | .ok (.nx _) w => .ok (.dat .non) w
  | .ok _ _ => .stuck
  | .exc x e w => .exc x e w
  | .stuck => .stuck
@[simp] theorem endR_rt (r : RV) (w : World) : endR (.ok (.rt r) w) = .ok r w := rfl
@[simp] theorem endR_nx (e : Ev) (w : World) : endR (.ok (.nx e) w) = .ok (.dat .non) w := rfl
def runB (b : DefB) (C : Cs) (args : List RV) (w : World) : Out RV := if args.length = b.ar then endR (b.body C (initE args b.ns) w) else .stuck
def Den (tbl : Nat → Option DefB) : Nat → Cs
  | 0 => ⟨fun _ _ _ => .stuck, 200⟩
  | n + 1 => ⟨fun i args w => match tbl i with
    | some b => runB b (Den tbl n) args w
    | none => .stuck, 16 * (n + 1) + 200⟩
theorem den_room (tbl : Nat → Option DefB) (n : Nat) : (Den tbl n).room = 16 * n + 200 := by cases n <;> rfl
theorem den_succ {tbl : Nat → Option DefB} {n i : Nat} {b : DefB} {args : List RV} {w : World} (h : tbl i = some b) : (Den tbl (n + 1)).call i args w = runB b (Den tbl n) args w := by
  show (match tbl i with
    | some b => runB b (Den tbl n) args w
    | none => .stuck) = _
  rw [h]
theorem initE_len {args : List RV} {ns : Nat} (h : args.length ≤ ns) : (initE args ns).length = ns := by
  unfold initE
  rw [List.length_append, List.length_map, List.length_replicate]
  omega
theorem start_len {N : List Str} {vs : List V} (h : vs.length ≤ N.length) : (L2.start N vs).length = N.length := by
  unfold L2.start
  rw [List.length_append, List.length_map, List.length_replicate]
  omega
/-- the state at a def's entry -/
theorem sr_start {X : Tx} {H F : Hp} {M : List Addr} {w : World} {vs : List V} {args : List RV} {N : List Str} (fh : Same F H) (nt : NoTbl F) (wr : WRel X F H M w) (tb : TabsN X.T.tabs H) (p : Paired (argAt X F M) vs args) (hl : args.length ≤ N.length) :
    SR X ⟨H, F, M⟩ (initE args N.length) w (L2.start N vs) H F (fun _ => 0) M := by
  have hv := p.length
  refine ⟨by rw [start_len (by omega), initE_len hl], fh, nt, .refl, wr, tb, fun i sl e => ?_, fun i j li lj e1 e2 _ => ?_⟩
  · by_cases hi : i < args.length
    · unfold initE at e
      rw [List.getElem?_append_left (by simpa using hi), List.getElem?_map] at e
      cases ea : args[i]? with
      | none => rw [ea] at e; cases e
      | some a =>
        rw [ea] at e
        simp only [Option.map_some, Option.some.injEq] at e; subst e
        obtain ⟨v, ev, av⟩ := Pr.get p ea
        have es : (L2.start N vs)[i]? = some (some v) := by
          unfold L2.start
          rw [List.getElem?_append_left (by simpa [hv] using hi), List.getElem?_map, ev]
          rfl
        rw [es]
        cases a with
        | dat d => exact ⟨v, rfl, av⟩
        | wref k => obtain ⟨m, e1, e2⟩ := av; subst e2; exact ⟨m, e1, rfl⟩
        | fresh l => exact av.elim
        | bor i l => exact av.elim
    · unfold initE at e
      rw [List.getElem?_append_right (by simpa using hi)] at e
      have := List.mem_of_getElem? e
      rw [List.mem_replicate] at this
      rw [this.2]
      trivial
  · exfalso
    have noOwn : ∀ {i : Nat} {l : List D}, (initE args N.length)[i]? = some (.own l) → False := by
      intro i l e
      have m := List.mem_of_getElem? e
      unfold initE at m
      rcases List.mem_append.mp m with m | m
      · obtain ⟨a, _, ea⟩ := List.mem_map.mp m
        cases a <;> cases ea
      · rw [List.mem_replicate] at m
        cases m.2
    exact noOwn e1
/-- a def, by its body's denotation -/
theorem def_ok {P : Program} {w : PySem.World} {K : PySem.W.Frag} {mg : Str → Option Value} {base : Heap} {T : Tbs} {x qual : Str} {params : Arguments} {body : List Stmt} {scope : Scope} {f : Addr} {fd : FuncData} {N ps : List Str} {tbl : Nat → Option DefB} {n i : Nat} {bd : Cs → Sd}
    (F : FunD K x qual params body scope [] [] f fd) (S : FnScope N ps scope) (ht : tbl i = some ⟨ps.length, N.length, bd⟩)
    (hb : ∀ (cdv : Value) (A : Around) (outer : List Env) (s : Shared) (H : Hp) (E : XK), Room n (A.deeper (envOfC qual scope s.heap.objs.size f cdv)) →
      JSs (cxOf (L2.CX P w) P w K mg base N qual scope f cdv A outer s H E) T (fun cls d _ H => E cls d H) body (bd (Den tbl n))) :
    FnOk P w K mg base (L2.CX P w) (n + 1) f fd ps (spD ⟨K, mg, T⟩ ((Den tbl (n + 1)).call i)) := by
  have hNl : ps.length ≤ N.length := by
    have := congrArg List.length S.pre
    rw [List.length_take] at this
    omega
  have hlen : ∀ vs H Q E, spD ⟨K, mg, T⟩ ((Den tbl (n + 1)).call i) vs H Q E → vs.length = ps.length := by
    intro vs H Q E h
    obtain ⟨F', M, args, w', fh, nt, wr, tb, p, q⟩ := h
    rw [den_succ ht] at q
    unfold runB at q
    split at q
    · rename_i hl; rw [p.length]; exact hl
    · exact q.elim
  refine F.ok S hlen fun cdv A outer s H vs Q E hr h => ⟨_, hb cdv A outer s H E hr, ?_⟩
  obtain ⟨F', M, args, w', fh, nt, wr, tb, p, q⟩ := h
  rw [den_succ ht] at q
  unfold runB at q
  split at q
  · rename_i hl
    have hl : args.length = ps.length := hl
    refine ⟨⟨H, F', M⟩, _, w', F', _, M, sr_start fh nt wr tb p (by omega), ?_⟩
    have q : Pst (endR (bd (Den tbl n) (initE args N.length) w')) _ _ := q
    cases eo : bd (Den tbl n) (initE args N.length) w' with
    | stuck => rw [eo] at q; exact q.elim
    | exc x' e' w2 =>
      rw [eo] at q
      intro cls d σ' H' F2 O2 M2 s2 hx
      exact q cls d H' F2 M2 s2.fh s2.nt s2.wr s2.tb s2.st hx
    | ok fl w2 =>
      rw [eo] at q
      cases fl with
      | rt r =>
        intro v H' F2 M2 ra
        exact q v H' F2 M2 ra.fh ra.nt ra.wr ra.tb ra.st ra.at_
      | nx e =>
        intro σ' H' F2 O2 M2 s2 _
        exact q .non H' F2 M2 s2.fh s2.nt s2.wr s2.tb s2.st .non
      | bk e => exact q.elim
      | ct e => exact q.elim
  · exact q.elim
/-- at level 0 nothing is promised -/
theorem def_zero {P : Program} {w : PySem.World} {K : PySem.W.Frag} {mg : Str → Option Value} {base : Heap} {T : Tbs} {f : Addr} {fd : FuncData} {ps : List Str} {tbl : Nat → Option DefB} {i : Nat} {CX : CXT} : FnOk P w K mg base CX 0 f fd ps (spD ⟨K, mg, T⟩ ((Den tbl 0).call i)) := by
  have no : ∀ vs H Q E, ¬ spD ⟨K, mg, T⟩ ((Den tbl 0).call i) vs H Q E := fun vs H Q E h => by
    obtain ⟨_, _, _, _, _, _, _, _, _, q⟩ := h
    exact q
  exact ⟨fun vs H Q E h => absurd h (no vs H Q E), fun A outer s H args us vs Q E _ _ _ _ h => absurd h (no vs H Q E)⟩
/-- a def that stands behind the top: its name, its place in the table, what it computes at each level -/
structure Dfn (P : Program) (w : PySem.World) (K : PySem.W.Frag) (mg : Str → Option Value) (base : Heap) (T : Tbs) (C : Cs) (n : Nat) (x : Str) (i : Nat) : Prop where
  ex : ∃ (a : Addr) (fd : FuncData) (ps : List Str), mg x = some (.ref a) ∧ PySem.W.keepIn K (.ref a) = true ∧ Binds K fd ps [] ∧ FnOk P w K mg base (L2.CX P w) n a fd ps (spD ⟨K, mg, T⟩ (C.call i))
theorem Dfn.cal {X : Cx} {T : Tbs} {C : Cs} {n : Nat} {x : Str} {i : Nat} (d : Dfn X.prog X.w X.K X.mg X.base T C n x i) : Cal X T n C x i := ⟨d.ex⟩
/-- the law's promise from what it computes -/
theorem ints_rp {K : PySem.W.Frag} {F : Hp} : ∀ ns : List Int, Paired (Rp K F) (ns.map V.int) (ns.map D.int)
  | [] => .nil
  | n :: ns => .cons (.int n) (ints_rp ns)
def offTbl (H : Hp) : Hp := fun b => match H b with
  | some (.tbl _) => none
  | o => o
theorem offTbl_same (H : Hp) : Same (offTbl H) H := fun b o e => by
  unfold offTbl at e
  split at e
  · cases e
  · exact e
theorem offTbl_no (H : Hp) : NoTbl (offTbl H) := fun b ps e => by
  unfold offTbl at e
  split at e
  · cases e
  · rename_i h; exact h _ e
theorem offTbl_at {H : Hp} {b : Addr} {o : HO} (e : H b = some o) (h : ∀ ps, o ≠ .tbl ps) : offTbl H b = some o := by
  unfold offTbl
  rw [e]
  split
  · rename_i q; exact absurd (Option.some.inj q) (h _)
  · rfl
theorem law_spT {K : PySem.W.Frag} {mg : Str → Option Value} {T : Tbs} {m : List RV → World → Out RV} {H : Hp} {a : Addr} {ns : List Int} (hT : TabsN T.tabs H) (hS : SqL K H a (ns.map V.int)) (hl : ns.length ≤ sizeLine) {w' : World} (h : m [.dat (.lst (ns.map D.int))] [] = .ok (.dat (.bl true)) w') :
    spD ⟨K, mg, T⟩ m [.ref a] H (fun v _ => v = .bl true) (fun _ _ _ => False) := by
  have hS' : SqL K (offTbl H) a (ns.map V.int) := by
    rcases hS with (e | ⟨o, e⟩) | q
    · exact .inl (.inl (offTbl_at e fun ps z => by cases z))
    · exact .inl (.inr ⟨o, offTbl_at e fun ps z => by cases z⟩)
    · exact .inr q
  refine ⟨offTbl H, [], [.dat (.lst (ns.map D.int))], [], offTbl_same H, offTbl_no H, ⟨List.nodup_nil, .nil⟩, hT, .cons (.lst (by rw [List.length_map]; exact hl) hS' (ints_rp ns)) .nil, ?_⟩
  rw [h]
  intro v H' F' M' _ _ _ _ _ r
  cases r
  rfl
/-- without tables -/
theorem law_sp {K : PySem.W.Frag} {mg : Str → Option Value} {nd : Nat → Option ND} {m : List RV → World → Out RV} {H : Hp} {a : Addr} {ns : List Int} (hO : Only H) (hS : SqL K H a (ns.map V.int)) (hl : ns.length ≤ sizeLine) {w' : World} (h : m [.dat (.lst (ns.map D.int))] [] = .ok (.dat (.bl true)) w') :
    spD ⟨K, mg, ⟨[], nd⟩⟩ m [.ref a] H (fun v _ => v = .bl true) (fun _ _ _ => False) :=
  law_spT (show TabsN [] H from fun p hp => absurd hp List.not_mem_nil) hS hl h
end Dl
/-! DlK: constants of the module, tables by text keys. -/
namespace Dl
open PySem PySem.Spec PyProof.Rows L2 NdefX
section
variable {X : Cx} {T : Tbs} {Wi : WX} {a : Expr} {da : Ex} {pos : Pos}
theorem pe_globI {x : Str} {i : Int} (hg : Gl X x) (hm : ∃ t, X.mg x = some (.int i t)) (hd : (x == ("__debug__" : Str)) = false := by decide) : PE X (.Name x pos) (tC (.int i)) := by
  obtain ⟨t, e⟩ := hm
  exact pe_glob hg e ⟨t, rfl⟩ hd
theorem pe_globS {x : Str} {i : Str} (hg : Gl X x) (hm : ∃ t, X.mg x = some (.str i t)) (hd : (x == ("__debug__" : Str)) = false := by decide) : PE X (.Name x pos) (tC (.str i)) := by
  obtain ⟨t, e⟩ := hm
  exact pe_glob hg e ⟨t, rfl⟩ hd
/-- a table of the top -/
def sV : D → V
  | .int i => .int i
  | .str s => .str s
  | .bl b => .bl b
  | _ => .non
structure TabAt (K : PySem.W.Frag) (w : PySem.World) (mg : Str → Option Value) (x : Str) (t : List (Str × D)) : Prop where
  ex : ∃ a es n, mg x = some (.ref a) ∧ KDict K w a es n ∧ (∀ q ∈ t, ∃ u, PySem.W.nsIn K a q.1 = some (some u) ∧ RelV (sV q.2) u)
def gGetK (t : List (Str × D)) : D → Option RV
  | .str z => (match t.lookup z with
    | some (.int i) => some (.dat (.int i))
    | some (.bl i) => some (.dat (.bl i))
    | _ => none)
  | _ => none
theorem lookup_mem {t : List (Str × D)} {z : Str} {d : D} (h : t.lookup z = some d) : (z, d) ∈ t := by
  induction t with
  | nil => cases h
  | cons p t ih =>
    obtain ⟨k, v⟩ := p
    rw [List.lookup_cons] at h
    split at h
    · rename_i e
      cases h
      rw [eq_of_beq e]
      exact .head _
    · exact .tail _ (ih h)
theorem je_getK {x : Str} {t : List (Str × D)} {p0 apos : Pos} (D : TabAt X.K X.w X.mg x t) (hg : Gl X x) (ha : JE X T Wi a da) (m : M1 X (.Name x p0) "get" apos a pos := by exact ⟨rfl, rfl, rfl, rfl⟩) (hd : (x == ("__debug__" : Str)) = false := by decide) :
    JE X T Wi (.Call (.Attribute (.Name x p0) "get" apos) [a] [] pos) (dUn (gGetK t) da) := by
  obtain ⟨l, es, n, hx, kd, hv⟩ := D.ex
  refine ⟨fun pins s σ H Q I q => ?_⟩
  have q := un_read (r := fun x H1 Q => ∃ z v u, x = .str z ∧ PySem.W.nsIn X.K l z = some (some u) ∧ RelV v u ∧ Q v H1) (fun x d rv H F fh nt rx h Q q => ?_) q
  · refine wpAny_Call_method m.base m.few m.line PySem.F.plainAttrs_dict PySem.F.slot_dict_get PySem.F.type_dict_get (thn ((pe_glob (v := .ref l) hg hx rfl hd).run pins s σ H (fun v H' => v = .ref l ∧ H' = H) I ⟨rfl, rfl⟩) fun u s1 ⟨x, H1, I1, rx, ex, eh⟩ => ?_)
    subst ex eh
    obtain rfl : u = Value.ref l := rx
    have mo := PySem.W.mapOf_K (prog := X.prog) (w := X.w) I1.kIn kd.at_ kd.lit
    refine ⟨mo.typeIs, fun b e => ?_, ?_⟩
    · cases e
      exact ⟨_, I1.kIn _ _ kd.at_, rfl⟩
    rw [m.trees]
    refine Calls.callWith_builtin rfl (Calls.evalArgs_plain (Calls.spliced_cons (thn (ha.run pins s1 σ H1 _ I1 q) fun iv s2 ⟨y, H2, I2, ry, z, v, u, ez, en, rv, q2⟩ => Calls.spliced_nil ?_)))
    subst ez
    obtain ⟨t, rfl⟩ := (show ∃ t, iv = Value.str z t from ry)
    have mo2 := PySem.W.mapOf_K (prog := X.prog) (w := X.w) I2.kIn kd.at_ kd.lit
    refine call_meetsIn PySem.F.slot_dict_get mo2.typeIs PySem.F.entry_dict_get (PySem.F.args_dict_get_2 _ _) (meets_dict_get (PySem.strKind X.prog X.w) l (PySem.strKind_is X.prog X.w z t) kd.low) ⟨_, mo2, ?_⟩
    rw [PySem.W.find_K kd.at_ en]
    exact ⟨v, H2, I2.tok _, rv, q2⟩
  · cases d <;> first | (simp only [gGetK] at h; cases h; done) | skip
    rename_i z
    cases rx
    simp only [gGetK] at h
    split at h
    · rename_i i e
      cases h
      obtain ⟨u, e1, e2⟩ := hv _ (lookup_mem e)
      exact ⟨z, .int i, u, rfl, e1, e2, new_val fh nt q (.int i)⟩
    · rename_i i e
      cases h
      obtain ⟨u, e1, e2⟩ := hv _ (lookup_mem e)
      exact ⟨z, .bl i, u, rfl, e1, e2, new_val fh nt q (.bl i)⟩
    · cases h
end
end Dl
/-! DlM: closures handed to a def: their cells are tracked while it runs. -/
namespace Dl
open PySem PySem.Spec PyProof.Rows L2 NdefX
open LamX (CodeO)
/-- the cells tracked, not tracked, put back -/
def addC (cs : List Addr) (h : Heap) (H : Hp) : Hp := fun b => if b ∈ cs then (h.get? b).map (CellO b) else H b
def dropC (cs : List Addr) (H : Hp) : Hp := fun b => if b ∈ cs then none else H b
def putC (cs : List Addr) (H H' : Hp) : Hp := fun b => if b ∈ cs then H b else H' b
section
variable {cs : List Addr} {h : Heap} {H H' : Hp} {b : Addr} {o : HO}
theorem addC_in (hb : b ∈ cs) : addC cs h H b = (h.get? b).map (CellO b) := if_pos hb
theorem addC_out (hb : b ∉ cs) : addC cs h H b = H b := if_neg hb
theorem dropC_in (hb : b ∈ cs) : dropC cs H b = none := if_pos hb
theorem dropC_out (hb : b ∉ cs) : dropC cs H b = H b := if_neg hb
theorem putC_in (hb : b ∈ cs) : putC cs H H' b = H b := if_pos hb
theorem putC_out (hb : b ∉ cs) : putC cs H H' b = H' b := if_neg hb
theorem dropC_some (e : dropC cs H b = some o) : b ∉ cs ∧ H b = some o := by
  by_cases hb : b ∈ cs
  · rw [dropC_in hb] at e; cases e
  · rw [dropC_out hb] at e; exact ⟨hb, e⟩
theorem dropC_none (e : H b = none) : dropC cs H b = none := by
  by_cases hb : b ∈ cs
  · exact dropC_in hb
  · rw [dropC_out hb]; exact e
end
section
variable {P : Program} {w : PySem.World} {K : PySem.W.Frag} {mg : Str → Option Value} {base : Heap} {A : Around} {outer : List Env} {s s' : Shared} {H : Hp} {cs : List Addr} {Q Q' : VK} {u : Value}
theorem cellO_ok {c : Addr} {o : Obj} {h : Heap} (e : h.get? c = some o) : ObjOk P w H h c (CellO c o) := ⟨e, ⟨o, e⟩, fun _ _ h1 st => st _ h1⟩
theorem hok_drop {h : Heap} (k : HOk P w H h) (hc : ∀ b ∈ cs, ∃ φ, H b = some (.ext φ)) : HOk P w (dropC cs H) h := fun a o e => by
  obtain ⟨_, e2⟩ := dropC_some e
  have out : ∀ {b : Addr} {o : HO}, H b = some o → (∀ φ, o ≠ .ext φ) → dropC cs H b = some o := fun {b o} q n => by
    rw [dropC_out (fun hb => by
      obtain ⟨φ, z⟩ := hc b hb
      rw [q] at z
      exact n φ (Option.some.inj z))]
    exact q
  exact (k a o e2).stay (fun _ _ _ q => q) (fun b q => out q fun φ z => by cases z) fun b xs q => out q fun φ z => by cases z
theorem env0_drop (e : Env0 P w K mg base A outer s H) (hc : ∀ b ∈ cs, ∃ φ, H b = some (.ext φ)) : Env0 P w K mg base A outer s (dropC cs H) where
  frames := e.frames
  mod := e.mod
  bs := fun b o h => ⟨(e.bs b o h).1, dropC_none (e.bs b o h).2⟩
  bsz := e.bsz
  funs := e.funs
  frf := fun b h => dropC_none (e.frf b h)
  hok := hok_drop e.hok hc
  bare := e.bare
theorem env0_add (e : Env0 P w K mg base A outer s H) (hc : ∀ b ∈ cs, H b = none ∧ base.get? b = none ∧ b ∉ frs outer ∧ ∃ o, s.heap.get? b = some o) : Env0 P w K mg base A outer s (addC cs s.heap H) where
  frames := e.frames
  mod := e.mod
  bs := fun b o h => ⟨(e.bs b o h).1, by
    rw [addC_out (fun hb => by rw [(hc b hb).2.1] at h; cases h)]
    exact (e.bs b o h).2⟩
  bsz := e.bsz
  funs := e.funs
  frf := fun b h => by
    rw [addC_out (fun hb => (hc b hb).2.2.1 h)]
    exact e.frf b h
  hok := fun a o q => by
    by_cases ha : a ∈ cs
    · obtain ⟨ob, eo⟩ := (hc a ha).2.2.2
      rw [addC_in ha, eo] at q
      cases q
      exact cellO_ok eo
    · rw [addC_out ha] at q
      have out : ∀ {b : Addr} {o : HO}, H b = some o → addC cs s.heap H b = some o := fun {b o} q => by
        rw [addC_out (fun hb => by rw [(hc b hb).1] at q; cases q)]
        exact q
      exact (e.hok a o q).stay (fun _ _ _ q => q) (fun b q => out q) fun b xs q => out q
  bare := e.bare
/-- behind a call during which cells were tracked -/
theorem ce_drop (hc : ∀ b ∈ cs, H b = none ∧ ∃ o, s.heap.get? b = some o) (hQ : ∀ v H', Q' v H' → (∀ b ∈ cs, H' b = addC cs s.heap H b) ∧ Q v (dropC cs H')) (c : CE outer P w (addC cs s.heap H) s Q' u s') : CE outer P w H s Q u s' := by
  obtain ⟨v, H', os, bare, un, hok, r, q⟩ := c
  obtain ⟨hk, q⟩ := hQ v H' q
  have cell : ∀ b ∈ cs, ∃ o, s.heap.get? b = some o ∧ H' b = some (CellO b o) ∧ s'.heap.get? b = some o := fun b hb => by
    obtain ⟨o, eo⟩ := (hc b hb).2
    have e1 := hk b hb
    rw [addC_in hb, eo] at e1
    exact ⟨o, eo, e1, (hok b _ e1).1⟩
  have out : ∀ {b : Addr} {o : HO}, H b = some o → b ∉ cs := fun {b o} q hb => by rw [(hc b hb).1] at q; cases q
  have un' : Un (frs outer) [] H (dropC cs H') s.heap s'.heap := by
    refine ⟨fun b o e n hf hx => ?_, fun b o e n hf hx => ?_, fun b o e n hx => ?_, un.there, fun b xs e => ?_, fun b o x e => ?_, fun b ps e => ?_⟩
    · by_cases hb : b ∈ cs
      · obtain ⟨o', e1, _, e3⟩ := cell b hb
        rw [e1] at e; cases e
        exact e3
      · exact un.keep b o e (by rw [addC_out hb]; exact n) hf hx
    · by_cases hb : b ∈ cs
      · obtain ⟨o', e1, _, e3⟩ := cell b hb
        rw [e1] at e; cases e
        exact ⟨o.slots, e3⟩
      · exact un.slot b o e (by rw [addC_out hb]; exact n) hf hx
    · by_cases hb : b ∈ cs
      · exact dropC_in hb
      · rw [dropC_out hb]
        exact un.free b o e (by rw [addC_out hb]; exact n) hx
    · rw [dropC_out (out e)]
      exact un.tups b xs (by rw [addC_out (out e)]; exact e)
    · rw [dropC_out (out e)]
      exact un.frzs b o x (by rw [addC_out (out e)]; exact e)
    · rw [dropC_out (out e)]
      exact un.tbls b ps (by rw [addC_out (out e)]; exact e)
  exact ⟨v, dropC cs H', os, bare, un', hok_drop hok (fun b hb => by obtain ⟨o, _, e2, _⟩ := cell b hb; exact ⟨_, e2⟩), r, q⟩
/-- behind a call during which tracked cells were not -/
theorem ce_put (hok0 : HOk P w H s.heap) (frf : ∀ b ∈ frs outer, H b = none) (hc : ∀ b ∈ cs, ∃ o, H b = some (CellO b o)) (hQ : ∀ v H', (∀ b ∈ cs, H' b = none) → Q' v H' → Q v (putC cs H H')) (c : CE outer P w (dropC cs H) s Q' u s') : CE outer P w H s Q u s' := by
  obtain ⟨v, H', os, bare, un, hok, r, q⟩ := c
  have cell : ∀ b ∈ cs, ∃ o, H b = some (CellO b o) ∧ s.heap.get? b = some o ∧ s'.heap.get? b = some o ∧ H' b = none := fun b hb => by
    obtain ⟨o, eo⟩ := hc b hb
    have e1 := (hok0 b _ eo).1
    have nf : b ∉ frs outer := fun z => by rw [frf b z] at eo; cases eo
    exact ⟨o, eo, e1, un.keep b o e1 (dropC_in hb) nf (by simp), un.free b o e1 (dropC_in hb) (by simp)⟩
  have no : ∀ b ∈ cs, H' b = none := fun b hb => by obtain ⟨_, _, _, _, e⟩ := cell b hb; exact e
  have out : ∀ {b : Addr} {o : HO}, H b = some o → (∀ φ, o ≠ .ext φ) → b ∉ cs := fun {b o} q n hb => by
    obtain ⟨o', e⟩ := hc b hb
    rw [q] at e
    exact n _ (Option.some.inj e)
  have un' : Un (frs outer) [] H (putC cs H H') s.heap s'.heap := by
    refine ⟨fun b o e n hf hx => ?_, fun b o e n hf hx => ?_, fun b o e n hx => ?_, un.there, fun b xs e => ?_, fun b o x e => ?_, fun b ps e => ?_⟩
    · exact un.keep b o e (dropC_none n) hf hx
    · exact un.slot b o e (dropC_none n) hf hx
    · by_cases hb : b ∈ cs
      · rw [putC_in hb]; exact n
      · rw [putC_out hb]; exact un.free b o e (dropC_none n) hx
    · have hb := out e (fun φ z => by cases z)
      rw [putC_out hb]
      exact un.tups b xs (by rw [dropC_out hb]; exact e)
    · have hb := out e (fun φ z => by cases z)
      rw [putC_out hb]
      exact un.frzs b o x (by rw [dropC_out hb]; exact e)
    · have hb := out e (fun φ z => by cases z)
      rw [putC_out hb]
      exact un.tbls b ps (by rw [dropC_out hb]; exact e)
  refine ⟨v, putC cs H H', os, bare, un', fun a o e => ?_, r, hQ v H' no q⟩
  by_cases ha : a ∈ cs
  · obtain ⟨o', e1, _, e3, _⟩ := cell a ha
    rw [putC_in ha, e1] at e
    cases e
    exact cellO_ok e3
  · rw [putC_out ha] at e
    have keep : ∀ {b : Addr} {o : HO}, H' b = some o → putC cs H H' b = some o := fun {b o} q => by
      rw [putC_out (fun hb => by rw [no b hb] at q; cases q)]
      exact q
    exact (hok a o e).stay (fun _ _ _ q => q) (fun b q => keep q) fun b xs q => keep q
end
/-! ### what a closure promises -/
structure COk (P : Program) (w : PySem.World) (K : PySem.W.Frag) (mg : Str → Option Value) (base : Heap) (k : Nat) (nd : ND) (sp : List (Option V) → Sp) : Prop where
  len : ∀ ws vs H Q E, sp ws vs H Q E → vs.length = nd.ps.length
  run : ∀ (f : Addr) (cl : List (Str × Addr)) (c' : Addr) (A : Around) (outer : List Env) (s : Shared) (H : Hp) (us : List Value) (vs : List V) (ws : List (Option V)) (Q : VK) (E : XK), Room k A → Env0 P w K mg base A outer s H → H f = some (CloO f nd cl c') → H c' = some (CodeO c' nd.qual) →
    CellsAt cl nd.fr ws s.heap H → Vals vs us → sp ws vs H Q E → codeAny (model P w) A (.call (.ref f) ⟨us, []⟩) (CR (L2.CX P w) outer P w H s Q E) s
section
variable {P : Program} {w : PySem.World} {K : PySem.W.Frag} {mg : Str → Option Value} {base : Heap} {k : Nat} {nd : ND} {sp : List (Option V) → Sp} {N : List Str}
theorem cok_def {b : List Stmt} (hnd : nd.body = .inl b) (S : NScope N nd.ps nd.fr nd.scope) (hb : ∀ (cl : List (Str × Addr)) (c' : Addr) (doc pm ctv : Value) (us : List Value), us.length = nd.ps.length → bindArgs ((nd.nf b cl c').fd doc pm ctv) ⟨us, []⟩ = pure (nd.ps.zip us)) (len : ∀ ws vs H Q E, sp ws vs H Q E → vs.length = nd.ps.length)
    (hbody : ∀ (f : Addr) (cl : List (Str × Addr)) (c' : Addr) (A : Around) (outer : List Env) (s : Shared) (H : Hp) (vs : List V) (ws : List (Option V)) (Q : VK) (E : XK), Room k (A.deeper (envF (nd.nf b cl c') f s.heap.objs.size)) → ws.length = nd.fr.length → sp ws vs H Q E →
      ∃ t, PSs (ncx (L2.CX P w) P w K mg base N (nd.nf b cl c') f A outer s H E) b t ∧ t { nx := fun _ H' => Q .non H', rt := Q } (startF N vs ws) H) : COk P w K mg base (k + 1) nd sp := by
  refine ⟨len, fun f cl c' A outer s H us vs ws Q E hr e0 hf hc C r q => ?_⟩
  have ok : NOk P w K mg base (L2.CX P w) (k + 1) f (nd.nf b cl c') nd.ps nd.fr sp := nok_of S (hb cl c') len fun A outer s H vs ws Q E hr _ _ hw q => hbody f cl c' A outer s H vs ws Q E hr hw q
  refine ok.run A outer s H us vs ws Q E hr e0 ?_ hc C r q
  rw [hf]
  unfold CloO
  rw [hnd]
theorem cok_lam {e : Expr} (hnd : nd.body = .inr e) (S : NScope N nd.ps nd.fr nd.scope) (hb : ∀ (cl : List (Str × Addr)) (c' : Addr) (pm ctv : Value) (us : List Value), us.length = nd.ps.length → bindArgs (PySem.W.kla_fn nd.name nd.qual nd.params e nd.scope cl pm (.ref c') ctv) ⟨us, []⟩ = pure (nd.ps.zip us)) (len : ∀ ws vs H Q E, sp ws vs H Q E → vs.length = nd.ps.length)
    (hbody : ∀ (f : Addr) (cl : List (Str × Addr)) (c' : Addr) (A : Around) (outer : List Env) (s : Shared) (H : Hp) (vs : List V) (ws : List (Option V)) (Q : VK) (E : XK), Room k (A.deeper (envF (nd.nf [] cl c') f s.heap.objs.size)) → ws.length = nd.fr.length → sp ws vs H Q E →
      ∃ t, PE (ncx (L2.CX P w) P w K mg base N (nd.nf [] cl c') f A outer s H E) e t ∧ t (startF N vs ws) H Q) : COk P w K mg base (k + 1) nd sp := by
  refine ⟨len, fun f cl c' A outer s H us vs ws Q E hr e0 hf hc C r hsp => ?_⟩
  have hl := len _ _ _ _ _ hsp
  have lim : s.heap.NoLimit := e0.mod.nolimit.keeps fun b o e => (e0.bs b o e).1
  have hf' : H f = some (LamO f nd e cl c') := by rw [hf]; unfold CloO; rw [hnd]
  obtain ⟨⟨pm, ctv, ho⟩, _, _⟩ := e0.hok f _ hf'
  refine PySem.W.kla_callFunE hr.depth ho rfl S.co S.gen rfl (codeO_at e0.hok hc) ?_
  rw [hb cl c' pm ctv us (by rw [← r.length]; exact hl)]
  refine wpAny_pure (wpAny_newFunctionEnv S.nocell (fun ⟨n, _⟩ hy => S.par n (List.of_mem_zip hy).1) (fun h₁ hns hsb => ⟨lim.fresh _ hsb, ?_⟩) S.kind)
  show codeAny _ _ (.expr e (envF (nd.nf [] cl c') f s.heap.objs.size)) _ _
  have kp : ∀ b o, s.heap.get? b = some o → h₁.get? b = some o := fun b o e => hsb.extBut b o (Nat.ne_of_lt (Heap.lt_size e)) (Heap.get?_push_of_some _ e)
  obtain ⟨t, ht, hq⟩ := hbody f cl c' A outer s H vs ws Q E (hr.deeper _) C.len hsp
  have I : Inv (ncx (L2.CX P w) P w K mg base N (nd.nf [] cl c') f A outer s H E) [] (startF N vs ws) H { s with heap := h₁, toks := s.toks + (nd.ps.zip us).length } := inv_startN (F := nd.nf [] cl c') S hr.hd e0 hl r C hns kp
  refine PySem.W.kla_codeExpr (wpAny_mono (ht.run [] _ (startF N vs ws) H Q I hq) (fun v s' hs => ?_) fun e s' hs => hs)
  obtain ⟨v', H', J, rv, q⟩ := hs
  exact ⟨v', H', J.os, J.bare, J.base, J.hok, rv, q⟩
end
/-- values in cells, as data -/
def CapV (K : PySem.W.Frag) (F : Hp) (ws : List (Option V)) (caps : List D) : Prop := ws.length = caps.length ∧ ∀ (j : Nat) (d : D), caps[j]? = some d → ∃ v, ws[j]? = some (some v) ∧ Rp K F v d
/-- what a closure promises that computes m of its arguments and of what it has captured -/
def spC (X : Tx) (m : List RV → World → Out RV) (caps : List D) : List (Option V) → Sp := fun ws vs H Q _ => ∃ F M args w, Same F H ∧ NoTbl F ∧ WRel X F H M w ∧ TabsN X.T.tabs H ∧ Paired (argAt X F M) vs args ∧ CapV X.K F ws caps ∧
  Pst (m (args ++ caps.map .dat) w) (fun r w' => ∀ v H' F' M', Same F' H' → NoTbl F' → WRel X F' H' M' w' → TabsN X.T.tabs H' → Stp H F M H' F' M' → r.isAt X H [] (fun _ => 0) H' F' M' v → Q v H') (fun _ _ _ => False)
theorem sr_startC {X : Tx} {H F : Hp} {M : List Addr} {w : World} {vs : List V} {args : List RV} {ws : List (Option V)} {caps : List D} {N : List Str} (fh : Same F H) (nt : NoTbl F) (wr : WRel X F H M w) (tb : TabsN X.T.tabs H) (p : Paired (argAt X F M) vs args) (cv : CapV X.K F ws caps) (hl : args.length + caps.length ≤ N.length) :
    SR X ⟨H, F, M⟩ (initE (args ++ caps.map .dat) N.length) w (startF N vs ws) H F (fun _ => 0) M := by
  have hv := p.length
  obtain ⟨cl, ca⟩ := cv
  have el : (args ++ caps.map RV.dat).length = args.length + caps.length := by simp
  have sl1 : (startF N vs ws).length = N.length := by unfold startF; simp; omega
  have noOwn : ∀ {i : Nat} {l : List D}, (initE (args ++ caps.map .dat) N.length)[i]? = some (.own l) → False := by
    intro i l e
    have m := List.mem_of_getElem? e
    unfold initE at m
    rcases List.mem_append.mp m with m | m
    · obtain ⟨a, _, ea⟩ := List.mem_map.mp m
      cases a <;> cases ea
    · rw [List.mem_replicate] at m
      cases m.2
  refine ⟨by rw [sl1, initE_len (by omega)], fh, nt, .refl, wr, tb, fun i sl e => ?_, fun i j li lj e1 e2 _ => (noOwn e1).elim⟩
  by_cases hi : i < args.length
  · unfold initE at e
    rw [List.getElem?_append_left (by simp; omega), List.getElem?_map, List.getElem?_append_left hi] at e
    cases ea : args[i]? with
    | none => rw [ea] at e; cases e
    | some a =>
      rw [ea] at e
      simp only [Option.map_some, Option.some.injEq] at e; subst e
      obtain ⟨v, ev, av⟩ := Pr.get p ea
      have es : (startF N vs ws)[i]? = some (some v) := by
        unfold startF
        rw [List.getElem?_append_left (by simp; omega), List.getElem?_map, ev]
        rfl
      rw [es]
      cases a with
      | dat d => exact ⟨v, rfl, av⟩
      | wref k => obtain ⟨m, e1, e2⟩ := av; subst e2; exact ⟨m, e1, rfl⟩
      | fresh l => exact av.elim
      | bor i l => exact av.elim
  · by_cases hj : i < args.length + caps.length
    · unfold initE at e
      rw [List.getElem?_append_left (by simp; omega), List.getElem?_map, List.getElem?_append_right (by omega), List.getElem?_map] at e
      cases ec : caps[i - args.length]? with
      | none => rw [ec] at e; cases e
      | some d =>
        rw [ec] at e
        simp only [Option.map_some, Option.some.injEq] at e; subst e
        obtain ⟨v, ev, rv⟩ := ca _ d ec
        have es : (startF N vs ws)[i]? = some (some v) := by
          unfold startF
          rw [List.getElem?_append_right (by simp; omega), List.getElem?_append_left (by simp; omega)]
          simp only [List.length_map, hv]
          exact ev
        rw [es]
        exact ⟨v, rfl, rv⟩
    · unfold initE at e
      rw [List.getElem?_append_right (by simp; omega)] at e
      have := List.mem_of_getElem? e
      rw [List.mem_replicate] at this
      rw [this.2]
      trivial
section
variable {P : Program} {w : PySem.World} {K : PySem.W.Frag} {mg : Str → Option Value} {base : Heap} {T : Tbs} {n i : Nat} {nd : ND} {N : List Str} {tbl : Nat → Option DefB} {caps : List D}
theorem spC_len {bd : Cs → Sd} (ht : tbl i = some ⟨nd.ps.length + nd.fr.length, N.length, bd⟩) (hcaps : caps.length = nd.fr.length) : ∀ ws vs H Q E, spC ⟨K, mg, T⟩ ((Den tbl (n + 1)).call i) caps ws vs H Q E → vs.length = nd.ps.length := by
  intro ws vs H Q E h
  obtain ⟨F', M, args, w', fh, nt, wr, tb, p, cv, q⟩ := h
  rw [den_succ ht] at q
  unfold runB at q
  split at q
  · rename_i hl
    simp only [List.length_append, List.length_map] at hl
    rw [p.length]
    omega
  · exact q.elim
theorem clo_def {b : List Stmt} {bd : Cs → Sd} (hnd : nd.body = .inl b) (S : NScope N nd.ps nd.fr nd.scope) (hb : ∀ (cl : List (Str × Addr)) (c' : Addr) (doc pm ctv : Value) (us : List Value), us.length = nd.ps.length → bindArgs ((nd.nf b cl c').fd doc pm ctv) ⟨us, []⟩ = pure (nd.ps.zip us))
    (ht : tbl i = some ⟨nd.ps.length + nd.fr.length, N.length, bd⟩) (hcaps : caps.length = nd.fr.length)
    (hd : ∀ (f : Addr) (cl : List (Str × Addr)) (c' : Addr) (A : Around) (outer : List Env) (s : Shared) (H : Hp) (E : XK), Room n (A.deeper (envF (nd.nf b cl c') f s.heap.objs.size)) → JSs (ncx (L2.CX P w) P w K mg base N (nd.nf b cl c') f A outer s H E) T noW b (bd (Den tbl n))) :
    COk P w K mg base (n + 1) nd (spC ⟨K, mg, T⟩ ((Den tbl (n + 1)).call i) caps) := by
  have hN : nd.ps.length + nd.fr.length ≤ N.length := by
    have q := congrArg List.length S.pre
    rw [List.length_take, List.length_append] at q
    omega
  refine cok_def hnd S hb (spC_len ht hcaps) fun f cl c' A outer s H vs ws Q E hr _ h => ⟨_, hd f cl c' A outer s H E hr, ?_⟩
  have hlen := spC_len ht hcaps _ _ _ _ _ h
  obtain ⟨F', M, args, w', fh, nt, wr, tb, p, cv, q⟩ := h
  rw [den_succ ht] at q
  unfold runB at q
  split at q
  · have hla : args.length = nd.ps.length := by rw [← p.length]; exact hlen
    refine ⟨⟨H, F', M⟩, _, w', F', _, M, sr_startC (N := N) fh nt wr tb p cv (by rw [hla, hcaps]; exact hN), ?_⟩
    have q : Pst (endR (bd (Den tbl n) (initE (args ++ caps.map .dat) N.length) w')) _ _ := q
    cases eo : bd (Den tbl n) (initE (args ++ caps.map .dat) N.length) w' with
    | stuck => rw [eo] at q; exact q.elim
    | exc x' e' w2 => rw [eo] at q; exact q.elim
    | ok fl w2 =>
      rw [eo] at q
      cases fl with
      | rt r =>
        intro v H' F2 M2 ra
        exact q v H' F2 M2 ra.fh ra.nt ra.wr ra.tb ra.st ra.at_
      | nx e =>
        intro σ' H' F2 O2 M2 s2 _
        exact q .non H' F2 M2 s2.fh s2.nt s2.wr s2.tb s2.st .non
      | bk e => exact q.elim
      | ct e => exact q.elim
  · exact q.elim
theorem clo_lam {e : Expr} {ed : Cs → Ex} (hnd : nd.body = .inr e) (S : NScope N nd.ps nd.fr nd.scope) (hb : ∀ (cl : List (Str × Addr)) (c' : Addr) (pm ctv : Value) (us : List Value), us.length = nd.ps.length → bindArgs (PySem.W.kla_fn nd.name nd.qual nd.params e nd.scope cl pm (.ref c') ctv) ⟨us, []⟩ = pure (nd.ps.zip us))
    (ht : tbl i = some ⟨nd.ps.length + nd.fr.length, N.length, fun C => sRet (ed C)⟩) (hcaps : caps.length = nd.fr.length)
    (hd : ∀ (f : Addr) (cl : List (Str × Addr)) (c' : Addr) (A : Around) (outer : List Env) (s : Shared) (H : Hp) (E : XK), Room n (A.deeper (envF (nd.nf [] cl c') f s.heap.objs.size)) → JE (ncx (L2.CX P w) P w K mg base N (nd.nf [] cl c') f A outer s H E) T noW e (ed (Den tbl n))) :
    COk P w K mg base (n + 1) nd (spC ⟨K, mg, T⟩ ((Den tbl (n + 1)).call i) caps) := by
  have hN : nd.ps.length + nd.fr.length ≤ N.length := by
    have q := congrArg List.length S.pre
    rw [List.length_take, List.length_append] at q
    omega
  refine cok_lam hnd S hb (spC_len ht hcaps) fun f cl c' A outer s H vs ws Q E hr _ h => ⟨_, hd f cl c' A outer s H E hr, ?_⟩
  have hlen := spC_len ht hcaps _ _ _ _ _ h
  obtain ⟨F', M, args, w', fh, nt, wr, tb, p, cv, q⟩ := h
  rw [den_succ ht] at q
  unfold runB at q
  split at q
  · have hla : args.length = nd.ps.length := by rw [← p.length]; exact hlen
    have s0 := sr_startC (N := N) fh nt wr tb p cv (by rw [hla, hcaps]; exact hN)
    refine ⟨⟨H, F', M⟩, _, w', F', _, M, s0, ?_⟩
    have q : Pst (endR ((ed (Den tbl n) (initE (args ++ caps.map .dat) N.length) w').bind fun r w1 => .ok (.rt r.ret) w1)) _ _ := q
    cases eo : ed (Den tbl n) (initE (args ++ caps.map .dat) N.length) w' with
    | stuck => rw [eo] at q; exact q.elim
    | exc x' e' w2 => rw [eo] at q; exact q.elim
    | ok r w2 =>
      rw [eo] at q
      intro v H' F2 M2 s2 st ra
      have ra := ret_at s0 s2 ra
      exact q v H' F2 M2 ra.fh ra.nt ra.wr ra.tb ra.st ra.at_
  · exact q.elim
end
end Dl
/-! DlN: a closure called by the def that got it. -/
namespace Dl
open PySem PySem.Spec PyProof.Rows L2 NdefX
open LamX (CodeO)
def allL (w : World) : Bool := w.all fun o => match o with
  | .lst _ => true
  | .clo _ _ => false
def cellsOf (cl : List (Str × Addr)) (fr : List Str) : List Addr := fr.filterMap fun y => cl.lookup y
/-- the closures' promises -/
def Clos (P : Program) (w : PySem.World) (K : PySem.W.Frag) (mg : Str → Option Value) (base : Heap) (T : Tbs) (C : Cs) (n : Nat) : Prop :=
  ∀ (i : Nat) (nd : ND) (caps : List D), T.nd i = some nd → caps.length = nd.fr.length → COk P w K mg base n nd (spC ⟨K, mg, T⟩ (C.call i) caps)
def actK (C : Cs) (j : Nat) (rs : List RV) (w1 : World) : Out RV := match w1[j]?, dats rs with
  | some (.clo i caps), some ds => if w1.length = j + 1 ∧ allL (w1.take j) = true then
      (match C.call i ((ds ++ caps).map .dat) (w1.take j) with
        | .ok (.dat d) w2 => if w2.length = j ∧ allL w2 = true then .ok (.dat d) (w2 ++ [.clo i caps]) else .stuck
        | _ => .stuck)
    else .stuck
  | _, _ => .stuck
def dAct (C : Cs) (k : Nat) (es : Exs) : Ex := fun env w => match env[k]? with
  | some (.wref j) => (match w[j]? with
    | some (.clo _ _) => (es env w).bind fun rs w1 => actK C j rs w1
    | _ => .stuck)
  | _ => .stuck
section
variable {X : Tx} {F H : Hp} {M : List Addr} {w : World}
theorem CapA.cell {K : PySem.W.Frag} {cl : List (Str × Addr)} {fr : List Str} {caps : List D} (h : CapA K F H cl fr caps) {b : Addr} (hb : b ∈ cellsOf cl fr) : ∃ o, H b = some (CellO b o) ∧ (∃ u, o.data = .cell (some u)) ∧ F b = none := by
  obtain ⟨y, hy, e⟩ := List.mem_filterMap.mp hb
  obtain ⟨j, hj, ej⟩ := List.mem_iff_getElem.mp hy
  have hjc : j < caps.length := by rw [h.len]; exact hj
  obtain ⟨c, o, u, v, q1, q0, q2, q3, q4, q5⟩ := h.at_ j y caps[j] (by rw [← ej]; simp [hj]) (by simp [hjc])
  rw [e] at q1
  cases q1
  exact ⟨o, q2, ⟨u, q3⟩, q0⟩
theorem allL_at {w : World} (h : allL w = true) {o : WO} (ho : o ∈ w) : ∃ l, o = .lst l := by
  have := List.all_eq_true.mp h o ho
  cases o with
  | lst l => exact ⟨l, rfl⟩
  | clo i caps => cases this
/-- lists of the world alone need their own objects alone -/
theorem lists_keep {H' F' : Hp} (hw : allL w = true) (p : Paired (fun m o => F m = none ∧ WO.isAt X F H m o) M w) (hF : Same F F') (k : ∀ m vs, F m = none → H m = some (.lst vs) → F' m = none ∧ H' m = some (.lst vs)) :
    Paired (fun m o => F' m = none ∧ WO.isAt X F' H' m o) M w := by
  induction p with
  | nil => exact .nil
  | @cons m o M' w' h1 _ ih =>
    refine .cons ?_ (ih (by simpa [allL] using (List.all_eq_true.mp hw |> fun q => List.all_eq_true.mpr fun x hx => q x (.tail _ hx))))
    obtain ⟨l, rfl⟩ := allL_at hw (.head _)
    obtain ⟨h0, ez, vs, e1, e2⟩ := h1
    obtain ⟨a, b⟩ := k m vs h0 e1
    exact ⟨a, ez, vs, b, Rp.monoAll hF _ _ e2⟩
end
theorem pick_list {n : Nat} {R : Nat → V → Prop} (h : ∀ j, j < n → ∃ v, R j v) : ∃ ws : List (Option V), ws.length = n ∧ (∀ j, j < n → ∃ v, ws[j]? = some (some v)) ∧ ∀ (j : Nat) (v : V), ws[j]? = some (some v) → R j v := by
  have h2 : ∀ j, ∃ v, j < n → R j v := fun j => by
    by_cases hj : j < n
    · obtain ⟨v, hv⟩ := h j hj; exact ⟨v, fun _ => hv⟩
    · exact ⟨.non, fun z => absurd z hj⟩
  refine ⟨(List.range n).map fun j => some (Classical.choose (h2 j)), by simp, fun j hj => ⟨Classical.choose (h2 j), by rw [List.getElem?_map, List.getElem?_range hj]; rfl⟩, fun j v e => ?_⟩
  rw [List.getElem?_map] at e
  by_cases hj : j < n
  · rw [List.getElem?_range hj] at e
    simp only [Option.map_some, Option.some.injEq] at e
    rw [← e]
    exact Classical.choose_spec (h2 j) hj
  · rw [List.getElem?_eq_none (by simpa using hj)] at e
    cases e
section
variable {X : Cx} {T : Tbs} {Wi : WX} {pins : List (Addr × Obj)} {σ : St} {H : Hp} {s : Shared}
theorem clo_fnAt {m : Addr} {nd : ND} {cl : List (Str × Addr)} {c' : Addr} (hok : HOk X.prog X.w H s.heap) (e : H m = some (CloO m nd cl c')) : ∃ (o : Obj) (fd : FuncData), s.heap.get? m = some o ∧ o.data = .func fd ∧ PySem.W.FnAt m s.heap := by
  unfold CloO at e
  split at e
  · obtain ⟨od, sl, doc, pm, ctv, ho⟩ := fnO_at hok e
    exact ⟨_, _, ho, rfl, ⟨_, od, _, sl, ho⟩⟩
  · obtain ⟨⟨pm, ctv, ho⟩, _, _⟩ := hok m _ e
    exact ⟨_, _, ho, rfl, ⟨_, _, _, _, ho⟩⟩
/-- an object that is a cell's is no code object's, no function's -/
theorem cell_ne {cs : List Addr} (hok : HOk X.prog X.w H s.heap) (hc : ∀ b ∈ cs, ∃ o, H b = some (CellO b o) ∧ (∃ u, o.data = .cell (some u))) {b : Addr} {o : HO} (e : H b = some o) (ho : (∀ φ, o ≠ .ext φ) ∨ (∃ q, o = CodeO b q) ∨ ∃ nd cl c', o = CloO b nd cl c') : b ∉ cs := fun hb => by
  obtain ⟨ob, e1, u, e2⟩ := hc b hb
  have e3 := (hok b _ e1).1
  rcases ho with z | ⟨q, z⟩ | ⟨nd, cl, c', z⟩
  · rw [e1] at e
    exact z _ (Option.some.inj e).symm
  · subst z
    obtain ⟨⟨oc, vs, t, h1, h2, h3⟩, _, _⟩ := hok b _ e
    have e3 : s.heap.get? b = some ob := e3
    rw [e3] at h1
    cases h1
    rw [e2] at h2
    cases h2
  · subst z
    obtain ⟨o2, fd, h1, h2, _⟩ := clo_fnAt hok e
    have e3 : s.heap.get? b = some ob := e3
    rw [e3] at h1
    cases h1
    rw [e2] at h2
    cases h2
theorem dat_args {X : Tx} {F : Hp} {M : List Addr} : ∀ {vs : List V} {ds : List D}, Paired (Rp X.K F) vs ds → Paired (argAt X F M) vs (ds.map .dat)
  | _, _, .nil => .nil
  | _, _, .cons r t => .cons r (dat_args t)
theorem je_act {C : Cs} {n k : Nat} {x : Str} {e : Expr} {es : List Expr} {ds : Exs} {p pos : Pos} (c : Clos X.prog X.w X.K X.mg X.base T C n) (hr : Room n X.A) (h : JA X T Wi (e :: es) ds) (hN : X.N[k]? = some x := by rfl) (hv : Vis X.env.scope x := by first | exact Or.inl rfl | exact Or.inr (Or.inl rfl) | exact Or.inr (Or.inr rfl))
    (hd : (x == ("__debug__" : Str)) = false := by decide) (hcd : (x == ("__classdict__" : Str)) = false := by decide)
    (he : starEach (e :: es) X.env = (false, eval e X.env) :: starEach es X.env := by rfl) (hpl : (backTo pos (starEach es X.env)).any (·.1) = false := by rfl) : JE X T Wi (.Call (.Name x p) (e :: es) [] pos) (dAct C k ds) := by
  refine ⟨fun pins s σ H Q I q => ?_⟩
  obtain ⟨B, env, w, F, O, M, sr, q⟩ := q
  unfold dAct at q
  split at q
  case h_2 => exact q.elim
  rename_i j ek
  split at q
  case h_2 => exact q.elim
  rename_i i0 caps0 ew
  obtain ⟨m, em, hs⟩ := sr.sl k _ ek
  obtain ⟨m', em', _, hclo⟩ := sr.wr.get ew
  rw [em] at em'; cases em'
  obtain ⟨nd0, cl0, c0, _, hm0, _, _⟩ := CloAt.ex hclo
  refine wpAny_Call_Name_kw (thn ((pe_var (pos := p) hN hv hd hcd).run pins s σ H (fun v H1 => v = .ref m ∧ H1 = H) I ⟨.ref m, hs, rfl, rfl⟩) fun u s1 ⟨v, H1, I1, r1, q1⟩ => ?_)
  obtain ⟨ev, eH⟩ := q1
  subst ev eH
  obtain rfl : u = Value.ref m := r1
  obtain ⟨_, _, _, _, fa1⟩ := clo_fnAt I1.hok hm0
  have rd : tA (Cx.tx X T) Wi ds σ H1 (fun vs H2 => ∃ rs w1 F1 M1, SR (Cx.tx X T) B env w1 σ H2 F1 O M1 ∧ Stp H1 F M H2 F1 M1 ∧ Paired (argAt (Cx.tx X T) F1 M1) vs rs ∧
      Pst (actK C j rs w1) (fun r w' => ∀ v H' F' M', SR (Cx.tx X T) B env w' σ H' F' O M' → Stp H1 F M H' F' M' → r.isAt (Cx.tx X T) H1 env O H' F' M' v → Q v H') (badX (Cx.tx X T) B Wi)) :=
    ⟨B, env, w, F, O, M, sr, q.bind.imp fun rs w1 q1 vs H2 F1 M1 s1 st1 pa => ⟨rs, w1, F1, M1, s1, st1, pa, q1⟩⟩
  refine PySem.W.callWith_F (first := []) fa1 (thn (h.run pos pins s1 σ H1 _ I1 rd) fun us s2 ⟨vs, H2, I2, r, rs, w1, F1, M1, sr1, st1, pa, q⟩ => ?_) he hpl
  unfold actK at q
  split at q
  case h_2 => exact q.elim
  rename_i i caps dsv ew1 eds
  split at q
  case isFalse => exact q.elim
  rename_i hlen
  obtain ⟨hl1, hl2⟩ := hlen
  have em1 : M1[j]? = some m := by obtain ⟨nw, en, _⟩ := st1.mw; exact mem_of_pfx en em
  obtain ⟨m1, em1', hFm, hclo1⟩ := sr1.wr.get ew1
  rw [em1] at em1'; cases em1'
  obtain ⟨nd, cl, c', hnd, hm, hc', cap⟩ := CloAt.ex hclo1
  obtain ⟨_, _, _, _, fa2⟩ := clo_fnAt I2.hok hm
  refine ⟨fa2, ?_⟩
  have hMl : M1.length = w1.length := by rw [sr1.wr.at_.length]
  have cellc := fun b (hb : b ∈ cellsOf cl nd.fr) => cap.cell hb
  generalize hcs : cellsOf cl nd.fr = cs at cellc
  have hcO : ∀ b ∈ cs, ∃ o, H2 b = some (CellO b o) ∧ (∃ u, o.data = .cell (some u)) := fun b hb => by obtain ⟨o, a, b, _⟩ := cellc b hb; exact ⟨o, a, b⟩
  have hcO' : ∀ b ∈ cs, ∃ o, H2 b = some (CellO b o) := fun b hb => by obtain ⟨o, a, _⟩ := hcO b hb; exact ⟨o, a⟩
  have hcE : ∀ b ∈ cs, ∃ φ, H2 b = some (.ext φ) := fun b hb => by obtain ⟨o, a⟩ := hcO' b hb; exact ⟨_, a⟩
  have hcF : ∀ b ∈ cs, F1 b = none := fun b hb => by obtain ⟨o, _, _, a⟩ := cellc b hb; exact a
  have off : ∀ {b : Addr} {o : HO}, H2 b = some o → (∀ φ, o ≠ .ext φ) → dropC cs H2 b = some o := fun {b o} e n => by rw [dropC_out (cell_ne I2.hok hcO e (.inl n))]; exact e
  -- what stands in the cells
  obtain ⟨ws, hwl, hwt, hws⟩ := pick_list (n := caps.length) (R := fun t v => ∀ y d, nd.fr[t]? = some y → caps[t]? = some d → ∃ c u, cl.lookup y = some c ∧ RelV v u ∧ s2.heap.IsCell c (some u) ∧ Rp X.K F1 v d) (fun t ht => by
    obtain ⟨y, ey⟩ : ∃ y, nd.fr[t]? = some y := ⟨nd.fr[t]'(by rw [← cap.len]; exact ht), by simp⟩
    obtain ⟨d, ed⟩ : ∃ d, caps[t]? = some d := ⟨caps[t], by simp⟩
    obtain ⟨c, o, u, v, q1, q0, q2, q3, q4, q5⟩ := cap.at_ t y d ey ed
    refine ⟨v, fun y' d' ey' ed' => ?_⟩
    rw [ey] at ey'; cases ey'
    rw [ed] at ed'; cases ed'
    exact ⟨c, u, q1, q4, ⟨o, (I2.hok c _ q2).1, q3⟩, q5⟩)
  have hcv : CapV X.K F1 ws caps := ⟨hwl, fun t d ed => by
    have ht : t < caps.length := (List.getElem?_eq_some_iff.mp ed).1
    obtain ⟨y, ey⟩ : ∃ y, nd.fr[t]? = some y := ⟨nd.fr[t]'(by rw [← cap.len]; exact ht), by simp⟩
    obtain ⟨v, ev⟩ := hwt t ht
    obtain ⟨_, _, _, _, _, rp⟩ := hws t v ev y d ey ed
    exact ⟨v, ev, rp⟩⟩
  have hCA : CellsAt cl nd.fr ws s2.heap (dropC cs H2) := by
    refine ⟨by rw [hwl]; exact cap.len, fun y c e => ?_, cap.inj, fun t y ey => ?_⟩
    · have hb : c ∈ cs := by rw [← hcs]; exact List.mem_filterMap.mpr ⟨y, cap.keys y c e, e⟩
      obtain ⟨o, e1, u, e2⟩ := hcO c hb
      exact ⟨dropC_in hb, some u, o, (I2.hok c _ e1).1, e2⟩
    · have ht : t < caps.length := by rw [cap.len]; exact (List.getElem?_eq_some_iff.mp ey).1
      obtain ⟨d, ed⟩ : ∃ d, caps[t]? = some d := ⟨caps[t], by simp⟩
      obtain ⟨v, ev⟩ := hwt t ht
      obtain ⟨c, u, q1, _, _, _⟩ := hws t v ev y d ey ed
      refine ⟨c, q1, fun v' ev' => ?_⟩
      obtain ⟨c2, u2, q1', q2, q3, _⟩ := hws t v' ev' y d ey ed
      rw [q1] at q1'; cases q1'
      exact ⟨u2, q2, q3⟩
  have hmo : dropC cs H2 m = some (CloO m nd cl c') := by rw [dropC_out (cell_ne I2.hok hcO hm (.inr (.inr ⟨_, _, _, rfl⟩)))]; exact hm
  have hco : dropC cs H2 c' = some (CodeO c' nd.qual) := by rw [dropC_out (cell_ne I2.hok hcO hc' (.inr (.inl ⟨_, rfl⟩)))]; exact hc'
  have fhD : Same F1 (dropC cs H2) := fun b o e => by rw [dropC_out (fun hb => by rw [hcF b hb] at e; cases e)]; exact sr1.fh b o e
  have wrD : WRel (Cx.tx X T) F1 (dropC cs H2) (M1.take j) (w1.take j) :=
    ⟨sr1.wr.nd.sublist (List.take_sublist _ _), lists_keep hl2 (Pr.take j sr1.wr.at_) (Same.refl _) fun m vs h0 h1 => ⟨h0, off h1 fun φ z => by cases z⟩⟩
  have tbD : TabsN T.tabs (dropC cs H2) := fun pT hpT => by
    obtain ⟨ps, a1, a2, a3⟩ := sr1.tb pT hpT
    refine ⟨ps, off a1 (fun φ z => by cases z), a2, fun pos cv hcv => ?_⟩
    obtain ⟨c, e1, e2⟩ := a3 pos cv hcv
    exact ⟨c, e1, by rw [dropC_out (cell_ne I2.hok hcO e2 (.inr (.inl ⟨_, rfl⟩)))]; exact e2⟩
  have paD : Paired (argAt (Cx.tx X T) F1 (M1.take j)) vs (dsv.map .dat) := dat_args (dats_at pa eds)
  split at q
  case h_2 => exact q.elim
  rename_i d w2 eo
  split at q
  case isFalse => exact q.elim
  rename_i hw2
  obtain ⟨hw2l, hw2a⟩ := hw2
  have hMj : M1 = M1.take j ++ [m] := by
    have e := List.take_append_drop j M1
    have e2 : M1.drop j = [m] := by
      apply List.ext_getElem?
      intro t
      rw [List.getElem?_drop]
      cases t with
      | zero => simpa using em1
      | succ t => simp; omega
    rw [e2] at e
    exact e.symm
  have hmj : m ∉ M1.take j := fun z => by
    have nd := sr1.wr.nd
    rw [hMj, List.nodup_append] at nd
    exact nd.2.2 m z m (List.mem_singleton.mpr rfl) rfl
  have hMjl : (M1.take j).length = j := by rw [List.length_take]; omega
  have hsp : spC ⟨X.K, X.mg, T⟩ (C.call i) caps ws vs (dropC cs H2) (fun v H' => ∃ F', Same F' H' ∧ NoTbl F' ∧ WRel (Cx.tx X T) F' H' (M1.take j) w2 ∧ TabsN T.tabs H' ∧ Stp (dropC cs H2) F1 (M1.take j) H' F' (M1.take j) ∧ Rp X.K F' v d) (fun _ _ _ => False) := by
    refine ⟨F1, M1.take j, dsv.map .dat, w1.take j, fhD, sr1.nt, wrD, tbD, paD, hcv, ?_⟩
    rw [← List.map_append, eo]
    intro v H' F' M' h1 h2 h3 h4 h5 h6
    have hM : M' = M1.take j := by
      obtain ⟨nw, en, _⟩ := h5.mw
      have hl := h3.at_.length
      rw [en, List.length_append, hMjl, hw2l] at hl
      have : nw = [] := List.length_eq_zero_iff.mp (by omega)
      rw [en, this, List.append_nil]
    subst hM
    exact ⟨F', h1, h2, h3, h4, h5, h6⟩
  show wpAny _ _ (call (.ref m) us) _ _ _
  refine wpAny_call (codeAny_mono ((c i nd caps hnd cap.len).run m cl c' X.A X.stack s2 (dropC cs H2) us vs ws _ _ hr (env0_drop I2.env0 hcE) hmo hco hCA r hsp) fun rr s' hq => ?_)
  cases rr with
  | error e =>
    obtain ⟨_, _, _, _, _, _, _, _, _, _, _, _, f⟩ := hq
    exact f.elim
  | ok fl =>
    cases fl with
    | next => exact False.elim hq
    | brk => exact False.elim hq
    | cont => exact False.elim hq
    | ret u =>
      refine I2.after (ce_put I2.hok I2.env0.frf hcO' (fun v H' hn hq' => ?_) hq)
      obtain ⟨F', h1, h2, h3, h4, h5, h6⟩ := hq'
      have hput : Same H' (putC cs H2 H') := fun b o e => by rw [putC_out (fun hb => by rw [hn b hb] at e; cases e)]; exact e
      have stP : Stp H2 F1 M1 (putC cs H2 H') F' M1 := by
        refine ⟨h5.fg, fun a o hM ht e => ?_, fun a e => ?_, fun a e e1 => ?_, [], by simp, by simp⟩
        · by_cases ha : a ∈ cs
          · rw [putC_in ha]; exact e
          · rw [putC_out ha]
            exact h5.fr a o (fun z => hM (List.mem_of_mem_take z)) ht (by rw [dropC_out ha]; exact e)
        · by_cases ha : a ∈ cs
          · rw [putC_in ha]; exact e
          · rw [putC_out ha]
            exact h5.th a (by rw [dropC_out ha]; exact e)
        · by_cases ha : a ∈ cs
          · exact h1.free (hn a ha)
          · exact h5.nf a (by rw [dropC_out ha]; exact e) e1
      have wrP : WRel (Cx.tx X T) F' (putC cs H2 H') M1 (w2 ++ [.clo i caps]) := by
        refine ⟨sr1.wr.nd, ?_⟩
        rw [hMj]
        refine Pr.append (lists_keep hw2a h3.at_ (Same.refl _) fun m vs h0 h1 => ⟨h0, hput _ _ h1⟩) (.cons ⟨?_, ?_⟩ .nil)
        · exact stP.nf m (by rw [hm]; simp) hFm
        · exact CloAt.keep hclo1 (fun a φ e => stP.fr a _ (fun _ => ⟨φ, rfl⟩) (fun ps z => by cases z) e) stP.fg stP.nf
      have srP := sr1.step stP (h1.trans hput) h2 wrP (h4.ext hput)
      exact q v _ _ _ srP (st1.trans stP) h6
end
end Dl
/-! DlO: closures made and handed on. -/
namespace Dl
open PySem PySem.Spec PyProof.Rows L2 NdefX
open LamX (CodeO Tabs TabS TabB ExtN inv_table among_app codeO_ne)
section
variable {X : Cx} {pins : List (Addr × Obj)} {σ : St} {H : Hp} {s : Shared}
theorem inv_lam {nd : ND} {e : Expr} {cl : List (Str × Addr)} {pm ctv : Value} {c' : Addr} {t' : Nat} (I : Inv X pins σ H s) :
    Inv X pins σ (upd H s.heap.objs.size (LamO s.heap.objs.size nd e cl c')) { s with heap := s.heap.push (PySem.W.kla_obj nd.name nd.qual nd.params e nd.scope cl pm c' ctv), toks := t' } := by
  have at_ : (s.heap.push (PySem.W.kla_obj nd.name nd.qual nd.params e nd.scope cl pm c' ctv)).get? s.heap.objs.size = some (PySem.W.kla_obj nd.name nd.qual nd.params e nd.scope cl pm c' ctv) := Heap.get?_push_size _ rfl
  refine I.laid (a := s.heap.objs.size) (fun _ _ h => Heap.get?_push_of_some _ h) (Nat.le_refl _) ?_
  refine ⟨⟨pm, ctv, at_⟩, ⟨_, at_⟩, ?_⟩
  rintro h1 h2 ⟨p, t, z⟩ st
  exact ⟨p, t, st _ z⟩
theorem lam_mk {ts : List (Addr × Str)} {c P : Addr} {nd : ND} {e : Expr} {pos : Pos} {E Q : Value → Shared → Prop} (I : Inv X pins σ H s) (TB : TabB X.base X.mg c P) (hcode : X.env.code = .ref c) (hn : nd.name = "<lambda>") (hq : nd.qual = X.env.qual ++ "<lambda>")
    (hm : (P, nd.qual) ∈ ts) (hu : ∀ p ∈ ts, p.1 = P → p.2 = nd.qual) (hT : Tabs ts H) (hdef : defaultsOf nd.params X.env = ([], [])) (hfree : ∀ y ∈ nd.scope.names, y.2 = .free → ∃ c, X.env.cells.lookup y.1 = some c)
    (h : ∀ (f c' : Addr) (H1 : Hp) (s' : Shared), Inv X pins σ H1 s' → ExtN H H1 → (∀ b, H1 b = none → H b = none) → Tabs ts H1 → H f = none → H1 f = some (LamO f nd e (cloFrom X.env.cells nd.scope.names []) c') → H1 c' = some (CodeO c' nd.qual) → Q (.ref f) s') :
    wpAny (model X.prog X.w) X.A (eval (.Lambda nd.params e nd.scope pos) X.env) Q E s := by
  obtain ⟨ps, hP, ht, told⟩ := hT _ hm
  have oP : s.heap.get? P = some { cls := .none, data := .fields ps } := I.hok P _ hP
  refine PySem.W.kla_eval hdef ?_
  rw [← hn, show X.env.qual ++ nd.name = nd.qual by rw [hq, hn]]
  have fin : ∀ {H2 : Hp} {s2 : Shared} {c' : Addr} {pm ctv : Value} {t' : Nat}, Inv X pins σ H2 s2 → ExtN H H2 → (∀ b, H2 b = none → H b = none) → Tabs ts H2 → H2 c' = some (CodeO c' nd.qual) →
      Q (.ref s2.heap.objs.size) { s2 with heap := s2.heap.push (PySem.W.kla_obj nd.name nd.qual nd.params e nd.scope (cloFrom X.env.cells nd.scope.names []) pm c' ctv), toks := t' } := by
    intro H2 s2 c' pm ctv t' I2 x2 n2 T2 k2
    have n0 : H2 s2.heap.objs.size = none := I2.hok.fresh (Nat.le_refl _)
    have old : ∀ b o, H2 b = some o → upd H2 s2.heap.objs.size (LamO s2.heap.objs.size nd e (cloFrom X.env.cells nd.scope.names []) c') b = some o := fun b o e => by rw [upd_ne (ne_of_none e n0)]; exact e
    have nH : H s2.heap.objs.size = none := n2 _ n0
    exact h _ c' _ _ (inv_lam I2) (x2.trans (ExtN.of old)) (fun b z => n2 b (upd_none z)) (T2.ext old) nH upd_same (old _ _ k2)
  have hbm := TB.bm.keeps I.bk
  cases hc : codeAmong pos ps.toList with
  | some cv =>
    obtain ⟨c', rfl, kc⟩ := told pos cv hc
    refine PySem.W.kla_makeFunctionHit (mg := X.mg) (closure_ok hfree) I.ok.glob (I.mod.glob.keeps I.bk) hcode (TB.code.keeps I.bk) oP ht hc hbm fun ctv h' tk hx _ => ?_
    exact fin (s2 := { s with heap := h', toks := tk }) (I.kept hx) (ExtN.refl H) (fun _ z => z) hT kc
  | none =>
    refine PySem.W.kla_makeFunction (mg := X.mg) (closure_ok hfree) I.ok.glob (I.mod.glob.keeps I.bk) hcode (TB.code.keeps I.bk) oP ht hc TB.gP hbm fun c' ctv h' tk hx hge hlt hrec htb => ?_
    obtain ⟨c2, oc, vs, t, ec, hoc, hd, hv⟩ := hrec
    cases ec
    have I2 := inv_table (t' := tk) (h' := h') (q := nd.qual) (more := #[rawInt pos.line, rawInt pos.col, .ref c']) I hP hx htb hge ⟨oc, vs, t, hoc, hd, hv⟩
    have nc : H c' = none := I.hok.fresh hge
    have cP : c' ≠ P := fun z => by rw [z, hP] at nc; cases nc
    have keepN : ExtN H (upd (upd H P (.tbl (ps ++ #[rawInt pos.line, rawInt pos.col, .ref c']))) c' (CodeO c' nd.qual)) := fun b o hb nt => by
      have b1 : b ≠ c' := ne_of_none hb nc
      have b2 : b ≠ P := fun z => by
        rw [z, hP] at hb
        exact nt ps (Option.some.inj hb).symm
      rw [upd_ne b1, upd_ne b2]
      exact hb
    refine fin (s2 := { s with heap := h', toks := tk }) I2 keepN (fun b z => upd_none (upd_none z)) (fun p hp => ?_) upd_same
    obtain ⟨ps', a1, a2, a3⟩ := hT p hp
    have a1' : p.1 ≠ c' := ne_of_none a1 nc
    by_cases hb : p.1 = P
    · have e2 : ps' = ps := by
        rw [hb, hP] at a1
        cases a1
        rfl
      subst e2
      refine ⟨_, by rw [upd_ne a1', hb, upd_same], ?_, fun pos2 cv hcv => ?_⟩
      · rw [Array.toList_append]
        exact PySem.TriplesOk_snoc _ _ _ _ ht
      · rw [Array.toList_append] at hcv
        rcases among_app _ ht hcv with z | z
        · obtain ⟨c3, e3, e4⟩ := a3 pos2 cv z
          exact ⟨c3, e3, keepN _ _ e4 codeO_ne⟩
        · exact ⟨c', z, by rw [hu p hp hb]; exact upd_same⟩
    · refine ⟨ps', by rw [upd_ne a1', upd_ne hb]; exact a1, a2, fun pos2 cv hcv => ?_⟩
      obtain ⟨c3, e3, e4⟩ := a3 pos2 cv hcv
      exact ⟨c3, e3, keepN _ _ e4 codeO_ne⟩
/-- the frame's own cells are no others' -/
theorem own_cell {y : Str} {b : Addr} (I : Inv X pins σ H s) (hf : X.fn y = true) (hc : X.env.cells.lookup y = some b) : H b = none ∧ X.base.get? b = none ∧ b ∉ frs X.stack ∧ ∃ o, s.heap.get? b = some o ∧ ∃ v, o.data = .cell v := by
  obtain ⟨v, o, ho, hd⟩ := I.cell y b hc
  have ab := I.ok.cab y b hf hc
  refine ⟨I.freeC y b hc, ?_, fun z => ?_, o, ho, v, hd⟩
  · cases e : X.base.get? b with
    | none => rfl
    | some ob => exact absurd (Heap.lt_size (I.ok.bs b ob e).1) (Nat.not_lt.mpr ab)
  · rcases List.mem_cons.mp (I.stkSub _ z) with e | e
    · obtain ⟨m, ⟨o2, es, ep, e2, d2, _⟩, _⟩ := I.loc
      rw [← e, ho] at e2
      cases e2
      rw [hd] at d2
      cases d2
    · obtain ⟨_, ob, e2, _⟩ := I.ok.funs.mem e
      exact absurd (Heap.lt_size e2) (Nat.not_lt.mpr ab)
def cloK (C : Cs) (g i : Nat) (caps : List D) (ds : List D) (w1 : World) : Out RV := if allL w1 = true then (match C.call g (ds.map .dat ++ [.wref w1.length]) (w1 ++ [.clo i caps]) with
    | .ok (.dat d) w2 => if w2.length = w1.length + 1 ∧ allL (w2.take w1.length) = true then .ok (.dat d) (w2.take w1.length) else .stuck
    | _ => .stuck)
  else .stuck
theorem codeO_cell {c : Addr} {q : Str} {o : Obj} {h : Heap} (ho : h.get? c = some o) (hd : ∃ v, o.data = .cell v) : CodeO c q ≠ CellO c o := fun e => by
  unfold CodeO CellO at e
  injection e with e
  have e2 := congrFun e h
  have z : ∃ (oc : Obj) (vs : Array Value) (t : Tok), h.get? c = some oc ∧ oc.data = .fields vs ∧ vs[1]? = some (.str q t) := by rw [e2]; exact ho
  obtain ⟨oc, vs, t, h1, h2, _⟩ := z
  rw [ho] at h1
  cases h1
  obtain ⟨v, hv⟩ := hd
  rw [hv] at h2
  cases h2
theorem run_clo {T : Tbs} {C : Cs} {n gi i : Nat} {g f c' : Addr} {fd : FuncData} {ps : List Str} {B : Base} {env : Ev} {w : World} {F : Hp} {O : Nat → Addr} {M : List Addr} {nd : ND} {cl : List (Str × Addr)} {js : List Nat} {caps ds : List D} {vs : List V} {us : List Value} {Q : VK} {bad : Exn → Ev → World → Prop}
    (I : Inv X pins σ H s) (sr : SR (Cx.tx X T) B env w σ H F O M) (fn : FnOk X.prog X.w X.K X.mg X.base (L2.CX X.prog X.w) n g fd ps (spD (Cx.tx X T) (C.call gi))) (hr : Room n X.A) (bd : Binds X.K fd ps []) (hf : H f = some (CloO f nd cl c')) (hc' : H c' = some (CodeO c' nd.qual)) (hfM : f ∉ M) (hfF : F f = none)
    (hnd : T.nd i = some nd) (cp : NdefX.Caps X cl nd.fr js) (hown : ∀ y ∈ nd.fr, X.fn y = true) (hkeys : ∀ y c, cl.lookup y = some c → y ∈ nd.fr) (hcaps : caps.length = nd.fr.length) (hcd : ∀ (t jj : Nat) (d : D), js[t]? = some jj → caps[t]? = some d → env[jj]? = some (.dat d))
    (r : Vals vs us) (pa : Paired (Rp X.K F) vs ds) (q : Pst (cloK C gi i caps ds w) (fun r w' => ∀ v H' F' M', SR (Cx.tx X T) B env w' σ H' F' O M' → Stp H F M H' F' M' → r.isAt (Cx.tx X T) H env O H' F' M' v → Q v H') bad) :
    wpAny (model X.prog X.w) X.A (call (.ref g) (us ++ [.ref f])) (EP X pins σ Q) X.xe s := by
  unfold cloK at q
  split at q
  case isFalse => exact q.elim
  rename_i hL
  split at q
  case h_2 => exact q.elim
  rename_i d w2 eo
  split at q
  case isFalse => exact q.elim
  rename_i hw2
  obtain ⟨hw2l, hw2a⟩ := hw2
  have CA := cells_of I cp
  have cellc : ∀ b ∈ cellsOf cl nd.fr, H b = none ∧ X.base.get? b = none ∧ b ∉ frs X.stack ∧ ∃ o, s.heap.get? b = some o ∧ ∃ v, o.data = .cell v := fun b hb => by
    obtain ⟨y, hy, e⟩ := List.mem_filterMap.mp hb
    exact own_cell I (hown y hy) (cp.sub y b e)
  have hmem : ∀ y c, cl.lookup y = some c → c ∈ cellsOf cl nd.fr := fun y c e => List.mem_filterMap.mpr ⟨y, hkeys y c e, e⟩
  generalize cellsOf cl nd.fr = cs at cellc hmem
  have hno : ∀ b ∈ cs, H b = none := fun b hb => (cellc b hb).1
  have old : Same H (addC cs s.heap H) := fun b o e => by rw [addC_out (fun hb => by rw [hno b hb] at e; cases e)]; exact e
  have hMl : M.length = w.length := by rw [sr.wr.at_.length]
  have hFc : ∀ b ∈ cs, F b = none := fun b hb => sr.fh.free (hno b hb)
  have at_cell : ∀ b ∈ cs, ∃ o, s.heap.get? b = some o ∧ (∃ v, o.data = .cell v) ∧ addC cs s.heap H b = some (CellO b o) := fun b hb => by
    obtain ⟨_, _, _, o, e, v, ev⟩ := cellc b hb
    exact ⟨o, e, ⟨v, ev⟩, by rw [addC_in hb, e]; rfl⟩
  have clo : CloAt (Cx.tx X T) F (addC cs s.heap H) f i caps := by
    refine ⟨nd, cl, c', hnd, old _ _ hf, old _ _ hc', hcaps, hkeys, CA.inj, fun t y d ey ed => ?_⟩
    obtain ⟨c, ec, hcv⟩ := CA.has t y ey
    have hj : (js.map fun j => X.N[j]?)[t]? = (nd.fr.map some)[t]? := by rw [cp.at_]
    rw [List.getElem?_map, List.getElem?_map, ey] at hj
    cases ej : js[t]? with
    | none => rw [ej] at hj; cases hj
    | some jj =>
      obtain ⟨v, ev, rv⟩ := sr.sl jj _ (hcd t jj d ej ed)
      have ew : (js.map (slotAt σ))[t]? = some (some v) := by rw [List.getElem?_map, ej, Option.map_some, slotAt_of ev]
      obtain ⟨u, ru, o, ho, hd⟩ := hcv v ew
      have hb := hmem y c ec
      exact ⟨c, o, u, v, ec, hFc c hb, by rw [addC_in hb, ho]; rfl, hd, ru, rv⟩
  have hMf : (M ++ [f])[w.length]? = some f := by rw [← hMl]; simp
  have hsp : spD (Cx.tx X T) (C.call gi) (vs ++ [.ref f]) (addC cs s.heap H) (fun v H' => (∀ b ∈ cs, H' b = addC cs s.heap H b) ∧ Q v (dropC cs H')) (fun _ _ _ => False) := by
    refine ⟨F, M ++ [f], ds.map .dat ++ [.wref w.length], w ++ [.clo i caps], sr.fh.trans old, sr.nt, ⟨?_, ?_⟩, sr.tb.ext old, Pr.append (dat_args pa) (.cons (show argAt (Cx.tx X T) F (M ++ [f]) (.ref f) (.wref w.length) from ⟨f, hMf, rfl⟩) .nil), ?_⟩
    · exact List.nodup_append.mpr ⟨sr.wr.nd, by simp, fun a ha b hb z => by
        rw [List.mem_singleton] at hb
        rw [z, hb] at ha
        exact hfM ha⟩
    · refine Pr.append (lists_keep hL sr.wr.at_ (Same.refl _) fun m vs h0 h1 => ⟨h0, old _ _ h1⟩) (.cons ⟨hfF, clo⟩ .nil)
    · rw [eo]
      intro v H' F' M' h1 h2 h3 h4 h5 h6
      have hM : M' = M ++ [f] := by
        obtain ⟨nw, en, _⟩ := h5.mw
        have hl := h3.at_.length
        rw [en, List.length_append, List.length_append, hMl, hw2l] at hl
        have : nw = [] := List.length_eq_zero_iff.mp (by have e1 : [f].length = 1 := rfl; omega)
        rw [en, this, List.append_nil]
      subst hM
      have kc : ∀ b ∈ cs, H' b = addC cs s.heap H b := fun b hb => by
        obtain ⟨o, _, _, e⟩ := at_cell b hb
        rw [e]
        exact h5.fr b _ (fun _ => ⟨_, rfl⟩) (fun ps z => by cases z) e
      have F'c : ∀ b ∈ cs, F' b = none := fun b hb => by
        obtain ⟨o, _, _, e⟩ := at_cell b hb
        exact h5.nf b (by rw [e]; simp) (hFc b hb)
      have out : ∀ {b : Addr} {o : HO}, H' b = some o → ((∀ φ, o ≠ .ext φ) ∨ ∃ q, o = CodeO b q) → dropC cs H' b = some o := fun {b o} e ho => by
        rw [dropC_out (fun hb => by
          obtain ⟨ob, e1, e2, e3⟩ := at_cell b hb
          rw [kc b hb, e3] at e
          rcases ho with z | ⟨q, z⟩
          · exact z _ (Option.some.inj e).symm
          · subst z
            exact codeO_cell e1 e2 (Option.some.inj e).symm)]
        exact e
      have stD : Stp H F M (dropC cs H') F' M := by
        refine ⟨h5.fg, fun a o hM ht e => ?_, fun a e z => ?_, fun a e e1 => ?_, [], by simp, by simp⟩
        · have ha : a ∉ cs := fun hb => by rw [hno a hb] at e; cases e
          rw [dropC_out ha]
          refine h5.fr a o (fun hm => ?_) ht (old _ _ e)
          rcases List.mem_append.mp hm with z | z
          · exact hM z
          · rw [List.mem_singleton.mp z, hf] at e
            obtain ⟨φ, eφ⟩ := cloO_ext f nd cl c'
            exact ⟨φ, by rw [← Option.some.inj e, eφ]⟩
        · have ha : a ∉ cs := fun hb => e (hno a hb)
          rw [dropC_out ha] at z
          exact h5.th a (by rw [addC_out ha]; exact e) z
        · have ha : a ∉ cs := fun hb => e (hno a hb)
          exact h5.nf a (by rw [addC_out ha]; exact e) e1
      have fhD : Same F' (dropC cs H') := fun b o e => by rw [dropC_out (fun hb => by rw [F'c b hb] at e; cases e)]; exact h1 b o e
      have wrD : WRel (Cx.tx X T) F' (dropC cs H') M (w2.take w.length) := by
        refine ⟨sr.wr.nd, ?_⟩
        have e := Pr.take w.length h3.at_
        rw [show (M ++ [f]).take w.length = M by rw [← hMl]; simp] at e
        exact lists_keep hw2a e (Same.refl _) fun m vs h0 h1 => ⟨h0, out h1 (.inl fun φ z => by cases z)⟩
      have tbD : TabsN T.tabs (dropC cs H') := fun pT hpT => by
        obtain ⟨ps, a1, a2, a3⟩ := h4 pT hpT
        refine ⟨ps, out a1 (.inl fun φ z => by cases z), a2, fun pos cv hcv => ?_⟩
        obtain ⟨c, e1, e2⟩ := a3 pos cv hcv
        exact ⟨c, e1, out e2 (.inr ⟨_, rfl⟩)⟩
      exact ⟨kc, q v _ _ _ (sr.step stD fhD h2 wrD tbD) stD h6⟩
  have hlen := fn.len _ _ _ _ hsp
  have rl : Vals (vs ++ [.ref f]) (us ++ [.ref f]) := r.append (.cons rfl .nil)
  have hb := bd s (us ++ [.ref f]) I.kIn (by rw [List.append_nil, ← rl.length]; exact hlen)
  rw [List.append_nil] at hb
  refine wpAny_call (codeAny_mono (fn.run X.A X.stack s (addC cs s.heap H) ⟨us ++ [.ref f], []⟩ (us ++ [.ref f]) (vs ++ [.ref f]) _ _ hr (env0_add I.env0 fun b hb => ?_) hb rl hsp) fun rr s' hq => ?_)
  · obtain ⟨a1, a2, a3, o, e, _⟩ := cellc b hb
    exact ⟨a1, a2, a3, o, e⟩
  · cases rr with
    | error e =>
      obtain ⟨_, _, _, _, _, _, _, _, _, _, _, _, f⟩ := hq
      exact f.elim
    | ok fl =>
      cases fl with
      | next => exact False.elim hq
      | brk => exact False.elim hq
      | cont => exact False.elim hq
      | ret u => exact I.after (ce_drop (fun b hb => by obtain ⟨a1, _, _, o, e, _⟩ := cellc b hb; exact ⟨a1, o, e⟩) (fun v H' h => h) hq)
end
/-! ### arguments that end in a closure -/
def capsOf (env : Ev) : List Nat → Option (List D)
  | [] => some []
  | j :: js => match env[j]?, capsOf env js with
    | some (.dat d), some ds => some (d :: ds)
    | _, _ => none
theorem capsOf_at {env : Ev} : ∀ {js : List Nat} {caps : List D}, capsOf env js = some caps → caps.length = js.length ∧ ∀ (t jj : Nat) (d : D), js[t]? = some jj → caps[t]? = some d → env[jj]? = some (.dat d)
  | [], caps, h => by
    cases h
    exact ⟨rfl, fun t jj d e _ => by simp at e⟩
  | j :: js, caps, h => by
    unfold capsOf at h
    split at h
    · rename_i d ds e1 e2
      cases h
      obtain ⟨l, q⟩ := capsOf_at e2
      refine ⟨by simp [l], fun t jj d' e3 e4 => ?_⟩
      cases t with
      | zero =>
        simp only [List.getElem?_cons_zero, Option.some.injEq] at e3 e4
        subst e3 e4
        exact e1
      | succ t =>
        simp only [List.getElem?_cons_succ] at e3 e4
        exact q t jj d' e3 e4
    · cases h
def dClo (C : Cs) (g i : Nat) (js : List Nat) (es : Exs) : Ex := fun env w => (es env w).bind fun rs w1 => match dats rs, capsOf env js with
  | some ds, some caps => cloK C g i caps ds w1
  | _, _ => .stuck
def tAL (X : Tx) (Wi : WX) (nd : ND) (cl : List (Str × Addr)) (Z : St → Hp → Hp → List Addr → Prop) (e : Exs) : TA := fun σ H Q => ∃ B env w F O M, SR X B env w σ H F O M ∧ Z σ H F M ∧
  Pst (e env w) (fun rs w' => ∀ vs f c' H' F' M', SR X B env w' σ H' F' O M' → Stp H F M H' F' M' → Paired (argAt X F' M') vs rs → H' f = some (CloO f nd cl c') → H' c' = some (CodeO c' nd.qual) → f ∉ M' → F' f = none → Q (vs ++ [.ref f]) H') (badX X B Wi)
def Lasts (Z : St → Hp → Hp → List Addr → Prop) : Prop := ∀ σ H F M H' F' M', Z σ H F M → Stp H F M H' F' M' → Z σ H' F' M'
abbrev JAL (X : Cx) (T : Tbs) (Wi : WX) (nd : ND) (cl : List (Str × Addr)) (Z : St → Hp → Hp → List Addr → Prop) (es : List Expr) (d : Exs) : Prop := PA X es (tAL (Cx.tx X T) Wi nd cl Z d)
section
variable {X : Cx} {T : Tbs} {Wi : WX} {nd : ND} {cl : List (Str × Addr)} {Z : St → Hp → Hp → List Addr → Prop} {e : Expr} {es : List Expr} {d : Ex} {ds : Exs}
theorem jal_cons (hZ : Lasts Z) (h : JE X T Wi e d) (hs : JAL X T Wi nd cl Z es ds) (hst : starEach (e :: es) X.env = (false, eval e X.env) :: starEach es X.env := by rfl) :
    JAL X T Wi nd cl Z (e :: es) (aCons d ds) := by
  refine (pa_cons h hs hst).impD fun σ H Q q => ?_
  obtain ⟨B, env, w, F, O, M, s, z, q⟩ := q
  refine ⟨B, env, w, F, O, M, s, q.bind.imp fun r w1 q1 x H1 F1 M1 s1 st1 r1 => ?_⟩
  split at q1
  · rename_i a ea
    obtain ⟨F2, s2, st2, a2⟩ := keep_arg s s1 st1 r1 ea
    refine ⟨B, env, w1, F2, O, M1, s2, hZ _ _ _ _ _ _ _ z st2, q1.bind.imp fun as w3 q3 vs f c' H3 F3 M3 s3 st3 p3 h1 h2 h3 h4 => ?_⟩
    exact q3 (x :: vs) f c' H3 F3 M3 s3 (st2.trans st3) (.cons (argAt_step a2 st3) p3) h1 h2 h3 h4
  · exact q1.elim
/-- a lambda, the last one -/
theorem jal_lam {ts : List (Addr × Str)} {c P : Addr} {b : Expr} {pos : Pos} (hts : T.tabs = ts.map fun p => (p.1, fun _ _ => p.2)) (TB : TabB X.base X.mg c P) (hcode : X.env.code = .ref c) (hnb : nd.body = .inr b) (hn : nd.name = "<lambda>") (hq : nd.qual = X.env.qual ++ "<lambda>")
    (hm : (P, nd.qual) ∈ ts) (hu : ∀ p ∈ ts, p.1 = P → p.2 = nd.qual) (hdef : defaultsOf nd.params X.env = ([], [])) (hfree : ∀ y ∈ nd.scope.names, y.2 = .free → X.env.scope.names.lookup y.1 = some .cell ∨ X.env.scope.names.lookup y.1 = some .free)
    (hst : starEach [.Lambda nd.params b nd.scope pos] X.env = [(false, eval (.Lambda nd.params b nd.scope pos) X.env)] := by rfl) :
    JAL X T Wi nd (cloFrom X.env.cells nd.scope.names []) (fun _ _ _ _ => True) [.Lambda nd.params b nd.scope pos] aNil := by
  have toS : ∀ {H : Hp}, TabsN T.tabs H → Tabs ts H := fun {H} h p hp => h (p.1, fun _ _ => p.2) (by rw [hts]; exact List.mem_map.mpr ⟨p, hp, rfl⟩)
  have ofS : ∀ {H : Hp}, Tabs ts H → TabsN T.tabs H := fun {H} h pT hp => by
    rw [hts] at hp
    obtain ⟨p, hp2, rfl⟩ := List.mem_map.mp hp
    exact h p hp2
  have pe : PE X (.Lambda nd.params b nd.scope pos) (fun σ H Q => Tabs ts H ∧ ∀ (f c' : Addr) (H1 : Hp), ExtN H H1 → (∀ b, H1 b = none → H b = none) → Tabs ts H1 → H f = none → H1 f = some (LamO f nd b (cloFrom X.env.cells nd.scope.names []) c') → H1 c' = some (CodeO c' nd.qual) → Q (.ref f) H1) :=
    ⟨fun pins s σ H Q I h => lam_mk I TB hcode hn hq hm hu h.1 hdef (fun y hy e => (hfree y hy e).elim (fun z => I.ok.has _ (.inl z)) fun z => I.ok.has _ (.inr z)) fun f c' H1 s' I1 x1 n1 t1 f0 f1 k1 => ⟨.ref f, H1, I1, rfl, h.2 f c' H1 x1 n1 t1 f0 f1 k1⟩⟩
  refine (pa_cons pe pa_nil hst).impD fun σ H Q q => ?_
  obtain ⟨B, env, w, F, O, M, s, _, q⟩ := q
  refine ⟨toS s.tb, fun f c' H1 x1 n1 t1 f0 f1 k1 => ?_⟩
  have ke : KeepE H H1 := fun a φ e => x1 a _ e fun ps z => by cases z
  have st : Stp H F M H1 F M := ⟨Same.refl _, fun a o _ ht e => x1 a o e ht, fun a e z => e (n1 a z), fun _ _ z => z, [], by simp, by simp⟩
  have fh : Same F H1 := fun b o e => x1 b o (s.fh b o e) fun ps z => by subst z; exact s.nt b ps e
  have wr : WRel (Cx.tx X T) F H1 M w := ⟨s.wr.nd, Paired.mapP s.wr.at_ fun m o h => ⟨h.1, by
    obtain ⟨h0, h1⟩ := h
    cases o with
    | lst l =>
      obtain ⟨z, vs, e1, e2⟩ := h1
      exact ⟨z, vs, x1 m _ e1 (fun ps z => by cases z), e2⟩
    | clo i caps => exact CloAt.keep h1 ke (Same.refl _) fun _ _ z => z⟩⟩
  have s1 := s.step st fh s.nt wr (ofS t1)
  have hM : f ∉ M := fun z => s.wr.there z f0
  exact q [] f c' H1 F M s1 st .nil (by rw [f1]; unfold CloO; rw [hnb]) k1 hM (s.fh.free f0)
theorem vals_snoc : ∀ {vs : List V} {x : V} {us : List Value}, Vals (vs ++ [x]) us → ∃ us0 u, us = us0 ++ [u] ∧ Vals vs us0 ∧ L2.RelV x u
  | [], x, us, h => by
    cases h with
    | cons r t => cases t; exact ⟨[], _, rfl, .nil, r⟩
  | v :: vs, x, us, h => by
    cases h with
    | cons r t =>
      obtain ⟨us0, u, e, h1, h2⟩ := vals_snoc t
      subst e
      exact ⟨_ :: us0, u, rfl, .cons r h1, h2⟩
/-- f(.., closure): the state ahead has Z too -/
def tCloZ (X : Tx) (Wi : WX) (Z : St → Hp → Hp → List Addr → Prop) (e : Ex) : TE := fun σ H Q => ∃ B env w F O M, SR X B env w σ H F O M ∧ Z σ H F M ∧
  Pst (e env w) (fun r w' => ∀ v H' F' M', SR X B env w' σ H' F' O M' → Stp H F M H' F' M' → r.isAt X H env O H' F' M' v → Q v H') (badX X B Wi)
theorem pe_clo {C : Cs} {n gi i : Nat} {x : Str} {js : List Nat} {p pos : Pos} (c : Cal X T n C x gi) (hr : Room n X.A) (hg : Gl X x) (h : JAL X T Wi nd cl Z (e :: es) ds) (hnd : T.nd i = some nd) (hcl : cl = cloFrom X.env.cells nd.scope.names [])
    (hfree : ∀ y ∈ nd.scope.names, y.2 = .free → X.env.scope.names.lookup y.1 = some .cell ∨ X.env.scope.names.lookup y.1 = some .free) (hfr : ∀ y ∈ nd.fr, (y, NameKind.free) ∈ nd.scope.names) (hfr2 : ∀ y, (y, NameKind.free) ∈ nd.scope.names → y ∈ nd.fr) (hjs : js.map (fun j => X.N[j]?) = nd.fr.map some) (hown : ∀ y ∈ nd.fr, X.fn y = true)
    (hdb : (x == ("__debug__" : Str)) = false := by decide) (he : starEach (e :: es) X.env = (false, eval e X.env) :: starEach es X.env := by rfl) (hpl : (backTo pos (starEach es X.env)).any (·.1) = false := by rfl) :
    PE X (.Call (.Name x p) (e :: es) [] pos) (tCloZ (Cx.tx X T) Wi Z (dClo C gi i js ds)) := by
  subst hcl
  obtain ⟨g, fd, ps, hm, hk, hb, fn⟩ := c.ex
  refine ⟨fun pins s σ H Q I q => ?_⟩
  obtain ⟨B, env, w, F, O, M, sr, hZ, q⟩ := q
  have hfreeC : ∀ y ∈ nd.scope.names, y.2 = .free → ∃ c, X.env.cells.lookup y.1 = some c := fun y hy e => (hfree y hy e).elim (fun z => I.ok.has _ (.inl z)) fun z => I.ok.has _ (.inr z)
  have hkeys : ∀ y c, (cloFrom X.env.cells nd.scope.names []).lookup y = some c → y ∈ nd.fr := fun y c e => by
    rcases cloFrom_mem (PySem.mem_of_lookup e) with hm | ⟨h1, _⟩
    · cases hm
    · exact hfr2 y h1
  have cp : NdefX.Caps X (cloFrom X.env.cells nd.scope.names []) nd.fr js := NdefX.Caps.made I.ok hfree hfr hjs
  have rd : tAL (Cx.tx X T) Wi nd (cloFrom X.env.cells nd.scope.names []) Z ds σ H (fun vs' H1 => ∃ vs f c' rs w1 F1 M1, vs' = vs ++ [.ref f] ∧ SR (Cx.tx X T) B env w1 σ H1 F1 O M1 ∧ Stp H F M H1 F1 M1 ∧ Paired (argAt (Cx.tx X T) F1 M1) vs rs ∧ H1 f = some (CloO f nd (cloFrom X.env.cells nd.scope.names []) c') ∧ H1 c' = some (CodeO c' nd.qual) ∧ f ∉ M1 ∧ F1 f = none ∧
      Pst (match dats rs, capsOf env js with
        | some ds, some caps => cloK C gi i caps ds w1
        | _, _ => .stuck) (fun r w' => ∀ v H' F' M', SR (Cx.tx X T) B env w' σ H' F' O M' → Stp H F M H' F' M' → r.isAt (Cx.tx X T) H env O H' F' M' v → Q v H') (badX (Cx.tx X T) B Wi)) :=
    ⟨B, env, w, F, O, M, sr, hZ, q.bind.imp fun rs w1 q1 vs f c' H1 F1 M1 s1 st1 pa h1 h2 h3 h4 => ⟨vs, f, c', rs, w1, F1, M1, rfl, s1, st1, pa, h1, h2, h3, h4, q1⟩⟩
  refine wpAny_Call_Name_kw (ld_glob I hg hm ?_ hdb)
  refine PySem.W.callWith_K (h₀ := X.base) I.ok.mod.kin hk (thn (h.run pos pins s σ H _ I rd) fun us s1 ⟨vs', H1, I1, r, q⟩ => ⟨I1.kIn, ?_⟩) he hpl
  obtain ⟨vs, f, c', rs, w1, F1, M1, evs, sr1, st1, pa, h1, h2, h3, h4, q⟩ := q
  subst evs
  obtain ⟨us0, u, eus, r0, ru⟩ := vals_snoc r
  subst eus
  obtain rfl : u = Value.ref f := ru
  split at q
  case h_2 => exact q.elim
  rename_i dsv caps e1 e2
  obtain ⟨cl1, cl2⟩ := capsOf_at e2
  have hjl : js.length = nd.fr.length := by
    have := congrArg List.length hjs
    simpa using this
  show wpAny _ _ (call (.ref g) (us0 ++ [.ref f])) _ _ _
  refine run_clo I1 sr1 fn hr hb h1 h2 h3 h4 hnd cp hown hkeys (by rw [cl1, hjl]) cl2 r0 (dats_at pa e1) (q.mono (fun r w' hq v H' F' M' s2 st2 ra => hq v H' F' M' s2 (st1.trans st2) (RV.since ra st1.th)) fun x env' w' z => z)
theorem je_clo {C : Cs} {n gi i : Nat} {x : Str} {js : List Nat} {p pos : Pos} (c : Cal X T n C x gi) (hr : Room n X.A) (hg : Gl X x) (h : JAL X T Wi nd cl (fun _ _ _ _ => True) (e :: es) ds) (hnd : T.nd i = some nd) (hcl : cl = cloFrom X.env.cells nd.scope.names [])
    (hfree : ∀ y ∈ nd.scope.names, y.2 = .free → X.env.scope.names.lookup y.1 = some .cell ∨ X.env.scope.names.lookup y.1 = some .free) (hfr : ∀ y ∈ nd.fr, (y, NameKind.free) ∈ nd.scope.names) (hfr2 : ∀ y, (y, NameKind.free) ∈ nd.scope.names → y ∈ nd.fr) (hjs : js.map (fun j => X.N[j]?) = nd.fr.map some) (hown : ∀ y ∈ nd.fr, X.fn y = true)
    (hdb : (x == ("__debug__" : Str)) = false := by decide) (he : starEach (e :: es) X.env = (false, eval e X.env) :: starEach es X.env := by rfl) (hpl : (backTo pos (starEach es X.env)).any (·.1) = false := by rfl) :
    JE X T Wi (.Call (.Name x p) (e :: es) [] pos) (dClo C gi i js ds) :=
  (pe_clo c hr hg h hnd hcl hfree hfr hfr2 hjs hown hdb he hpl).impD fun σ H Q ⟨B, env, w, F, O, M, s, q⟩ => ⟨B, env, w, F, O, M, s, trivial, q⟩
/-! ### a def within a def, handed on by the return behind it -/
def ZAt (i : Nat) (nd : ND) (cl : List (Str × Addr)) : St → Hp → Hp → List Addr → Prop := fun σ H F M => ∃ f c', σ[i]? = some (some (.ref f)) ∧ H f = some (CloO f nd cl c') ∧ H c' = some (CodeO c' nd.qual) ∧ f ∉ M ∧ F f = none
theorem zat_lasts {i : Nat} : Lasts (ZAt i nd cl) := fun σ H F M H' F' M' ⟨f, c', h1, h2, h3, h4, h5⟩ st => by
  obtain ⟨φ, eφ⟩ := cloO_ext f nd cl c'
  have n2 : H f ≠ none := by rw [h2]; simp
  exact ⟨f, c', h1, st.fr f _ (fun _ => ⟨φ, eφ⟩) (fun ps z => by rw [eφ] at z; cases z) h2, st.fr c' _ (fun _ => ⟨_, rfl⟩) (fun ps z => by cases z) h3, notM' st h4 n2, st.nf f n2 h5⟩
theorem jal_name {i : Nat} {y : Str} {pos : Pos} (h : PE X (.Name y pos) (tVar i)) (hst : starEach [.Name y pos] X.env = [(false, eval (.Name y pos) X.env)] := by rfl) : JAL X T Wi nd cl (ZAt i nd cl) [.Name y pos] aNil := by
  refine (pa_cons h pa_nil hst).impD fun σ H Q q => ?_
  obtain ⟨B, env, w, F, O, M, s, ⟨f, c', h1, h2, h3, h4, h5⟩, q⟩ := q
  exact ⟨.ref f, h1, q [] f c' H F M s .refl .nil h2 h3 h4 h5⟩
theorem SR.setAny {X : Tx} {B : Base} {env : Ev} {w : World} {σ : St} {H F : Hp} {O : Nat → Addr} {M : List Addr} {i : Nat} {x : Option V} (s : SR X B env w σ H F O M) : SR X B (env.set i .un) w (σ.set i x) H F O M := by
  have u := s.setUn (i := i)
  have back : ∀ {j : Nat} {l : List D}, (env.set i .un)[j]? = some (.own l) → i ≠ j := fun {j l} e z => by
    subst z
    have hlt : i < env.length := by simpa using (List.getElem?_eq_some_iff.mp e).1
    rw [List.getElem?_set_self hlt] at e
    cases e
  refine ⟨by simpa using s.len, s.fh, s.nt, s.st, s.wr, s.tb, fun j sl e => ?_, u.inj⟩
  by_cases hj : i = j
  · subst hj
    have hlt : i < env.length := by simpa using (List.getElem?_eq_some_iff.mp e).1
    rw [List.getElem?_set_self hlt] at e
    cases e
    trivial
  · have q := u.sl j sl e
    rw [List.getElem?_set_ne hj] at q ⊢
    exact q
def sDefRet (i : Nat) (e : Ex) : Sd := fun env w => if i < env.length then (e (env.set i .un) w).bind fun r w1 => .ok (.rt r.ret) w1 else .stuck
theorem js_defret {st : Stmt} {nm : Nat → Nat → Str} {c P : Addr} {name : Str} {pos rpos : Pos} {i : Nat} {ce : Expr} {de : Ex} (hst : st = .FunctionDef name (C8.fnArgs st) (C8.fnBody st) [] none [] (C8.fnScope st) none name pos) (TB : TabB X.base X.mg c P) (hcode : X.env.code = .ref c) (hm : (P, nm) ∈ T.tabs) (hn : nm pos.line pos.col = X.env.qual ++ name)
    (hu : ∀ p ∈ T.tabs, p.1 = P → p.2 = nm) (hfree : ∀ y ∈ (C8.fnScope st).names, y.2 = .free → X.env.scope.names.lookup y.1 = some .cell ∨ X.env.scope.names.lookup y.1 = some .free) (hd0 : (C8.fnArgs st).defaults = []) (hk0 : (C8.fnArgs st).kw_defaults = []) (ha : annTrees (C8.fnArgs st) none X.env = [])
    (hN : X.N.Nodup) (hi : X.N[i]? = some name) (hx : Loc X.env.scope name) (hf : X.fn name = true ∨ X.env.scope.names.lookup name = some .local)
    (hnd : nd = ⟨name, X.env.qual ++ name, C8.fnArgs st, .inl (C8.fnBody st), C8.fnScope st, nd.ps, nd.fr⟩) (hcl : cl = cloFrom X.env.cells nd.scope.names []) (hce : PE X ce (tCloZ (Cx.tx X T) Wi (ZAt i nd cl) de)) :
    JSs X T Wi [st, .Return (some ce) rpos] (sDefRet i de) := by
  refine (pss_cons (ps_ndefMS hst TB hcode hm hn hu hfree hd0 hk0 ha hN hi hx hf) (pss_one (ps_ret hce))).impD fun D σ H q => ?_
  obtain ⟨B, env, w, F, O, M, s, q⟩ := q
  unfold sDefRet at q
  split at q
  case isFalse => exact q.elim
  rename_i hie
  refine ⟨s.tb, fun f c' H1 x1 n1 t1 f0 f1 k1 => ?_⟩
  have ke : KeepE H H1 := fun a φ e => x1 a _ e fun ps z => by cases z
  have st : Stp H F M H1 F M := ⟨Same.refl _, fun a o _ ht e => x1 a o e ht, fun a e z => e (n1 a z), fun _ _ z => z, [], by simp, by simp⟩
  have fh : Same F H1 := fun b o e => x1 b o (s.fh b o e) fun ps z => by subst z; exact s.nt b ps e
  have wr : WRel (Cx.tx X T) F H1 M w := ⟨s.wr.nd, Paired.mapP s.wr.at_ fun m o h => ⟨h.1, by
    obtain ⟨h0, h1⟩ := h
    cases o with
    | lst l =>
      obtain ⟨z, vs, e1, e2⟩ := h1
      exact ⟨z, vs, x1 m _ e1 (fun ps z => by cases z), e2⟩
    | clo i caps => exact CloAt.keep h1 ke (Same.refl _) fun _ _ z => z⟩⟩
  have s1 := (s.step st fh s.nt wr t1).setAny (i := i) (x := some (.ref f))
  have hM : f ∉ M := fun z => s.wr.there z f0
  have hi2 : i < σ.length := by rw [s.len]; exact hie
  refine ⟨B, _, w, F, O, M, s1, ⟨f, c', by rw [List.getElem?_set_self hi2], ?_, ?_, hM, s.fh.free f0⟩, q.bind.imp fun r w1 q1 v H2 F2 M2 s2 st2 r2 => q1 v H2 F2 M2 (ret_at s1 s2 r2)⟩
  · rw [f1, hcl]
    unfold CloO
    rw [hnd]
    rfl
  · rw [k1, hnd]
    rfl
end
end Dl
/-! DlL: extend, texts walked, sorted. -/
namespace Dl
open PySem PySem.Spec PyProof.Rows L2 NdefX
section
variable {X : Cx} {T : Tbs} {Wi : WX} {pos : Pos} {e : Expr} {d : Ex}
def sExtend (i : Nat) (e : Ex) : Sd := fun env w => match env[i]? with
  | some (.own l) => (e env w).bind fun r w1 => (match r with
    | .fresh zs => if l.length + zs.length ≤ 16777216 then .ok (.nx (env.set i (.own (l ++ zs)))) w1 else .stuck
    | _ => .stuck)
  | _ => .stuck
theorem js_extend {i : Nat} {x : Str} {p1 p2 p3 : Pos} (h0 : PE X (.Name x p1) (tVar i)) (h : JE X T Wi e d)
    (hs : swapsWith (.Call (.Attribute (.Name x p1) "extend" p2) [e] [] p3) none pos.line X.env = pure false := by rfl)
    (hbase : attributeBase (.Name x p1) "extend" X.env (eval (.Name x p1) X.env) = eval (.Name x p1) X.env := by rfl)
    (hfew : ((backTo p3 (starEach (e :: []) X.env)).all (fun x => !x.1) && (backToKw p3 (keywordEach [] X.env)).all (fun x => x.1.isSome)
      && decide ((e :: []).length + ([] : List Keyword).length + (if ([] : List Keyword).isEmpty then 0 else 1) < 30)) = true := by rfl)
    (hline : (p2.endLine == p3.line) = true := by rfl) (hst : starEach (e :: []) X.env = (false, eval e X.env) :: starEach [] X.env := by rfl) (hplain : (backTo p3 (starEach [] X.env)).any (·.1) = false := by rfl) :
    JS X T Wi (.Expr (.Call (.Attribute (.Name x p1) "extend" p2) [e] [] p3) pos) (sExtend i d) := by
  refine (ps_expr (pe_bm PySem.F.plainAttrs_list PySem.F.slot_list_extend PySem.F.type_list_extend mt_extend h0 (pa_cons h pa_nil hst) hbase hfew hline hst hplain) hs).impD fun D σ H q => ?_
  obtain ⟨B, env, w, F, O, M, s, q⟩ := q
  unfold sExtend at q
  split at q
  · rename_i l el
    obtain ⟨e1, e2, e3, e4, ez, vs, e5, e6⟩ := s.sl i _ el
    refine ⟨.ref (O i), e1, .inl ⟨rfl, vs, SqL.of e5⟩, B, env, w, F, O, M, s, q.bind.imp fun r w1 q1 v H1 F1 M1 s1 st1 r1 => ?_⟩
    split at q1
    · rename_i zs
      split at q1
      · rename_i hz
        obtain ⟨f0, p, us, rfl, f1, f2, f3, f4, f5, f6⟩ := fresh_out (r := RV.dat .non) s r1
        obtain ⟨g1, g2, g3, g4, gz, ws, g5, g6⟩ := s1.sl i _ el
        have hwl : ws.length = l.length := g6.length
        have hul : us.length = zs.length := f5.length
        refine ⟨O i, p, ws, us, rfl, rfl, g5, f4, by rw [hwl, hul, sizeLine_eq]; exact hz, ?_⟩
        exact q1 σ _ F1 O M1 (s1.updOwn el (by rw [List.length_append, sizeLine_eq]; exact hz) (Pr.append g6 f5)) st1.fg
      · exact q1.elim
    · exact q1.elim
  · exact q.elim
/-! ### a text's signs, one by one -/
def chs (z : Str) : List D := z.cps.toList.map fun c => .str ⟨#[c]⟩
def iTxt (e : Ex) : Src := fun env w => (e env w).bind fun r w1 => match r with
  | .dat (.str z) => .ok (chs z) w1
  | _ => .stuck
theorem walk_txt {K : PySem.W.Frag} {F : Hp} {z : Str} (h : SOk z) : Walk K (chs z) F (Its z) := by
  have hl : (chs z).length = z.cps.size := by simp [chs]
  refine ⟨by rw [hl]; exact h.2, fun i H F1 e1 e2 hi => by show i < z.cps.size; rw [← hl]; exact hi, fun i H F1 e1 e2 hi => by show z.cps.size ≤ i; rw [← hl]; exact hi, fun i H F1 x H' d e1 e2 nt y hd => ?_⟩
  obtain ⟨rfl, c, ec, rfl⟩ := y
  have hd : ((z.cps.toList.map fun c => D.str ⟨#[c]⟩) : List D)[i]? = some d := hd
  rw [List.getElem?_map, Array.getElem?_toList, ec] at hd
  simp only [Option.map_some, Option.some.injEq] at hd
  subst hd
  have hm : c ∈ z.cps.toList := List.mem_of_getElem? (by rw [Array.getElem?_toList]; exact ec)
  exact ⟨F1, Xt.refl e2 nt, .str _ (sOk_mem h hm)⟩
theorem ji_txt {tg : Expr} (h : JE X T Wi e d) : JI X T Wi tg e (iTxt d) := by
  refine (pi_str h).impD fun σ H Q q => ?_
  obtain ⟨B, env, w, F, O, M, s, q⟩ := q
  refine ⟨B, env, w, F, O, M, s, q.bind.imp fun r w1 q1 v H1 F1 M1 s1 st1 r1 => ?_⟩
  split at q1
  · rename_i z
    cases r1 with
    | str _ ok => exact ⟨z, rfl, q1 _ H1 F1 M1 s1 st1 (walk_txt ok)⟩
  · exact q1.elim
end
/-! ### a def that makes closures -/
theorem def_okM {P : Program} {w : PySem.World} {K : PySem.W.Frag} {mg : Str → Option Value} {base : Heap} {T : Tbs} {x qual : Str} {params : Arguments} {body : List Stmt} {scope : Scope} {f Pt : Addr} {fd : FuncData} {N ps : List Str} {tbl : Nat → Option DefB} {n i : Nat} {bd : Cs → Sd}
    (F : FunD K x qual params body scope [] [] f fd) (hm : ∃ c, fd.code = .ref c ∧ LamX.TabB base mg c Pt) (S : FnScope N ps scope) (ht : tbl i = some ⟨ps.length, N.length, bd⟩)
    (hb : ∀ (c : Addr) (A : Around) (outer : List Env) (s : Shared) (H : Hp) (E : XK), LamX.TabB base mg c Pt → Room n (A.deeper (envOfC qual scope s.heap.objs.size f (.ref c))) →
      JSs (cxOf (L2.CX P w) P w K mg base N qual scope f (.ref c) A outer s H E) T (fun cls d _ H => E cls d H) body (bd (Den tbl n))) :
    FnOk P w K mg base (L2.CX P w) (n + 1) f fd ps (spD ⟨K, mg, T⟩ ((Den tbl (n + 1)).call i)) := by
  have hNl : ps.length ≤ N.length := by
    have := congrArg List.length S.pre
    rw [List.length_take] at this
    omega
  have hlen : ∀ vs H Q E, spD ⟨K, mg, T⟩ ((Den tbl (n + 1)).call i) vs H Q E → vs.length = ps.length := by
    intro vs H Q E h
    obtain ⟨F', M, args, w', fh, nt, wr, tb, p, q⟩ := h
    rw [den_succ ht] at q
    unfold runB at q
    split at q
    · rename_i hl; rw [p.length]; exact hl
    · exact q.elim
  obtain ⟨oc, od, dV, kV, doc, pm, an, cdv, ct, osl, rfl, lk, hcd, _, _⟩ := F.ex
  obtain ⟨c, ec, TB⟩ := hm
  have ec : cdv = .ref c := ec
  subst ec
  refine fn_of lk hcd S hlen fun A outer s H vs Q E hr h => ⟨_, hb c A outer s H E TB hr, ?_⟩
  obtain ⟨F', M, args, w', fh, nt, wr, tb, p, q⟩ := h
  rw [den_succ ht] at q
  unfold runB at q
  split at q
  · rename_i hl
    have hl : args.length = ps.length := hl
    refine ⟨⟨H, F', M⟩, _, w', F', _, M, sr_start fh nt wr tb p (by omega), ?_⟩
    have q : Pst (endR (bd (Den tbl n) (initE args N.length) w')) _ _ := q
    cases eo : bd (Den tbl n) (initE args N.length) w' with
    | stuck => rw [eo] at q; exact q.elim
    | exc x' e' w2 =>
      rw [eo] at q
      intro cls d σ' H' F2 O2 M2 s2 hx
      exact q cls d H' F2 M2 s2.fh s2.nt s2.wr s2.tb s2.st hx
    | ok fl w2 =>
      rw [eo] at q
      cases fl with
      | rt r =>
        intro v H' F2 M2 ra
        exact q v H' F2 M2 ra.fh ra.nt ra.wr ra.tb ra.st ra.at_
      | nx e =>
        intro σ' H' F2 O2 M2 s2 _
        exact q .non H' F2 M2 s2.fh s2.nt s2.wr s2.tb s2.st .non
      | bk e => exact q.elim
      | ct e => exact q.elim
  · exact q.elim
end Dl
/-! DlS: sorted of texts. -/
namespace Dl
open PySem PySem.Spec PyProof.Rows L2 NdefX
def leS (a b : Str) : Bool := !ltCps b.cps.toList a.cps.toList
def sortS (l : List Str) : List Str := l.mergeSort leS
theorem leS_iff {a b : Str} : leS a b = true ↔ ¬ (b.cps.toList < a.cps.toList) := by
  unfold leS
  rw [ltCps_eq]
  simp
theorem leS_trans (a b c : Str) (h1 : leS a b = true) (h2 : leS b c = true) : leS a c = true := by
  rw [leS_iff] at *
  have h1 : a.cps.toList ≤ b.cps.toList := List.not_lt.mp h1
  have h2 : b.cps.toList ≤ c.cps.toList := List.not_lt.mp h2
  exact List.not_lt.mpr (List.le_trans h1 h2)
theorem leS_total (a b : Str) : (leS a b || leS b a) = true := by
  rw [Bool.or_eq_true, leS_iff, leS_iff]
  rcases List.le_total a.cps.toList b.cps.toList with h | h
  · exact .inl (List.not_lt.mpr h)
  · exact .inr (List.not_lt.mpr h)
theorem leS_anti (a b : Str) (h1 : leS a b = true) (h2 : leS b a = true) : a = b := by
  rw [leS_iff] at *
  have e := List.le_antisymm (List.not_lt.mp h1) (List.not_lt.mp h2)
  obtain ⟨⟨x⟩⟩ := a
  obtain ⟨⟨y⟩⟩ := b
  simp only at e
  rw [e]
theorem rising_pw : ∀ (r : List Str) (p : Str), risingS p r = true → (p :: r).Pairwise (fun a b => leS a b = true)
  | [], p, _ => by simp
  | x :: r, p, h => by
    have h : (!ltCps x.cps.toList p.cps.toList && risingS x r) = true := h
    rw [Bool.and_eq_true] at h
    have ih := rising_pw r x h.2
    have px : leS p x = true := h.1
    refine List.pairwise_cons.mpr ⟨fun y hy => ?_, ih⟩
    rcases List.mem_cons.mp hy with rfl | hy
    · exact px
    · exact leS_trans _ _ _ px ((List.pairwise_cons.mp ih).1 y hy)
theorem sortedS_pw {l : List Str} (h : sortedS l = true) : l.Pairwise (fun a b => leS a b = true) := by
  cases l with
  | nil => exact .nil
  | cons x r => exact rising_pw r x h
theorem sortS_of {ys xs : List Str} (p : ys.Perm xs) (h : sortedS ys = true) : ys = sortS xs := by
  refine List.Perm.eq_of_pairwise (le := fun a b => leS a b = true) (fun a b _ _ => leS_anti a b) (sortedS_pw h) ?_ (p.trans (List.mergeSort_perm xs leS).symm)
  exact List.pairwise_mergeSort leS_trans leS_total xs
def strsOf : List D → Option (List Str)
  | [] => some []
  | .str s :: l => (strsOf l).map (s :: ·)
  | _ :: _ => none
theorem strs_at {K : PySem.W.Frag} {F : Hp} : ∀ {vs : List V} {l : List D} {ss : List Str}, Paired (Rp K F) vs l → strsOf l = some ss → vs = ss.map V.str ∧ (∀ s ∈ ss, SOk s) ∧ l = ss.map D.str
  | _, _, _, .nil, e => by cases e; exact ⟨rfl, by simp, rfl⟩
  | v :: vs, d :: l, ss, .cons h t, e => by
    cases d <;> first | (simp only [strsOf] at e; cases e; done) | skip
    rename_i z
    simp only [strsOf] at e
    cases q : strsOf l with
    | none => rw [q] at e; cases e
    | some zs =>
      rw [q] at e
      simp only [Option.map_some, Option.some.injEq] at e; subst e
      obtain ⟨h1, h2, h3⟩ := strs_at t q
      cases h with
      | str _ ok =>
        rw [h1, h3]
        refine ⟨rfl, fun s hs => ?_, rfl⟩
        rcases List.mem_cons.mp hs with rfl | hs
        · exact ok
        · exact h2 s hs
theorem strs_rp {K : PySem.W.Frag} {F : Hp} : ∀ {ss : List Str}, (∀ s ∈ ss, SOk s) → Paired (Rp K F) (ss.map V.str) (ss.map D.str)
  | [], _ => .nil
  | s :: ss, h => .cons (.str s (h s (.head _))) (strs_rp fun z hz => h z (.tail _ hz))
def cSortS : List D → Option RV
  | [.lst l] => (match strsOf l with
    | some ss => if ss.length < 64 then some (.fresh ((sortS ss).map .str)) else none
    | none => none)
  | _ => none
section
variable {X : Cx}
theorem cs_sortS : CaS X (.builtin "sorted") cSortS := by
  refine ⟨_, cr_sortedS, fun xs ds rv H F fh nt p h Q q => ?_⟩
  cases p with
  | nil => cases h
  | @cons x d _ _ r t =>
    cases t with
    | cons _ _ => cases d <;> cases h
    | nil =>
      cases d <;> first | (cases h; done) | skip
      rename_i l
      simp only [cSortS] at h
      obtain ⟨hz, a, vs, rfl, hs, pp⟩ := r
      cases e : strsOf l with
      | none => rw [e] at h; cases h
      | some ss =>
        rw [e] at h
        simp only at h
        split at h
        · rename_i h64
          cases h
          obtain ⟨rfl, ok, _⟩ := strs_at pp e
          refine ⟨a, ss, rfl, hs, h64, fun ys p perm so hp => ?_⟩
          have ey := sortS_of perm so
          subst ey
          have pm : (sortS ss).Perm ss := perm
          refine new_lst fh nt q hp ?_ (strs_rp fun s hs => ok s (pm.mem_iff.mp hs))
          rw [List.length_map, pm.length_eq, sizeLine_eq]
          omega
        · cases h
end
end Dl
/-! DlU: list({key: True for ..}): the keys, each once. -/
namespace Dl
open PySem PySem.Spec PyProof.Rows L2 NdefX
def keysAdd (es : List Str) (k : Str) : List Str := if k ∈ es then es else es ++ [k]
def entsOf (ks : List Str) : List (Key × V) := ks.map fun k => (Sum.inr k, V.bl true)
theorem put_ents {ks : List Str} {k : Str} : putK (entsOf ks) (Sum.inr k) (V.bl true) = entsOf (keysAdd ks k) := by
  unfold putK keysAdd
  have e : ((entsOf ks).any fun kv => decide (kv.1 = Sum.inr k)) = decide (k ∈ ks) := by
    unfold entsOf
    rw [List.any_map]
    induction ks with
    | nil => simp
    | cons z zs ih =>
      rw [List.any_cons, ih]
      simp [eq_comm]
  rw [e]
  by_cases h : k ∈ ks
  · rw [if_pos h, if_pos (by simpa using h)]
    unfold entsOf
    rw [List.map_map]
    refine List.map_congr_left fun z hz => ?_
    show (if (Sum.inr z : Key) = Sum.inr k then ((Sum.inr z : Key), V.bl true) else (Sum.inr z, V.bl true)) = _
    split <;> rfl
  · rw [if_neg h, if_neg (by simpa using h)]
    unfold entsOf
    rw [List.map_append]
    rfl
theorem keysAdd_len {ks : List Str} {k : Str} : (keysAdd ks k).length ≤ ks.length + 1 := by
  unfold keysAdd
  split
  · omega
  · simp
theorem tab_updK {T : List NTab} {H : Hp} {D : Addr} {vs ws : List (Key × V)} (t : TabsN T H) (e : H D = some (.dK vs)) : TabsN T (upd H D (.dK ws)) := fun p hp => by
  obtain ⟨ps, h1, h2, h3⟩ := t p hp
  have n1 : p.1 ≠ D := ne_of h1 e (by simp)
  refine ⟨ps, by rw [upd_ne n1]; exact h1, h2, fun pos cv hc => ?_⟩
  obtain ⟨c, e1, e2⟩ := h3 pos cv hc
  have n2 : c ≠ D := ne_of e2 e (by unfold LamX.CodeO; simp)
  exact ⟨c, e1, by rw [upd_ne n2]; exact e2⟩
theorem keepE_updK {H : Hp} {p : Addr} {vs ws : List (Key × V)} (e : H p = some (.dK vs)) : KeepE H (upd H p (.dK ws)) := fun a φ q => by
  rw [upd_ne (fun z => by rw [z, e] at q; cases q)]
  exact q
theorem SR.updFreeK {X : Tx} {B : Base} {env : Ev} {w : World} {σ : St} {H F : Hp} {O : Nat → Addr} {M : List Addr} {D : Addr} {vs ws : List (Key × V)} (s : SR X B env w σ H F O M) (e : H D = some (.dK vs)) (hB : B.H D = none) (hF : F D = none) (hM : D ∉ M)
    (hO : ∀ i l, env[i]? = some (.own l) → O i ≠ D) : SR X B env w σ (upd H D (.dK ws)) F O M := by
  have ne : ∀ {a : Addr} {o : HO}, H a = some o → a ≠ D → upd H D (.dK ws) a = some o := fun h n => by rw [upd_ne n]; exact h
  refine ⟨s.len, fun b o q => ?_, s.nt, ⟨s.st.fg, fun a o hM' ht q => ?_, fun a h => ?_, s.st.nf, s.st.mw⟩, ⟨s.wr.nd, ?_⟩, tab_updK s.tb e, fun i sl e' => ?_, s.inj⟩
  · exact ne (s.fh _ _ q) (fun z => by subst z; rw [hF] at q; cases q)
  · exact ne (s.st.fr a o hM' ht q) (fun z => by subst z; rw [hB] at q; cases q)
  · by_cases z : a = D
    · subst z; rw [upd_same]; simp
    · rw [upd_ne z]; exact s.st.th a h
  · have go : ∀ {M : List Addr} {w : World}, D ∉ M → Paired (fun m o => F m = none ∧ WO.isAt X F H m o) M w → Paired (fun m o => F m = none ∧ WO.isAt X F (upd H D (.dK ws)) m o) M w := by
      intro M w hM h
      induction h with
      | nil => exact .nil
      | @cons m o _ _ h1 _ ih =>
        have nm : m ≠ D := fun z => hM (by rw [← z]; exact List.mem_cons_self)
        refine .cons ⟨h1.1, ?_⟩ (ih fun z => hM (List.mem_cons_of_mem _ z))
        cases o with
        | lst l => obtain ⟨_, ez, us, e1, e2⟩ := h1; exact ⟨ez, us, ne e1 nm, e2⟩
        | clo i caps => exact CloAt.keep h1.2 (keepE_updK e) (Same.refl _) (fun _ _ e => e)
    exact go hM s.wr.at_
  · have h := s.sl i sl e'
    cases sl with
    | un => trivial
    | dat d => exact h
    | own l =>
      obtain ⟨e1, e2, e3, e4, ez, us, e5, e6⟩ := h
      exact ⟨e1, e2, e3, e4, ez, us, ne e5 (hO i l e'), e6⟩
    | wref k => exact h
section
variable {X : Cx} {T : Tbs} {Wi : WX} {pos : Pos}
def dKeys (src : Src) (vs : List Nat) (g : Tgt) (tt : Tst) (kx : Ex) : Ex := fun env w => (src env w).bind fun l w1 => (compGo g tt kx (wipeE env vs) l w1).bind fun xs w2 => match strsOf xs with
  | some ks => .ok (.fresh ((ks.foldl keysAdd []).map .str)) w2
  | none => .stuck
theorem dk_read {src : Src} {g : Tgt} {tt : Tst} {elt : Ex} {vs us : List Nat} (hvs : ∀ i ∈ us, i ∈ vs) {σ : St} {H : Hp} {Q : VK} (q : tD (Cx.tx X T) Wi (dKeys src vs g tt elt) σ H Q) :
    tDc (tIt (Cx.tx X T) Wi src) (tG (Cx.tx X T) g us) (tT (Cx.tx X T) noW tt) (tD (Cx.tx X T) noW elt) (tC (.bl true)) vs σ H (fun x H1 => rListD [x] H1 Q) := by
  obtain ⟨B, env, w, F, O, M, s, q⟩ := q
  refine ⟨B, env, w, F, O, M, s, q.bind.imp fun l w1 q1 J H1 F1 M1 s1 st1 wk D hD => ?_⟩
  have q1 := q1.bind
  have hB : B.H D = none := by
    cases z : B.H D with
    | none => rfl
    | some o => exact absurd hD (s1.st.th D (by rw [z]; simp))
  have hH : H D = none := by
    cases z : H D with
    | none => rfl
    | some o => exact absurd hD (st1.th D (by rw [z]; simp))
  have hO : ∀ i k, env[i]? = some (.own k) → O i ≠ D := fun i k e z => by
    obtain ⟨_, _, _, _, _, ws, q', _⟩ := s.sl i _ e
    rw [z, hH] at q'; cases q'
  refine ⟨fun i m H' => m = l.length - i ∧ i ≤ l.length ∧ ∃ w' F' M' ks, ks.length ≤ i ∧ SR (Cx.tx X T) B env w' σ H' F' O M' ∧ Stp H F M H' F' M' ∧ Same F1 F' ∧ H' D = some (.dK (entsOf ks)) ∧ F' D = none ∧ D ∉ M' ∧ (∀ k ∈ ks, SOk k) ∧
      Pst (compGo g tt elt (wipeE env vs) (l.drop i) w') (fun rest w2 => ∃ zs, strsOf rest = some zs ∧ ∀ v H2 F2 M2, SR (Cx.tx X T) B env w2 σ H2 F2 O M2 → Stp H F M H2 F2 M2 → RV.isAt (Cx.tx X T) H env O H2 F2 M2 v (.fresh ((zs.foldl keysAdd ks).map .str)) → Q v H2) (fun _ _ _ => False), ⟨l.length, by simp, Nat.zero_le _, w1, F1, M1, [], Nat.le_refl _, ?_⟩, ?_⟩
  · have xt : Xt H1 F1 (upd H1 D (.dK [])) F1 := ⟨same_upd hD, Same.refl _, s1.fh.trans (same_upd hD), fun _ _ e => e, s1.nt⟩
    refine ⟨s1.xt xt, st1.trans xt.stp, Same.refl _, upd_same, s1.fh.free hD, fun z => s1.wr.there z hD, (by simp), ?_⟩
    rw [List.drop_zero]
    cases eg : compGo g tt elt (wipeE env vs) l w1 with
    | stuck => rw [eg] at q1; exact q1.elim
    | ok rest w2 =>
      rw [eg] at q1
      have q1 : Pst (match strsOf rest with
        | some ks => Out.ok (RV.fresh ((ks.foldl keysAdd []).map .str)) w2
        | none => .stuck) _ _ := q1
      cases ez : strsOf rest with
      | none => rw [ez] at q1; exact q1.elim
      | some zs => rw [ez] at q1; exact ⟨zs, ez, fun v H2 F2 M2 s2 st2 r2 => q1 v H2 F2 M2 s2 st2 r2⟩
    | exc x e' w2 =>
      exfalso
      have nx : ∀ (l : List Dl.D) (w : World) (x : Exn) (e : Ev) (w2 : World), compGo g tt elt (wipeE env vs) l w ≠ .exc x e w2 := by
        intro l
        induction l with
        | nil => intro w x e w2 z; cases z
        | cons d ds ih =>
          intro w x e w2 z
          unfold compGo at z
          split at z
          · cases z
          · rename_i env1 _
            cases h1 : tt env1 w with
            | stuck => rw [h1] at z; cases z
            | exc _ _ _ => rw [h1] at z; cases z
            | ok b w3 =>
              rw [h1] at z
              simp only [noX_ok, bind_ok] at z
              split at z
              · cases h2 : elt env1 w3 with
                | stuck => rw [h2] at z; cases z
                | exc _ _ _ => rw [h2] at z; cases z
                | ok r w4 =>
                  rw [h2] at z
                  simp only [noX_ok, bind_ok] at z
                  split at z
                  · cases h3 : compGo g tt elt (wipeE env vs) ds w4 with
                    | stuck => rw [h3] at z; cases z
                    | exc a b c => exact ih _ _ _ _ h3
                    | ok a b => rw [h3] at z; cases z
                  · cases z
              · exact ih _ _ _ _ z
      exact nx l w1 x e' w2 eg
  · rintro i m H' ⟨rfl, hi, w', F', M', ks, hes, sr, st, sf, hDl, hFD, hMD, pd, qq⟩
    by_cases hlt : i < l.length
    · refine .inr ⟨wk.go i H' F' sf sr.fh hlt, fun H'' => i + 1 ≤ l.length ∧ ∃ w' F' M' ks, ks.length ≤ i + 1 ∧ SR (Cx.tx X T) B env w' σ H'' F' O M' ∧ Stp H F M H'' F' M' ∧ Same F1 F' ∧ H'' D = some (.dK (entsOf ks)) ∧ F' D = none ∧ D ∉ M' ∧ (∀ k ∈ ks, SOk k) ∧
          Pst (compGo g tt elt (wipeE env vs) (l.drop (i + 1)) w') (fun rest w2 => ∃ zs, strsOf rest = some zs ∧ ∀ v H2 F2 M2, SR (Cx.tx X T) B env w2 σ H2 F2 O M2 → Stp H F M H2 F2 M2 → RV.isAt (Cx.tx X T) H env O H2 F2 M2 v (.fresh ((zs.foldl keysAdd ks).map .str)) → Q v H2) (fun _ _ _ => False), fun H'' ⟨z1, z2⟩ => ⟨l.length - (i + 1), by omega, rfl, z1, z2⟩, fun x H2 hy => ?_⟩
      obtain ⟨F2, xt2, rx⟩ := wk.yld i H' F' x H2 l[i] sf sr.fh sr.nt hy (List.getElem?_eq_getElem hlt)
      have sr2 := sr.xt xt2
      rw [List.drop_eq_getElem_cons hlt] at qq
      unfold compGo at qq
      split at qq
      · exact qq.elim
      · rename_i env1 eg
        refine ⟨B, wipeE env vs, w', F2, O, M', l[i], env1, sr2.wipe vs, rx, eg, fun σ2 s2 hw => ⟨?_, ?_⟩⟩
        · rw [hw vs hvs]
          have idem : ∀ us : List Nat, (∀ i ∈ us, i ∈ vs) → wipe (wipe σ vs) us = wipe σ vs := by
            intro us
            induction us with
            | nil => intro _; rfl
            | cons u us ih =>
              intro hu
              show (wipe (wipe σ vs) us).set u none = wipe σ vs
              rw [ih fun i hi => hu i (List.mem_cons_of_mem _ hi)]
              have hu' := hu u List.mem_cons_self
              have : ∀ {ws : List Nat}, u ∈ ws → (wipe σ ws).set u none = wipe σ ws := by
                intro ws
                induction ws with
                | nil => intro h; cases h
                | cons a ws ih2 =>
                  intro h
                  show ((wipe σ ws).set a none).set u none = (wipe σ ws).set a none
                  by_cases ha : a = u
                  · subst ha; rw [List.set_set]
                  · rcases List.mem_cons.mp h with z | z
                    · exact absurd z.symm ha
                    · rw [List.set_comm _ _ ha, ih2 z]
              exact this hu'
          exact idem vs fun _ h => h
        · have qt := qq.bind.noX (b' := badX (Cx.tx X T) B noW)
          refine ⟨B, env1, w', F2, O, M', s2, qt.imp fun b w3 q3 H3 F3 M3 s3 st3 => ?_⟩
          have sr3 := sr2.step st3 s3.fh s3.nt s3.wr s3.tb
          have hDl3 : H3 D = some (.dK (entsOf ks)) := st3.fr D _ (fun z => absurd z hMD) (fun _ z => by cases z) (xt2.hh _ _ hDl)
          have hMD3 : D ∉ M3 := notM' st3 hMD (by rw [xt2.hh _ _ hDl]; simp)
          have hFD2 : F2 D = none := xt2.nf D (by rw [hDl]; simp) hFD
          have hFD3 : F3 D = none := st3.nf D (by rw [xt2.hh _ _ hDl]; simp) hFD2
          have st03 := (st.trans xt2.stp).trans st3
          cases b with
          | false =>
            simp only [Bool.false_eq_true, if_false] at q3 ⊢
            exact ⟨hlt, w3, F3, M3, ks, by omega, sr3, st03, (sf.trans xt2.ff).trans st3.fg, hDl3, hFD3, hMD3, pd, q3⟩
          | true =>
            simp only [if_true] at q3 ⊢
            have qe := q3.bind.noX (b' := badX (Cx.tx X T) B noW)
            refine ⟨B, env1, w3, F3, O, M3, s3, qe.imp fun r w4 q4 y H4 F4 M4 s4 st4 r4 => ?_⟩
            split at q4
            · rename_i d ed
              obtain ⟨F5, s5, st5, a5⟩ := keep_arg s3 s4 st4 r4 (st_arg ed)
              have hDl4 : H4 D = some (.dK (entsOf ks)) := st5.fr D _ (fun z => absurd z hMD3) (fun _ z => by cases z) hDl3
              have hMD4 : D ∉ M4 := notM' st5 hMD3 (by rw [hDl3]; simp)
              have hFD5 : F5 D = none := st5.nf D (by rw [hDl3]; simp) hFD3
              have sr5 := sr3.step st5 s5.fh s5.nt s5.wr s5.tb
              have st05 := st03.trans st5
              cases eg2 : compGo g tt elt (wipeE env vs) (l.drop (i + 1)) w4 with
              | stuck => rw [eg2] at q4; exact q4.elim
              | exc a b c => rw [eg2] at q4; exact q4.elim
              | ok rest w5 =>
                rw [eg2] at q4
                obtain ⟨zs, ez, qv⟩ := q4
                cases d <;> first | (simp only [strsOf] at ez; cases ez; done) | skip
                rename_i k
                simp only [strsOf] at ez
                cases ez2 : strsOf rest with
                | none => rw [ez2] at ez; cases ez
                | some zs2 =>
                  rw [ez2] at ez
                  cases ez
                  have hyk : y = V.str k ∧ SOk k := by
                    cases a5 with
                    | str _ ok => exact ⟨rfl, ok⟩
                  have sr6 := sr5.updFreeK (ws := entsOf (keysAdd ks k)) hDl4 hB hFD5 hMD4 hO
                  have hbd := wk.bd
                  have hel : (entsOf ks).length ≤ i := by unfold entsOf; rw [List.length_map]; exact hes
                  refine ⟨entsOf ks, Sum.inr k, hyk.1, hDl4, by omega, ?_⟩
                  rw [put_ents]
                  refine ⟨hlt, w4, F5, M4, keysAdd ks k, Nat.le_trans keysAdd_len (by omega), sr6, ?_, ((sf.trans xt2.ff).trans st3.fg).trans st5.fg, upd_same, hFD5, hMD4, fun z hz => ?_, ?_⟩
                  · exact ⟨st05.fg, fun a o hM' ht q' => by
                      have := st05.fr a o hM' ht q'
                      have na : a ≠ D := fun z => by subst z; rw [hH] at q'; cases q'
                      rw [upd_ne na]; exact this, fun a h => by
                      by_cases z : a = D
                      · subst z; rw [upd_same]; simp
                      · rw [upd_ne z]; exact st05.th a h, st05.nf, st05.mw⟩
                  · unfold keysAdd at hz
                    split at hz
                    · exact pd z hz
                    · rcases List.mem_append.mp hz with h1 | h1
                      · exact pd z h1
                      · rw [List.mem_singleton.mp h1]; exact hyk.2
                  · rw [eg2]
                    exact ⟨zs2, ez2, qv⟩
            · exact q4.elim
    · have hil : i = l.length := by omega
      subst hil
      refine .inl ⟨wk.stop _ H' F' sf sr.fh (Nat.le_refl _), ?_⟩
      rw [List.drop_length] at qq
      obtain ⟨zs, ez, qq'⟩ := qq
      cases ez
      refine ⟨D, entsOf ks, rfl, hDl, fun p hp => ?_⟩
      have ek : (entsOf ks).map (fun kv => kV kv.1) = ks.map V.str := by unfold entsOf; rw [List.map_map]; rfl
      rw [ek]
      have xt := Xt.newL (vs := ks.map V.str) sr.fh sr.nt hp
      have hHp : H p = none := by
        cases z : H p with
        | none => rfl
        | some o => exact absurd hp (st.th p (by rw [z]; simp))
      have bd := wk.bd
      exact qq' _ _ F' M' (sr.xt xt) (st.trans xt.stp) ⟨by simpa using Nat.le_trans hes bd, p, ks.map V.str, rfl, hHp, sr.fh.free hp, fun z => sr.wr.there z hp, upd_same, strs_rp pd⟩
/-- list({key: True for target in iter if ..}) -/
theorem je_keys {kx tg iter : Expr} {ifs : List Expr} {scope : Scope} {own : List (Str × Nat)} {src : Src} {g : Tgt} {tt : Tst} {dk : Ex} {us vs : List Nat} {p dpos cpos : Pos} {j : Nat} (hc : X.calm = true) (hN : X.N.Nodup) (hgl : Gl X "list") (hml : X.mg "list" = none) (hi : JI X T Wi tg iter src) (ok : BlkOk X.N X.env.scope scope own)
    (hv : own.map (·.2) = vs) (hvs : ∀ i ∈ us, i ∈ vs)
    (hg : ∀ (s : Shared) (H : Hp) (C : Addr) (cl : List (Str × Addr)) (fp : List Addr), JG (X.blk s H scope (compEnvC scope cl C X.env) fp) T tg g us)
    (ht : ∀ (s : Shared) (H : Hp) (C : Addr) (cl : List (Str × Addr)) (fp : List Addr), JTs (X.blk s H scope (compEnvC scope cl C X.env) fp) T ifs tt)
    (hk : ∀ (s : Shared) (H : Hp) (C : Addr) (cl : List (Str × Addr)) (fp : List Addr), JE (X.blk s H scope (compEnvC scope cl C X.env) fp) T noW kx dk) (hs : ∀ x, foldedSetIterable iter X.env x = pure x := by intro _; rfl)
    (he : starEach [.DictComp kx (.Constant (.bool true) j cpos) [⟨tg, iter, ifs, 0⟩] scope dpos] X.env = (false, eval (.DictComp kx (.Constant (.bool true) j cpos) [⟨tg, iter, ifs, 0⟩] scope dpos) X.env) :: starEach [] X.env := by rfl) (hpl : (backTo pos (starEach [] X.env)).any (·.1) = false := by rfl) :
    JE X T Wi (.Call (.Name "list" p) [.DictComp kx (.Constant (.bool true) j cpos) [⟨tg, iter, ifs, 0⟩] scope dpos] [] pos) (dKeys src vs g tt dk) := by
  subst hv
  refine (pe_callTy (call_list_dK hc) hgl hml (by decide +kernel) (pa_cons (pe_dc (g := tG (Cx.tx X T) g us) (tt := tT (Cx.tx X T) noW tt) (tk := tD (Cx.tx X T) noW dk) (tv := tC (.bl true)) hc hN hi ok hg ht hk (fun _ _ _ _ _ => pe_bl) hs) pa_nil he) (by decide) (by decide) he hpl).impD fun σ H Q q => ?_
  exact dk_read hvs q
end
end Dl
namespace Dl
open PySem PySem.Spec PyProof.Rows L2 NdefX
def b__law_tape (C : Cs) : Sd := (sRet (dLst (aCons (dBlt cList (rCons (dName 0) rNil)) (aCons (dC (.int 0)) (aCons (dC (.int 0)) (aCons (dC (.int 1)) (aCons (dC (.int 0)) aNil)))))))
def b__law_pick (C : Cs) : Sd := (sSeq (sIf (dTst (dBin (gGt C.room) (dIxW 0 (dC (.int 2))) (dC (.int 1)))) (sSeq (sSet 2 (dBin gMod (dBlt cInt (rCons (dIxW 0 (dC (.int 2))) rNil)) (dName 1)))
  (sSeq (sSetIx 0 (dC (.int 2)) (dBin gFdiv (dIxW 0 (dC (.int 2))) (dName 1)))
  (sRet (dName 2)))) sNil)
  (sSeq (sSetIx 0 (dC (.int 4)) (dBin gAdd (dIxW 0 (dC (.int 4))) (dC (.int 1))))
  (sSeq (sSet 3 (dC (.int 0)))
  (sSeq (sIf (dTst (dBin (gLt C.room) (dIxW 0 (dC (.int 1))) (dBlt cLen (rCons (dIxW 0 (dC (.int 0))) rNil)))) (sSeq (sSet 3 (dBin gIx (dIxW 0 (dC (.int 0))) (dIxW 0 (dC (.int 1)))))
  (sSetIx 0 (dC (.int 1)) (dBin gAdd (dIxW 0 (dC (.int 1))) (dC (.int 1))))) sNil)
  (sSeq (sIf (dTst (dBin (gGe C.room) (dName 3) (dBin gPow (dC (.int 10)) (dC (.int 18))))) (sSeq (sSetIx 0 (dC (.int 2)) (dBin gFdiv (dName 3) (dName 1)))
  (sRet (dBin gMod (dBlt cInt (rCons (dName 3) rNil)) (dName 1)))) sNil)
  (sSeq (sSet 4 (dBin gMod (dBlt cInt (rCons (dBin gAdd (dBin gAdd (dBin gMul (dIxW 0 (dC (.int 3))) (dC (.int 48271))) (dBin gMod (dBlt cInt (rCons (dName 3) rNil)) (dC (.int 2147483629)))) (dBin gMul (dIxW 0 (dC (.int 4))) (dC (.int 69621)))) rNil)) (dC (.int 2147483647))))
  (sSeq (sSet 4 (dBin gMod (dBlt cInt (rCons (dBin gMul (dName 4) (dBin gAdd (dBin gFdiv (dName 4) (dC (.int 1009))) (dC (.int 40692)))) rNil)) (dC (.int 2147483399))))
  (sSeq (sSetIx 0 (dC (.int 3)) (dName 4))
  (sRet (dBin gMod (dBlt cInt (rCons (dBin gFdiv (dName 4) (dC (.int 16))) rNil)) (dName 1)))))))))))
end Dl
/-! DlP: the plain side: what the denotations compute. -/
namespace Dl
open PySem PySem.Spec PyProof.Rows L2 NdefX
section
variable {α β : Type} {env : Ev} {w : World} {i : Nat} {e : Ex} {a b : Sd}
@[simp] theorem bind_ite {c : Prop} [Decidable c] {x y : Out α} {f : α → World → Out β} : (if c then x else y).bind f = if c then x.bind f else y.bind f := by split <;> rfl
@[simp] theorem sNil_ap : sNil env w = .ok (.nx env) w := rfl
@[simp] theorem sPass_ap : sPass env w = .ok (.nx env) w := rfl
@[simp] theorem sBreak_ap : sBreak env w = .ok (.bk env) w := rfl
@[simp] theorem sCont_ap : sCont env w = .ok (.ct env) w := rfl
@[simp] theorem sRetN_ap : sRetN env w = .ok (.rt (.dat .non)) w := rfl
def seqK (b : Sd) : Fl → World → Out Fl := fun f w1 => match f with
  | .nx env1 => b env1 w1
  | f => .ok f w1
@[simp] theorem seqK_nx : seqK b (.nx env) w = b env w := rfl
@[simp] theorem seqK_rt {r : RV} : seqK b (.rt r) w = .ok (.rt r) w := rfl
@[simp] theorem seqK_bk : seqK b (.bk env) w = .ok (.bk env) w := rfl
@[simp] theorem seqK_ct : seqK b (.ct env) w = .ok (.ct env) w := rfl
@[simp] theorem sSeq_ap : sSeq a b env w = (a env w).bind (seqK b) := rfl
@[simp] theorem sIf_ap {c : Tst} : sIf c a b env w = (c env w).bind fun k w1 => if k = true then a env w1 else b env w1 := rfl
@[simp] theorem sExpr_ap : sExpr e env w = (e env w).bind fun _ w1 => .ok (.nx env) w1 := rfl
@[simp] theorem sRet_ap : sRet e env w = (e env w).bind fun r w1 => .ok (.rt r.ret) w1 := rfl
@[simp] theorem ret_dat {d : D} : (RV.dat d).ret = .dat d := rfl
@[simp] theorem ret_fresh {l : List D} : (RV.fresh l).ret = .fresh l := rfl
@[simp] theorem ret_bor {l : List D} : (RV.bor i l).ret = .fresh l := rfl
@[simp] theorem ret_wref {k : Nat} : (RV.wref k).ret = .wref k := rfl
def setK (i : Nat) (env : Ev) : RV → World → Out Fl := fun r w1 => match r with
  | .dat d => .ok (.nx (env.set i (.dat d))) w1
  | .fresh l => .ok (.nx (env.set i (.own l))) w1
  | .wref k => .ok (.nx (env.set i (.wref k))) w1
  | .bor _ _ => .stuck
@[simp] theorem setK_dat {d : D} : setK i env (.dat d) w = .ok (.nx (env.set i (.dat d))) w := rfl
@[simp] theorem setK_fresh {l : List D} : setK i env (.fresh l) w = .ok (.nx (env.set i (.own l))) w := rfl
@[simp] theorem setK_wref {k : Nat} : setK i env (.wref k) w = .ok (.nx (env.set i (.wref k))) w := rfl
@[simp] theorem sSet_ap : sSet i e env w = (e env w).bind (setK i env) := rfl
@[simp] theorem sSetW_ap : sSetW i e env w = (e env w).bind fun r w1 => match r with
  | .fresh l => .ok (.nx (env.set i (.wref w1.length))) (w1 ++ [.lst l])
  | _ => .stuck := rfl
@[simp] theorem sAsg_ap {g : Tgt} : sAsg g e env w = (e env w).bind fun r w1 => match r.arg with
  | some (.dat d) => (match g d env with
    | some env' => .ok (.nx env') w1
    | none => .stuck)
  | _ => .stuck := rfl
@[simp] theorem sAppend_ap : sAppend i e env w = (match env[i]? with
  | some (.own l) => (e env w).bind fun r w1 => (match r.st with
    | some d => if l.length < 16777216 then .ok (.nx (env.set i (.own (l ++ [d])))) w1 else .stuck
    | none => .stuck)
  | _ => .stuck) := rfl
@[simp] theorem sSetIx_ap {ix : Ex} : sSetIx i ix e env w = (e env w).bind fun r w1 => match env[i]?, r.st with
  | some (.own l), some d => (ix env w1).bind fun k w2 => (match k with
    | .dat (.int z) => (match ixN l.length z with
      | some j => .ok (.nx (env.set i (.own (l.set j d)))) w2
      | none => .stuck)
    | _ => .stuck)
  | some (.wref m), some d => (ix env w1).bind fun k w2 => (match k, w2[m]? with
    | .dat (.int z), some (.lst l) => (match ixN l.length z with
      | some j => .ok (.nx env) (w2.set m (.lst (l.set j d)))
      | none => .stuck)
    | _, _ => .stuck)
  | _, _ => .stuck := rfl
@[simp] theorem sFor_ap {src : Src} {g : Tgt} {body : Sd} : sFor src g body env w = (src env w).bind fun l w1 => forGo g body l env w1 := rfl
@[simp] theorem sAug_ap {g : D → D → Option RV} : sAug i g e env w = (match env[i]? with
  | some (.dat x) => (e env w).bind fun r w1 => (match r.val with
    | some y => (match g x y with
      | some (.dat z) => .ok (.nx (env.set i (.dat z))) w1
      | _ => .stuck)
    | none => .stuck)
  | _ => .stuck) := rfl
end
section
variable {env : Ev} {w : World} {i : Nat} {e a b c : Ex} {d : D} {l : List D}
@[simp] theorem dName_ap : dName i env w = (match env[i]? with
  | some (.dat d) => .ok (.dat d) w
  | some (.own l) => .ok (.bor i l) w
  | some (.wref k) => .ok (.wref k) w
  | _ => .stuck) := rfl
@[simp] theorem dC_ap : dC d env w = .ok (.dat d) w := rfl
@[simp] theorem arg_dat : (RV.dat d).arg = some (.dat d) := rfl
@[simp] theorem arg_fresh : (RV.fresh l).arg = some (.dat (.lst l)) := rfl
@[simp] theorem arg_wref {k : Nat} : (RV.wref k).arg = some (.wref k) := rfl
@[simp] theorem arg_bor : (RV.bor i l).arg = none := rfl
@[simp] theorem val_dat : (RV.dat d).val = some d := rfl
@[simp] theorem val_fresh : (RV.fresh l).val = some (.lst l) := rfl
@[simp] theorem val_bor : (RV.bor i l).val = some (.lst l) := rfl
@[simp] theorem st_dat : (RV.dat d).st = some d := rfl
@[simp] theorem st_fresh : (RV.fresh l).st = some (.lst l) := rfl
@[simp] theorem aNil_ap : aNil env w = .ok [] w := rfl
@[simp] theorem rNil_ap : rNil env w = .ok [] w := rfl
@[simp] theorem aCons_ap {r : Exs} : aCons e r env w = (e env w).bind fun x w1 => match x.arg with
  | some a => (r env w1).bind fun as w2 => .ok (a :: as) w2
  | none => .stuck := rfl
@[simp] theorem rCons_ap {r : Exs} : rCons e r env w = (e env w).bind fun x w1 => (r env w1).bind fun xs w2 => .ok (x :: xs) w2 := rfl
@[simp] theorem dats_nil : dats [] = some [] := rfl
@[simp] theorem dats_cons {rs : List RV} : dats (.dat d :: rs) = (dats rs).map (d :: ·) := by
  show (match some d, dats rs with
    | some d, some ds => some (d :: ds)
    | _, _ => none) = _
  cases dats rs <;> rfl
@[simp] theorem vals_nil : vals [] = some [] := rfl
@[simp] theorem vals_cons {r : RV} {rs : List RV} : vals (r :: rs) = (match r.val, vals rs with
    | some d, some ds => some (d :: ds)
    | _, _ => none) := rfl
@[simp] theorem dTup_ap {es : Exs} : dTup es env w = (es env w).bind fun rs w1 => match dats rs with
  | some ds => if ds.length ≤ 1000 then .ok (.dat (.tup ds)) w1 else .stuck
  | none => .stuck := rfl
@[simp] theorem dLst_ap {es : Exs} : dLst es env w = (es env w).bind fun rs w1 => match dats rs with
  | some ds => if ds.length ≤ 1000 then .ok (.fresh ds) w1 else .stuck
  | none => .stuck := rfl
@[simp] theorem dCall_ap {C : Cs} {es : Exs} : dCall C i es env w = (es env w).bind fun rs w1 => withEnv env (C.call i rs w1) := rfl
@[simp] theorem dBlt_ap {g : List D → Option RV} {es : Exs} : dBlt g es env w = (es env w).bind fun rs w1 => match vals rs with
  | some ds => lift (g ds) w1
  | none => .stuck := rfl
@[simp] theorem vals2_ap {g : D → D → Option RV} {x y : RV} : vals2 g x y = (match x.val, y.val with
  | some x, some y => g x y
  | _, _ => none) := rfl
@[simp] theorem vals1_ap {g : D → Option RV} {x : RV} : vals1 g x = (match x.val with
  | some x => g x
  | none => none) := rfl
@[simp] theorem dBin_ap {g : D → D → Option RV} : dBin g a b env w = (a env w).bind fun ra w1 => (b env w1).bind fun rb w2 => lift (vals2 g ra rb) w2 := rfl
@[simp] theorem dUn_ap {g : D → Option RV} : dUn g a env w = (a env w).bind fun ra w1 => lift (vals1 g ra) w1 := rfl
def andK (b : Ex) (env : Ev) : RV → World → Out RV := fun ra w1 => match ra with
  | .dat (.bl true) => b env w1
  | .dat (.bl false) => .ok (.dat (.bl false)) w1
  | _ => .stuck
@[simp] theorem andK_bl {k : Bool} : andK b env (.dat (.bl k)) w = if k = true then b env w else .ok (.dat (.bl false)) w := by cases k <;> rfl
@[simp] theorem dAnd_ap : dAnd a b env w = (a env w).bind (andK b env) := rfl
def orK (b : Ex) (env : Ev) : RV → World → Out RV := fun ra w1 => match ra with
  | .dat (.bl false) => b env w1
  | .dat (.bl true) => .ok (.dat (.bl true)) w1
  | _ => .stuck
@[simp] theorem orK_bl {k : Bool} : orK b env (.dat (.bl k)) w = if k = true then .ok (.dat (.bl true)) w else b env w := by cases k <;> rfl
@[simp] theorem dOr_ap : dOr a b env w = (a env w).bind (orK b env) := rfl
@[simp] theorem dIf_ap {t : Tst} : dIf t a b env w = (t env w).bind fun c w1 => if c = true then a env w1 else b env w1 := rfl
def chK (g' : D → D → Option RV) (c : Ex) (env : Ev) (rb : RV) (w2 : World) : Option RV → Out RV
  | some (.dat (.bl true)) => (c env w2).bind fun rc w3 => lift (vals2 g' rb rc) w3
  | some (.dat (.bl false)) => .ok (.dat (.bl false)) w2
  | _ => .stuck
@[simp] theorem chK_bl {g' : D → D → Option RV} {rb : RV} {k : Bool} : chK g' c env rb w (some (.dat (.bl k))) = if k = true then (c env w).bind fun rc w3 => lift (vals2 g' rb rc) w3 else .ok (.dat (.bl false)) w := by cases k <;> rfl
@[simp] theorem dChain_ap {g g' : D → D → Option RV} : dChain g g' a b c env w = (a env w).bind fun ra w1 => (b env w1).bind fun rb w2 => chK g' c env rb w2 (vals2 g ra rb) := by
  unfold dChain chK
  rfl
@[simp] theorem dTst_ap : dTst a env w = (a env w).bind fun ra w1 => match ra with
  | .dat (.bl b) => .ok b w1
  | _ => .stuck := rfl
@[simp] theorem dTru_ap : dTru a env w = (a env w).bind fun ra w1 => match ra.val with
  | some d => (match d.truth with
    | some b => .ok b w1
    | none => .stuck)
  | none => .stuck := rfl
@[simp] theorem truth_bl {k : Bool} : (D.bl k).truth = some k := rfl
@[simp] theorem truth_int {k : Int} : (D.int k).truth = some (k != 0) := rfl
@[simp] theorem truth_lst : (D.lst l).truth = some (!l.isEmpty) := rfl
@[simp] theorem truth_tup : (D.tup l).truth = some (!l.isEmpty) := rfl
@[simp] theorem truth_non : D.non.truth = some false := rfl
@[simp] theorem tNot_ap {t : Tst} : tNot' t env w = (t env w).bind fun b w1 => .ok (!b) w1 := rfl
@[simp] theorem tAnd_ap {t u : Tst} : tAnd' t u env w = (t env w).bind fun c w1 => if c = true then u env w1 else .ok false w1 := rfl
@[simp] theorem tOr_ap {t u : Tst} : tOr' t u env w = (t env w).bind fun c w1 => if c = true then .ok true w1 else u env w1 := rfl
@[simp] theorem tYes_ap : tYes' env w = .ok true w := rfl
@[simp] theorem optI_none : optI none env w = .ok none w := rfl
@[simp] theorem optI_some : optI (some a) env w = (a env w).bind fun r w1 => match r with
    | .dat (.int i) => .ok (some i) w1
    | _ => .stuck := rfl
@[simp] theorem dSl_ap {lo hi : Option Ex} : dSl a lo hi env w = (a env w).bind fun ra w1 => (optI lo env w1).bind fun l w2 => (optI hi env w2).bind fun u w3 => lift (vals1 (gSl l u) ra) w3 := rfl
@[simp] theorem dIxW_ap : dIxW i a env w = (match env[i]? with
  | some (.wref m) => (a env w).bind fun k w1 => (match k, w1[m]? with
    | .dat (.int z), some (.lst l) => lift ((atI l z).map .dat) w1
    | _, _ => .stuck)
  | _ => .stuck) := rfl
@[simp] theorem iSeq_ap : iSeq a env w = (a env w).bind fun r w1 => match r.its with
  | some l => .ok l w1
  | none => .stuck := rfl
@[simp] theorem its_lst : (RV.dat (.lst l)).its = some l := rfl
@[simp] theorem its_tup : (RV.dat (.tup l)).its = some l := rfl
@[simp] theorem its_fresh : (RV.fresh l).its = some l := rfl
@[simp] theorem iRange_ap {g : List D → Option (Int × Int)} {es : Exs} : iRange g es env w = (es env w).bind fun rs w1 => match vals rs with
  | some ds => (match g ds with
    | some (lo, hi) => if (hi - lo).toNat ≤ 16777216 ∧ -(2 ^ 62) ≤ lo ∧ lo < 2 ^ 62 ∧ -(2 ^ 62) ≤ hi ∧ hi < 2 ^ 62 then .ok (rngD lo hi) w1 else .stuck
    | none => .stuck)
  | none => .stuck := rfl
@[simp] theorem rg1_i {j : Int} : rg1 [.int j] = some (0, j) := rfl
@[simp] theorem rg2_i {j k : Int} : rg2 [.int j, .int k] = some (j, k) := rfl
@[simp] theorem dComp_ap {src : Src} {vs : List Nat} {g : Tgt} {tt : Tst} : dComp src vs g tt e env w = (src env w).bind fun l w1 => (compGo g tt e (wipeE env vs) l w1).bind fun xs w2 => .ok (.fresh xs) w2 := rfl
@[simp] theorem wipe_nil : wipeE env [] = env := rfl
@[simp] theorem wipe_cons {v : Nat} {vs : List Nat} : wipeE env (v :: vs) = (wipeE env vs).set v .un := rfl
@[simp] theorem gN_ap : gN i d env = some (env.set i (.dat d)) := rfl
@[simp] theorem gT_ap {n : Nat} {ts : Tgts} : gT n ts (.tup l) env = if l.length = n then ts l env else none := rfl
@[simp] theorem gsNil_ap : gsNil [] env = some env := rfl
@[simp] theorem gsCons_ap {t : Tgt} {ts : Tgts} : gsCons t ts (d :: l) env = (t d env).bind fun env' => ts l env' := rfl
@[simp] theorem go_nil {g : Tgt} {tt : Tst} : compGo g tt e env [] w = .ok [] w := rfl
@[simp] theorem for_nil {g : Tgt} {s : Sd} : forGo g s [] env w = .ok (.nx env) w := rfl
end
/-! values -/
section
variable {i j : Int} {s t : Str} {rm : Nat} {k l : List D} {b c : Bool} {d : D}
@[simp] theorem gAdd_i : gAdd (.int i) (.int j) = some (.dat (.int (i + j))) := rfl
@[simp] theorem gSub_i : gSub (.int i) (.int j) = some (.dat (.int (i - j))) := rfl
@[simp] theorem gMul_i : gMul (.int i) (.int j) = if mulOk i j then some (.dat (.int (i * j))) else none := rfl
@[simp] theorem gFdiv_i : gFdiv (.int i) (.int j) = if 0 < j ∧ (j < 1073741824 ∨ j.natAbs.log2 < 8990) then some (.dat (.int (i / j))) else none := rfl
@[simp] theorem gMod_i : gMod (.int i) (.int j) = if 0 < j then some (.dat (.int (i % j))) else none := rfl
@[simp] theorem gPow_i : gPow (.int i) (.int j) = if 0 ≤ j ∧ j ≤ 1000000 ∧ i.natAbs < 2 ^ 64 then some (.dat (.int (i ^ j.toNat))) else none := rfl
@[simp] theorem gAdd_t : gAdd (.tup k) (.tup l) = if k.length + l.length ≤ sizeLine then some (.dat (.tup (k ++ l))) else none := rfl
@[simp] theorem gAdd_l : gAdd (.lst k) (.lst l) = if k.length + l.length ≤ sizeLine then some (.fresh (k ++ l)) else none := rfl
@[simp] theorem gNeg_i : gNeg (.int i) = some (.dat (.int (-i))) := rfl
@[simp] theorem gNot_b : gNot (.bl b) = some (.dat (.bl (!b))) := rfl
@[simp] theorem dep_i : (D.int i).dep = 0 := rfl
@[simp] theorem dep_b : (D.bl b).dep = 0 := rfl
@[simp] theorem dep_s : (D.str s).dep = 0 := rfl
@[simp] theorem dep_n : D.non.dep = 0 := rfl
theorem eq_i : (D.int i).eq (.int j) = decide (i = j) := by rfl
@[simp] theorem gEq_i : gEq rm (.int i) (.int j) = some (.dat (.bl (decide (i = j)))) := by simp [gEq, eq_i]
@[simp] theorem gNe_i : gNe rm (.int i) (.int j) = some (.dat (.bl (!decide (i = j)))) := by simp [gNe, eq_i]
@[simp] theorem gLt_i : gLt rm (.int i) (.int j) = some (.dat (.bl (decide (i < j)))) := rfl
@[simp] theorem gGt_i : gGt rm (.int i) (.int j) = some (.dat (.bl (decide (j < i)))) := rfl
@[simp] theorem gLe_i : gLe rm (.int i) (.int j) = some (.dat (.bl (decide (i ≤ j)))) := rfl
@[simp] theorem gGe_i : gGe rm (.int i) (.int j) = some (.dat (.bl (decide (j ≤ i)))) := rfl
@[simp] theorem gIs_b : gIs (.bl b) (.bl c) = some (.dat (.bl (decide (b = c)))) := rfl
@[simp] theorem gIsNot_b : gIsNot (.bl b) (.bl c) = some (.dat (.bl (!decide (b = c)))) := rfl
@[simp] theorem gIs_n : gIs d .non = some (.dat (.bl d.isN)) := by cases d <;> rfl
@[simp] theorem gIsNot_n : gIsNot d .non = some (.dat (.bl (!d.isN))) := by cases d <;> rfl
@[simp] theorem isN_n : D.non.isN = true := rfl
@[simp] theorem isN_i : (D.int i).isN = false := rfl
@[simp] theorem isN_b : (D.bl b).isN = false := rfl
@[simp] theorem isN_s : (D.str s).isN = false := rfl
@[simp] theorem isN_l : (D.lst l).isN = false := rfl
@[simp] theorem isN_t : (D.tup l).isN = false := rfl
@[simp] theorem gIx_l : gIx (.lst l) (.int i) = (atI l i).map .dat := rfl
@[simp] theorem gIx_t : gIx (.tup l) (.int i) = (atI l i).map .dat := rfl
@[simp] theorem gSl_l {lo hi : Option Int} : gSl lo hi (.lst l) = some (.fresh (cutD l lo hi)) := rfl
@[simp] theorem gSl_t {lo hi : Option Int} : gSl lo hi (.tup l) = some (.dat (.tup (cutD l lo hi))) := rfl
@[simp] theorem cLen_l : cLen [.lst l] = some (.dat (.int l.length)) := rfl
@[simp] theorem cLen_t : cLen [.tup l] = some (.dat (.int l.length)) := rfl
@[simp] theorem cLen_s : cLen [.str s] = some (.dat (.int s.length)) := rfl
@[simp] theorem cInt_i : cInt [.int i] = some (.dat (.int i)) := rfl
@[simp] theorem cInt_b : cInt [.bl b] = some (.dat (.int (if b then 1 else 0))) := rfl
@[simp] theorem cTup_l : cTuple [.lst l] = some (.dat (.tup l)) := rfl
@[simp] theorem cTup_t : cTuple [.tup l] = some (.dat (.tup l)) := rfl
@[simp] theorem cLst_l : cList [.lst l] = some (.fresh l) := rfl
@[simp] theorem cLst_t : cList [.tup l] = some (.fresh l) := rfl
@[simp] theorem cMax_i : cMax2 [.int i, .int j] = some (.dat (.int (if j > i then j else i))) := rfl
@[simp] theorem cMin_i : cMin2 [.int i, .int j] = some (.dat (.int (if j < i then j else i))) := rfl
@[simp] theorem cAll_l : cAll [.lst l] = (bolsOf l).map fun ns => .dat (.bl (ns.all id)) := rfl
@[simp] theorem cAny_l : cAny [.lst l] = (bolsOf l).map fun ns => .dat (.bl (ns.any id)) := rfl
@[simp] theorem cSum_l : cSum [.lst l] = (intsOf l).map fun ns => .dat (.int ns.sum) := rfl
@[simp] theorem isi_ap {ts : List Ty} : gIsi ts d = some (.dat (.bl (ts.any d.isTy))) := rfl
@[simp] theorem bolsOf_mapF {α : Type} {f : α → Bool} (xs : List α) : bolsOf (xs.map fun x => D.bl (f x)) = some (xs.map f) := by
  induction xs with
  | nil => rfl
  | cons x xs ih => simp [bolsOf, ih]
theorem eq_s : (D.str s).eq (.str t) = decide (s = t) := by rfl
@[simp] theorem gEq_s : gEq rm (.str s) (.str t) = some (.dat (.bl (decide (s = t)))) := by simp [gEq, eq_s]
@[simp] theorem gNe_s : gNe rm (.str s) (.str t) = some (.dat (.bl (!decide (s = t)))) := by simp [gNe, eq_s]
theorem eq_b : (D.bl b).eq (.bl c) = decide (b = c) := by cases b <;> cases c <;> rfl
@[simp] theorem gEq_b : gEq rm (.bl b) (.bl c) = some (.dat (.bl (decide (b = c)))) := by simp [gEq, eq_b]
@[simp] theorem gNe_b : gNe rm (.bl b) (.bl c) = some (.dat (.bl (!decide (b = c)))) := by simp [gNe, eq_b]
end
/-! loops -/
/-- a comprehension whose element is a function of the item, the world left alone -/
theorem compGo_map {i : Nat} {e : Ex} {env : Ev} {w : World} {f : D → D} : ∀ {l : List D}, (∀ d ∈ l, e (env.set i (.dat d)) w = .ok (.dat (f d)) w) → compGo (gN i) tYes' e env l w = .ok (l.map f) w
  | [], _ => rfl
  | d :: l, h => by
    have h1 := h d (.head _)
    have h2 := compGo_map (l := l) (fun x hx => h x (.tail _ hx))
    unfold compGo
    simp only [gN_ap, tYes_ap, noX_ok, bind_ok, if_true, h1, st_dat, h2, List.map_cons]
/-- an element that works upon the world -/
theorem compGo_inv {i : Nat} {e : Ex} {env : Ev} {P : List D → World → Prop} : ∀ {l : List D} {w : World} {pre : List D}, P pre w → (∀ pre w d, P pre w → d ∈ l → ∃ x w', e (env.set i (.dat d)) w = .ok (.dat x) w' ∧ P (pre ++ [x]) w') →
    ∃ xs w', compGo (gN i) tYes' e env l w = .ok xs w' ∧ P (pre ++ xs) w' ∧ xs.length = l.length
  | [], w, pre, h, _ => ⟨[], w, rfl, by simpa using h, rfl⟩
  | d :: l, w, pre, h, s => by
    obtain ⟨x, w1, e1, h1⟩ := s pre w d h (.head _)
    obtain ⟨xs, w2, e2, h2, h3⟩ := compGo_inv h1 (fun pre w y hp hy => s pre w y hp (.tail _ hy))
    refine ⟨x :: xs, w2, ?_, by simpa using h2, by simp [h3]⟩
    unfold compGo
    simp only [gN_ap, tYes_ap, noX_ok, bind_ok, if_true, e1, st_dat, e2]
theorem for_cons {g : Tgt} {s : Sd} {d : D} {ds : List D} {env : Ev} {w : World} : forGo g s (d :: ds) env w = (match g d env with
    | some env1 => (s env1 w).bind fun f w1 => (match f with
      | .nx e => forGo g s ds e w1
      | .ct e => forGo g s ds e w1
      | .bk e => .ok (.nx e) w1
      | .rt r => .ok (.rt r) w1)
    | none => .stuck) := rfl
/-- a loop without break or return, by an invariant -/
theorem for_inv {i : Nat} {s : Sd} {P : Nat → Ev → World → Prop} : ∀ {l : List D} {k : Nat} {env : Ev} {w : World}, P k env w → (∀ j d env w, P (k + j) env w → l[j]? = some d → ∃ env' w', s (env.set i (.dat d)) w = .ok (.nx env') w' ∧ P (k + j + 1) env' w') →
    ∃ env' w', forGo (gN i) s l env w = .ok (.nx env') w' ∧ P (k + l.length) env' w'
  | [], k, env, w, h, _ => ⟨env, w, rfl, by simpa using h⟩
  | d :: l, k, env, w, h, st => by
    obtain ⟨e1, w1, q1, h1⟩ := st 0 d env w (by simpa using h) rfl
    obtain ⟨e2, w2, q2, h2⟩ := for_inv (l := l) (k := k + 1) h1 (fun j x e w hp hx => by
      obtain ⟨a, b, c, d⟩ := st (j + 1) x e w (by rw [show k + (j + 1) = k + 1 + j by omega]; exact hp) hx
      exact ⟨a, b, c, by rw [show k + 1 + j + 1 = k + (j + 1) + 1 by omega]; exact d⟩)
    refine ⟨e2, w2, ?_, by rw [List.length_cons, show k + (l.length + 1) = k + 1 + l.length by omega]; exact h2⟩
    rw [for_cons]
    simp only [gN_ap, q1, bind_ok, q2]
end Dl
/-! DlT: the tape. -/
namespace Dl
open PySem PySem.Spec PyProof.Rows L2 NdefX
theorem atI_nat {α : Type} {l : List α} {i : Int} (h0 : 0 ≤ i) (h1 : i < l.length) : atI l i = l[i.toNat]? := by
  unfold atI ixN
  rw [if_pos h0, if_pos h1]
  rfl
def tapeD (ns : List Int) (pos c2 c3 c4 : Int) : WO := .lst [.lst (ns.map .int), .int pos, .int c2, .int c3, .int c4]
/-- the world's first object is a tape -/
def TapeOk (rest w : World) : Prop := ∃ ns pos c2 c3 c4, w = tapeD ns pos c2 c3 c4 :: rest ∧ 0 ≤ pos
theorem at0 {a b c d e : D} : atI [a, b, c, d, e] 0 = some a := rfl
theorem at1 {a b c d e : D} : atI [a, b, c, d, e] 1 = some b := rfl
theorem at2 {a b c d e : D} : atI [a, b, c, d, e] 2 = some c := rfl
theorem at3 {a b c d e : D} : atI [a, b, c, d, e] 3 = some d := rfl
theorem at4 {a b c d e : D} : atI [a, b, c, d, e] 4 = some e := rfl
theorem ix5 {i : Int} (h : 0 ≤ i) (h1 : i < 5) : ixN 5 i = some i.toNat := by
  unfold ixN
  rw [if_pos h, if_pos (by simpa using h1)]
@[simp] theorem endR_rt' (r : RV) (w : World) : endR (.ok (.rt r) w) = .ok r w := rfl
theorem tape_run {C : Cs} {l : List Int} {w : World} : runB ⟨1, 1, b__law_tape⟩ C [.dat (.lst (l.map .int))] w = .ok (.fresh [.lst (l.map .int), .int 0, .int 0, .int 1, .int 0]) w := by
  simp [runB, initE, toSl, b__law_tape]
theorem pick_run {C : Cs} {rest w : World} {m : Int} (h : TapeOk rest w) (hm : 0 < m) (hb : m < 1073741824) :
    ∃ r w', runB ⟨2, 5, b__law_pick⟩ C [.wref 0, .dat (.int m)] w = .ok (.dat (.int r)) w' ∧ TapeOk rest w' ∧ 0 ≤ r ∧ r < m := by
  obtain ⟨ns, pos, c2, c3, c4, rfl, hp⟩ := h
  have hmod : ∀ z : Int, 0 ≤ z % m ∧ z % m < m := fun z => ⟨Int.emod_nonneg _ (by omega), Int.emod_lt_of_pos _ hm⟩
  simp only [runB, initE, toSl, b__law_pick, tapeD, List.length_cons, List.length_nil, Nat.reduceAdd, if_true, List.map_cons, List.map_nil, Nat.reduceSub, List.replicate]
  by_cases h2 : 1 < c2
  · refine ⟨c2 % m, tapeD ns pos (c2 / m) c3 c4 :: rest, ?_, ⟨ns, pos, c2 / m, c3, c4, rfl, hp⟩, hmod c2⟩
    simp [at0, at1, at2, at3, at4, h2, hm, hb, ix5, tapeD]
  · have mk : ∀ i j : Int, i.natAbs < 2 ^ 64 → mulOk i j = true := fun i j h => by simp [mulOk, h]
    have mk' : ∀ i j : Int, j.natAbs < 2 ^ 64 → mulOk i j = true := fun i j h => by simp [mulOk, h]
    have fin : ∀ cell pos' : Int, 0 ≤ pos' → ∃ r w', endR
        ((if 1000000000000000000 ≤ cell then Out.ok (Fl.rt (.dat (.int (cell % m)))) (tapeD ns pos' (cell / m) c3 (c4 + 1) :: rest) else
          (Out.ok (Fl.rt (.dat (.int ((c3 * 48271 + cell % 2147483629 + (c4 + 1) * 69621) % 2147483647 * ((c3 * 48271 + cell % 2147483629 + (c4 + 1) * 69621) % 2147483647 / 1009 + 40692) % 2147483399 / 16 % m)))) (tapeD ns pos' c2 ((c3 * 48271 + cell % 2147483629 + (c4 + 1) * 69621) % 2147483647 * ((c3 * 48271 + cell % 2147483629 + (c4 + 1) * 69621) % 2147483647 / 1009 + 40692) % 2147483399) (c4 + 1) :: rest)))) = .ok (.dat (.int r)) w' ∧ TapeOk rest w' ∧ 0 ≤ r ∧ r < m := fun cell pos' hp' => by
      split
      · exact ⟨_, _, rfl, ⟨_, _, _, _, _, rfl, hp'⟩, hmod _⟩
      · exact ⟨_, _, rfl, ⟨_, _, _, _, _, rfl, hp'⟩, hmod _⟩
    by_cases hlt : pos < ns.length
    · obtain ⟨k, rfl⟩ : ∃ k : Nat, pos = k := ⟨pos.toNat, by omega⟩
      have hk : k < ns.length := by omega
      have hc : atI (ns.map D.int) (k : Int) = some (.int ns[k]) := by
        rw [atI_nat (by omega) (by simpa using hlt)]
        simp [hk]
      have mo := mk ((c3 * 48271 + ns[k] % 2147483629 + (c4 + 1) * 69621) % 2147483647) ((c3 * 48271 + ns[k] % 2147483629 + (c4 + 1) * 69621) % 2147483647 / 1009 + 40692) (by omega)
      have := fin ns[k] (k + 1) (by omega)
      revert this
      simp [at0, at1, at2, at3, at4, h2, hm, hb, ix5, tapeD, hlt, hc, mk', mo, hk]
    · have mo := mk ((c3 * 48271 + (c4 + 1) * 69621) % 2147483647) ((c3 * 48271 + (c4 + 1) * 69621) % 2147483647 / 1009 + 40692) (by omega)
      have := fin 0 pos hp
      revert this
      simp [at0, at1, at2, at3, at4, h2, hm, hb, ix5, tapeD, hlt, mk', mo]
end Dl
/-! DlQ: lists. -/
namespace Dl
open PySem PySem.Spec PyProof.Rows L2 NdefX
section
variable {α : Type} {l : List α}
theorem atI_get {k : Nat} (h : k < l.length) : atI l (k : Int) = some l[k] := by
  rw [atI_nat (by omega) (by omega)]
  simp [h]
theorem ixN_get {n k : Nat} (h : k < n) : ixN n (k : Int) = some k := by
  unfold ixN
  rw [if_pos (by omega), if_pos (by omega)]
  rfl
theorem cutD_to {k : Nat} : cutD l none (some (k : Int)) = l.take k := by
  unfold cutD
  rw [HT.sIx_none, HT.sIx_nat]
  simp only [List.drop_zero, Nat.sub_zero]
  by_cases h : k ≤ l.length
  · rw [Nat.min_eq_left h]
  · rw [Nat.min_eq_right (by omega), List.take_of_length_le (Nat.le_refl _), List.take_of_length_le (by omega)]
theorem cutD_from {k : Nat} : cutD l (some (k : Int)) none = l.drop k := by
  unfold cutD
  rw [HT.sIx_none, HT.sIx_nat]
  by_cases h : k ≤ l.length
  · rw [Nat.min_eq_left h, List.take_of_length_le (by simp)]
  · rw [Nat.min_eq_right (by omega), List.drop_of_length_le (Nat.le_refl _), List.drop_of_length_le (by omega)]
    simp
theorem rngD_nat (n : Nat) : rngD 0 (n : Int) = (List.range n).map fun (i : Nat) => D.int (i : Int) := by
  unfold rngD
  simp
end
end Dl
/-! DlV: tables of code objects: what the walk with closures needs. -/
namespace Dl
open PySem PySem.Spec PyProof.Rows L2 NdefX
/-- code object, its table, the closure's qualified name -/
abbrev Cts : Type := List (Addr × Addr × Str)
abbrev TT (nd : Nat → Option ND) (cts : Cts) : Tbs := ⟨(cts.map (·.2)).map fun p => (p.1, fun _ _ => p.2), nd⟩
theorem tt_tabs {nd : Nat → Option ND} (cts : Cts) : (TT nd cts).tabs = (cts.map (·.2)).map fun p => (p.1, fun _ _ => p.2) := rfl
theorem tt_mem {nd : Nat → Option ND} {cts : Cts} {P : Addr} {q : Str} (h : (P, q) ∈ cts.map (·.2)) : ((P, fun _ _ => q) : NTab) ∈ (TT nd cts).tabs := List.mem_map.mpr ⟨(P, q), h, rfl⟩
theorem tt_uni {nd : Nat → Option ND} {cts : Cts} {P : Addr} {q : Str} (h : ∀ p ∈ cts.map (·.2), p.1 = P → p.2 = q) : ∀ p ∈ (TT nd cts).tabs, p.1 = P → p.2 = fun _ _ => q := fun p hp e => by
  obtain ⟨z, hz, rfl⟩ := List.mem_map.mp hp
  funext a b
  exact h z hz e
structure Makes (base : Heap) (mg : Str → Option Value) (cts : Cts) : Prop where
  tb : ∀ p ∈ cts, LamX.TabB base mg p.1 p.2.1
  un : ∀ p ∈ cts, ∀ q ∈ cts, p.2.1 = q.2.1 → p.2.2 = q.2.2
theorem Makes.mem {base : Heap} {mg : Str → Option Value} {cts : Cts} {c P : Addr} {q : Str} (_ : Makes base mg cts) (h : (c, P, q) ∈ cts) : (P, q) ∈ cts.map (·.2) := List.mem_map.mpr ⟨_, h, rfl⟩
theorem Makes.uni {base : Heap} {mg : Str → Option Value} {cts : Cts} {c P : Addr} {q : Str} (B : Makes base mg cts) (h : (c, P, q) ∈ cts) : ∀ p ∈ cts.map (·.2), p.1 = P → p.2 = q := fun p hp e => by
  obtain ⟨z, hz, rfl⟩ := List.mem_map.mp hp
  exact B.un z hz _ h e
theorem lasts_tt : Lasts (fun _ _ _ _ => True) := fun _ _ _ _ _ _ _ _ _ => trivial
theorem fr_of {fr : List Str} {ns : List (Str × NameKind)} (h : (ns.all fun y => !decide (y.2 = .free) || decide (y.1 ∈ fr)) = true) {y : Str} (hy : (y, NameKind.free) ∈ ns) : y ∈ fr := by
  have q := List.all_eq_true.mp h _ hy
  simp only [decide_true, Bool.not_true, Bool.false_or, decide_eq_true_eq] at q
  exact q
theorem own_of {l : List Str} {f : Str → Bool} (h : (l.all f) = true) {y : Str} (hy : y ∈ l) : f y = true := List.all_eq_true.mp h _ hy
theorem clos_zero {P : Program} {w : PySem.World} {K : PySem.W.Frag} {mg : Str → Option Value} {base : Heap} {T : Tbs} {tbl : Nat → Option DefB} : Clos P w K mg base T (Den tbl 0) 0 := fun i nd caps _ _ => by
  have no : ∀ ws vs H Q E, ¬ spC ⟨K, mg, T⟩ ((Den tbl 0).call i) caps ws vs H Q E := fun ws vs H Q E h => by
    obtain ⟨_, _, _, _, _, _, _, _, _, _, q⟩ := h
    exact q
  exact ⟨fun ws vs H Q E h => absurd h (no ws vs H Q E), fun f cl c' A outer s H us vs ws Q E _ _ _ _ _ _ h => absurd h (no ws vs H Q E)⟩
def stAt (i : Nat) (b : List Stmt) : Stmt := b.getD i (.Pass ⟨0, 0, 0, 0⟩)
/-- the first lambda in an expression, in the calls and tuples of it -/
def lamE : Nat → Expr → Option Expr
  | 0, _ => none
  | n + 1, e => match e with
    | .Lambda a b s p => some (.Lambda a b s p)
    | .Call f es _ _ => (f :: es).findSome? (lamE n)
    | .Tuple es _ _ => es.findSome? (lamE n)
    | _ => none
def lamIn (b : List Stmt) : Option Expr := b.findSome? fun st => match st with
  | .Return (some e) _ => lamE 8 e
  | _ => none
def ndLam (o : Option Expr) (q : Str) (ps fr : List Str) : ND := match o with
  | some (.Lambda a b s _) => ⟨"<lambda>", q, a, .inr b, s, ps, fr⟩
  | _ => ⟨"<lambda>", q, defArgs (.Pass ⟨0, 0, 0, 0⟩), .inl [], defScope (.Pass ⟨0, 0, 0, 0⟩), ps, fr⟩
end Dl
/-! DlX: max and min of a list. -/
namespace Dl
open PySem PySem.Spec PyProof.Rows L2 NdefX
def maxI : Int → List Int → Int
  | x, [] => x
  | x, y :: l => maxI (if y > x then y else x) l
def minI : Int → List Int → Int
  | x, [] => x
  | x, y :: l => minI (if y < x then y else x) l
theorem maxI_ge : ∀ (l : List Int) (x : Int), x ≤ maxI x l ∧ (∀ y ∈ l, y ≤ maxI x l) ∧ (maxI x l = x ∨ maxI x l ∈ l)
  | [], x => ⟨Int.le_refl _, by simp, .inl rfl⟩
  | y :: l, x => by
    obtain ⟨h1, h2, h3⟩ := maxI_ge l (if y > x then y else x)
    simp only [maxI]
    have a : x ≤ (if y > x then y else x) ∧ y ≤ (if y > x then y else x) ∧ ((if y > x then y else x) = x ∨ (if y > x then y else x) = y) := by
      split <;> omega
    refine ⟨by omega, fun z hz => ?_, ?_⟩
    · rcases List.mem_cons.mp hz with rfl | hz
      · omega
      · exact h2 z hz
    · rcases h3 with h | h
      · rcases a.2.2 with q | q
        · left; omega
        · right; rw [h, q]; exact .head _
      · exact .inr (.tail _ h)
theorem minI_le : ∀ (l : List Int) (x : Int), minI x l ≤ x ∧ (∀ y ∈ l, minI x l ≤ y) ∧ (minI x l = x ∨ minI x l ∈ l)
  | [], x => ⟨Int.le_refl _, by simp, .inl rfl⟩
  | y :: l, x => by
    obtain ⟨h1, h2, h3⟩ := minI_le l (if y < x then y else x)
    simp only [minI]
    have a : (if y < x then y else x) ≤ x ∧ (if y < x then y else x) ≤ y ∧ ((if y < x then y else x) = x ∨ (if y < x then y else x) = y) := by
      split <;> omega
    refine ⟨by omega, fun z hz => ?_, ?_⟩
    · rcases List.mem_cons.mp hz with rfl | hz
      · omega
      · exact h2 z hz
    · rcases h3 with h | h
      · rcases a.2.2 with q | q
        · left; omega
        · right; rw [h, q]; exact .head _
      · exact .inr (.tail _ h)
theorem max_is {x m : Int} {l : List Int} (hm : m ∈ x :: l) (h : ∀ y ∈ x :: l, y ≤ m) : m = maxI x l := by
  obtain ⟨h1, h2, h3⟩ := maxI_ge l x
  have a : maxI x l ≤ m := by
    rcases h3 with q | q
    · rw [q]; exact h x (.head _)
    · exact h _ (.tail _ q)
  have b : m ≤ maxI x l := by
    rcases List.mem_cons.mp hm with rfl | q
    · exact h1
    · exact h2 m q
  omega
theorem min_is {x m : Int} {l : List Int} (hm : m ∈ x :: l) (h : ∀ y ∈ x :: l, m ≤ y) : m = minI x l := by
  obtain ⟨h1, h2, h3⟩ := minI_le l x
  have a : m ≤ minI x l := by
    rcases h3 with q | q
    · rw [q]; exact h x (.head _)
    · exact h _ (.tail _ q)
  have b : minI x l ≤ m := by
    rcases List.mem_cons.mp hm with rfl | q
    · exact h1
    · exact h2 m q
  omega
def cMax1 : List D → Option RV
  | [.lst l] => (match intsOf l with
    | some (x :: r) => some (.dat (.int (maxI x r)))
    | _ => none)
  | _ => none
def cMin1 : List D → Option RV
  | [.lst l] => (match intsOf l with
    | some (x :: r) => some (.dat (.int (minI x r)))
    | _ => none)
  | _ => none
section
variable {X : Cx}
theorem cs_max1 (hc : X.calm = true) : CaS X (.builtin "max") cMax1 := by
  refine ⟨_, cr_max hc, fun xs ds rv H F fh nt p h Q q => ?_⟩
  unfold cMax1 at h
  split at h
  · rename_i l
    split at h
    · rename_i x r e
      simp only [Option.some.injEq] at h; subst h
      cases p with
      | cons h1 h2 =>
        cases h2
        obtain ⟨hz, a, vs, e1, h3, h4⟩ := h1
        subst e1
        rw [ints_at h4 e] at h3
        exact ⟨a, x :: r, rfl, h3, by simp, fun m hm hy => by rw [max_is hm hy]; exact new_val fh nt q (.int _)⟩
    · cases h
  · cases h
theorem cs_min1 (hc : X.calm = true) : CaS X (.builtin "min") cMin1 := by
  refine ⟨_, cr_min hc, fun xs ds rv H F fh nt p h Q q => ?_⟩
  unfold cMin1 at h
  split at h
  · rename_i l
    split at h
    · rename_i x r e
      simp only [Option.some.injEq] at h; subst h
      cases p with
      | cons h1 h2 =>
        cases h2
        obtain ⟨hz, a, vs, e1, h3, h4⟩ := h1
        subst e1
        rw [ints_at h4 e] at h3
        exact ⟨a, x :: r, rfl, h3, by simp, fun m hm hy => by rw [min_is hm hy]; exact new_val fh nt q (.int _)⟩
    · cases h
  · cases h
end
/-! ### a list that is not changed any more -/
def dFrz (e : Ex) : Ex := fun env w => (e env w).bind fun r w1 => match r.arg with
  | some (.dat d) => .ok (.dat d) w1
  | _ => .stuck
section
variable {X : Cx} {T : Tbs} {Wi : WX} {e : Expr} {d : Ex}
theorem frz_read {σ : St} {H : Hp} {Q : VK} (q : tD (Cx.tx X T) Wi (dFrz d) σ H Q) : tD (Cx.tx X T) Wi d σ H Q := by
  obtain ⟨B, env, w, F, O, M, s, q⟩ := q
  refine ⟨B, env, w, F, O, M, s, q.bind.imp fun r w1 q1 v H1 F1 M1 s1 st1 r1 => ?_⟩
  split at q1
  · rename_i x ex
    obtain ⟨F2, s2, st2, a2⟩ := keep_arg s s1 st1 r1 ex
    exact q1 v H1 F2 M1 s2 st2 a2
  · exact q1.elim
theorem je_frz (h : JE X T Wi e d) : JE X T Wi e (dFrz d) := h.impD fun σ H Q q => frz_read q
@[simp] theorem dFrz_ap {env : Ev} {w : World} : dFrz d env w = (d env w).bind fun r w1 => match r.arg with
  | some (.dat d) => .ok (.dat d) w1
  | _ => .stuck := rfl
end
section
variable {X : Cx} {T : Tbs} {Wi : WX} {pos : Pos}
theorem js_setCF {i : Nat} {y : Str} {py spos : Pos} {elt tg iter : Expr} {ifs : List Expr} {scope : Scope} {own : List (Str × Nat)} {src : Src} {g : Tgt} {tt : Tst} {de : Ex} {us vs : List Nat} (hc : X.calm = true) (hN : X.N.Nodup) (hy : X.N[i]? = some y) (hyl : X.env.scope.names.lookup y = some .local)
    (hsw : swapsWith (.ListComp elt [⟨tg, iter, ifs, 0⟩] scope pos) (some (.Name y py)) spos.line X.env = pure true) (hi : JI X T Wi tg iter src) (ok : BlkOk X.N X.env.scope scope own) (hv : own.map (·.2) = vs) (hvs : ∀ i ∈ us, i ∈ vs)
    (hg : ∀ (s : Shared) (H : Hp) (C : Addr) (cl : List (Str × Addr)) (fp : List Addr), JG (X.blk s H scope (compEnvC scope cl C X.env) fp) T tg g us)
    (ht : ∀ (s : Shared) (H : Hp) (C : Addr) (cl : List (Str × Addr)) (fp : List Addr), JTs (X.blk s H scope (compEnvC scope cl C X.env) fp) T ifs tt)
    (he : ∀ (s : Shared) (H : Hp) (C : Addr) (cl : List (Str × Addr)) (fp : List Addr), JE (X.blk s H scope (compEnvC scope cl C X.env) fp) T noW elt de) (hs : ∀ x, foldedSetIterable iter X.env x = pure x := by intro _; rfl) :
    JS X T Wi (.Assign [.Name y py] (.ListComp elt [⟨tg, iter, ifs, 0⟩] scope pos) spos) (sSet i (dFrz (dComp src vs g tt de))) := by
  subst hv
  exact (js_setComp hc hN hy hyl hsw hi ok hvs hg ht he hs).impD fun D σ H q => frz_read (set_read q)
end
end Dl
/-! DlY: get with a default, two names at once. -/
namespace Dl
open PySem PySem.Spec PyProof.Rows L2 NdefX
section
variable {X : Cx} {T : Tbs} {Wi : WX} {a f : Expr} {da : Ex} {pos : Pos}
theorem je_getK2 {x : Str} {t : List (Str × D)} {c : V} {p0 apos : Pos} (D : TabAt X.K X.w X.mg x t) (hg : Gl X x) (ha : JE X T Wi a da) (hf : PE X f (tC c)) (m : M2 X (.Name x p0) "get" apos a f pos := by exact ⟨rfl, rfl, rfl, rfl⟩) (hd : (x == ("__debug__" : Str)) = false := by decide) :
    JE X T Wi (.Call (.Attribute (.Name x p0) "get" apos) [a, f] [] pos) (dUn (gGetK t) da) := by
  obtain ⟨l, es, n, hx, kd, hv⟩ := D.ex
  refine ⟨fun pins s σ H Q I q => ?_⟩
  have q := un_read (r := fun x H1 Q => ∃ z v u, x = .str z ∧ PySem.W.nsIn X.K l z = some (some u) ∧ RelV v u ∧ Q v H1) (fun x d rv H F fh nt rx h Q q => ?_) q
  · refine wpAny_Call_method m.base m.few m.line PySem.F.plainAttrs_dict PySem.F.slot_dict_get PySem.F.type_dict_get (thn ((pe_glob (v := .ref l) hg hx rfl hd).run pins s σ H (fun v H' => v = .ref l ∧ H' = H) I ⟨rfl, rfl⟩) fun u s1 ⟨x, H1, I1, rx, ex, eh⟩ => ?_)
    subst ex eh
    obtain rfl : u = Value.ref l := rx
    have mo := PySem.W.mapOf_K (prog := X.prog) (w := X.w) I1.kIn kd.at_ kd.lit
    refine ⟨mo.typeIs, fun b e => ?_, ?_⟩
    · cases e
      exact ⟨_, I1.kIn _ _ kd.at_, rfl⟩
    rw [m.trees]
    refine Calls.callWith_builtin rfl (Calls.evalArgs_plain (Calls.spliced_cons (thn (ha.run pins s1 σ H1 _ I1 q) fun iv s2 ⟨y, H2, I2, ry, z, v, u, ez, en, rv, q2⟩ =>
      Calls.spliced_cons (thn (hf.run pins s2 σ H2 (fun _ H3 => Q v H3) I2 q2) fun fv s3 ⟨c', H3, I3, rc, q3⟩ => Calls.spliced_nil ?_))))
    subst ez
    obtain ⟨t, rfl⟩ := (show ∃ t, iv = Value.str z t from ry)
    have mo2 := PySem.W.mapOf_K (prog := X.prog) (w := X.w) I3.kIn kd.at_ kd.lit
    refine call_meetsIn PySem.F.slot_dict_get mo2.typeIs PySem.F.entry_dict_get (PySem.F.args_dict_get_3 _ _ _) (meets_dict_get_default (PySem.strKind X.prog X.w) l (PySem.strKind_is X.prog X.w z t) kd.low fv) ⟨_, mo2, ?_⟩
    rw [PySem.W.find_K kd.at_ en]
    exact ⟨v, H3, I3.tok _, rv, q3⟩
  · cases d <;> first | (simp only [gGetK] at h; cases h; done) | skip
    rename_i z
    cases rx
    simp only [gGetK] at h
    split at h
    · rename_i i e
      cases h
      obtain ⟨u, e1, e2⟩ := hv _ (lookup_mem e)
      exact ⟨z, .int i, u, rfl, e1, e2, new_val fh nt q (.int i)⟩
    · rename_i i e
      cases h
      obtain ⟨u, e1, e2⟩ := hv _ (lookup_mem e)
      exact ⟨z, .bl i, u, rfl, e1, e2, new_val fh nt q (.bl i)⟩
    · cases h
/-- x, y = a, b -/
def sPar (i j : Nat) (es : Exs) : Sd := fun env w => (es env w).bind fun rs w1 => match rs with
  | [.dat x, .dat y] => .ok (.nx ((env.set i (.dat x)).set j (.dat y))) w1
  | _ => .stuck
theorem js_par {i j : Nat} {x y : Str} {a b : Expr} {es : Exs} {px py pt : Pos} {kt k2 pt2} (hc : X.calm = true) (hN : X.N.Nodup) (hi : X.N[i]? = some x) (hj : X.N[j]? = some y) (hij : i ≠ j)
    (hx : X.env.scope.names.lookup x = some .local) (hy : X.env.scope.names.lookup y = some .local) (ha : JA X T Wi [a, b] es)
    (hw : swappedStores [.Tuple [.Name x px, .Name y py] kt pt] (.Tuple [a, b] k2 pt2) X.env = pure (some [x, y]))
    (hs : swapsWithSole [.Tuple [.Name x px, .Name y py] kt pt] (.Tuple [a, b] k2 pt2) pos.line X.env = pure false := by rfl) :
    JS X T Wi (.Assign [.Tuple [.Name x px, .Name y py] kt pt] (.Tuple [a, b] k2 pt2) pos) (sPar i j es) := by
  refine (ps_par hc hN hi hj hij hx hy ha hw hs).impD fun D σ H q => ?_
  obtain ⟨B, env, w, F, O, M, s, q⟩ := q
  refine ⟨B, env, w, F, O, M, s, q.bind.imp fun rs w1 q1 vs H1 F1 M1 s1 st1 pa => ?_⟩
  split at q1
  · rename_i d1 d2
    cases pa with
    | cons h1 t =>
      cases t with
      | cons h2 t =>
        cases t
        exact ⟨_, _, rfl, q1 _ H1 F1 O M1 ((s1.setDat h1).setDat h2) st1.fg⟩
  · exact q1.elim
@[simp] theorem sPar_ap {i j : Nat} {es : Exs} {env : Ev} {w : World} : sPar i j es env w = (es env w).bind fun rs w1 => match rs with
  | [.dat x, .dat y] => .ok (.nx ((env.set i (.dat x)).set j (.dat y))) w1
  | _ => .stuck := rfl
end
end Dl
/-! DlZ: the order of nested tuples whose first difference can be told. -/
namespace Dl
open PySem PySem.Spec PyProof.Rows PySem.SeqAt PySem.W
open AutoSeq1 (wpAny_loadPart')
open MeetsSeq MeetsSeq2 MeetsSeq3 SeqRoads2
/-- the first places that differ, and what their order is -/
inductive First (A : Around) (s : Shared) : List Value → List Value → Bool → Prop
  | end0 : First A s [] [] false
  | endL {y : Value} {ws : List Value} : First A s [] (y :: ws) true
  | endR {x : Value} {us : List Value} : First A s (x :: us) [] false
  | same {x y : Value} {us ws : List Value} {k : Bool} : EqAt A s x y true → First A s us ws k → First A s (x :: us) (y :: ws) k
  | diff {x y : Value} {us ws : List Value} {k : Bool} : EqAt A s x y false → RcLt A s x y k → First A s (x :: us) (y :: ws) k
theorem First.stop {A : Around} {s : Shared} {us ws : List Value} {k : Bool} (h : First A s us ws k) (e : us = [] ∨ ws = []) : k = decide (us.length < ws.length) := by
  cases h with
  | end0 => rfl
  | endL => simp
  | endR => simp
  | same _ _ => rcases e with e | e <;> cases e
  | diff _ _ => rcases e with e | e <;> cases e
theorem tup_first (l b : Addr) (xs ys : Array Value) (n m : Nat) (dx dy : Option Addr) (sx sy : Array (Option Value)) (k : Bool) :
    Meets (Builtin.«tuple.__lt__» ⟨[.ref l, .ref b], []⟩)
      (fun A R s => s.heap.get? l = some { cls := .type "tuple", dict := dx, data := .seq xs n, slots := sx } ∧ s.heap.get? b = some { cls := .type "tuple", dict := dy, data := .seq ys m, slots := sy } ∧
        First A.in1 s xs.toList ys.toList k ∧ R (.ok (.ret (.bool k))) s) :=
  .of_wp fun prog w A R s hall => by
    obtain ⟨hp, g, d, tk, os⟩ := s
    obtain ⟨hl, hb, hF, hR⟩ := hall
    have sub := AutoSeq1.sub_tuple_tuple
    wp_walk using wpAny_loadPart' hl, wpAny_loadPart' hb, wpAny_forIn_list _ (fun rest c s' => c.1 = none ∧ s' = ⟨hp, g, d, tk, os⟩ ∧
      ∃ us ws, rest = us.zip ws ∧ First A.in1 ⟨hp, g, d, tk, os⟩ us ws k ∧ xs.size + ws.length = ys.size + us.length) _
    case turn =>
      rintro ⟨y, x⟩ rest c s' ⟨hc, rfl, us, ws, hz, hf, hs⟩
      cases hf with
      | end0 => cases hz
      | endL => cases hz
      | endR => cases hz
      | same he ht =>
        simp only [List.zip_cons_cons, List.cons.injEq, Prod.mk.injEq] at hz
        obtain ⟨⟨rfl, rfl⟩, hr⟩ := hz
        refine wpAny_bind (he prog w _ _ ?_)
        wp_walk
        exact ⟨rfl, rfl, _, _, hr, ht, by simp at hs; omega⟩
      | diff he hk =>
        simp only [List.zip_cons_cons, List.cons.injEq, Prod.mk.injEq] at hz
        obtain ⟨⟨rfl, rfl⟩, hr⟩ := hz
        have hk' := fun E Q q => hk prog w E Q q
        refine wpAny_bind (he prog w _ _ ?_)
        generalize richCompare CmpOp.Lt y x = P at hk' ⊢
        wp_walk
        refine hk' _ _ ?_
        wp_walk
        exact ⟨_, rfl, hR⟩
    case fin =>
      rintro ⟨c1, c2⟩ s' ⟨hc, rfl, us, ws, hz, hf, hs⟩
      simp only at hc
      subst hc
      have e : us = [] ∨ ws = [] := by
        cases us with
        | nil => exact .inl rfl
        | cons _ _ =>
          cases ws with
          | nil => exact .inr rfl
          | cons _ _ => simp at hz
      have ek := hf.stop e
      have e2 : decide (us.length < ws.length) = decide (xs.size < ys.size) := decide_eq_decide.mpr (by omega)
      rw [ek, e2] at hR
      wp_walk
      exact ⟨_, rfl, by simpa [Builtin.Tuple.tupleCompareSizes] using hR⟩
    case h =>
      exact ⟨rfl, rfl, _, _, rfl, hF, by simp; omega⟩
theorem rcLt_first {A : Around} {s : Shared} {l b : Addr} {xs ys : Array Value} {k : Bool} (hl : s.heap.IsTuple l xs) (hb : s.heap.IsTuple b ys) (hu : A.units < cLine) (hF : First A.in1 s xs.toList ys.toList k) :
    RcLt A s (.ref l) (.ref b) k := fun prog w E Q q => by
  obtain ⟨⟨c1, d1, t1, s1⟩, e1, e2, n, e3⟩ := id hl
  obtain ⟨⟨c2, d2, t2, s2⟩, f1, f2, m, f3⟩ := id hb
  simp only at e2 e3 f2 f3
  subst e2 e3 f2 f3
  exact richCompare_meets_room (op := .Lt) ⟨_, e1, rfl⟩ ⟨_, f1, rfl⟩ F.slot_tuple_lt F.entry_tuple_lt (F.args_tuple_lt_2 _ _) (tup_first l b xs ys n m d1 d2 s1 s2 k)
    ⟨e1, f1, hF, show Value.bool k ≠ Value.notImplemented ∧ Q (.bool k) s from ⟨(fun x => nomatch x), q⟩⟩ hu
/-! ### of data -/
mutual
def pLt : PyData → PyData → Option Bool
  | .int i, .int j => some (decide (i < j))
  | .str x, .str y => some (decide (x.cps.toList < y.cps.toList))
  | .tuple k, .tuple l => pLts k l
  | _, _ => none
def pLts : List PyData → List PyData → Option Bool
  | [], [] => some false
  | [], _ :: _ => some true
  | _ :: _, [] => some false
  | x :: k, y :: l => if PyData.eqv x y = true then pLts k l else pLt x y
end
mutual
theorem pLt_rc : ∀ (d e : PyData) (A : Around) (s : Shared) (a b : Value) (as bs : List Addr) (k : Bool), Reads s.heap a d as → Reads s.heap b e bs → d.canLay0 = true → e.canLay0 = true → A.units + min d.depth e.depth < cLine → pLt d e = some k → RcLt A s a b k
  | .none, e, _, _, _, _, _, _, _, _, _, _, _, _, h => by cases e <;> simp [pLt] at h
  | .bool _, e, _, _, _, _, _, _, _, _, _, _, _, _, h => by cases e <;> simp [pLt] at h
  | .list _, e, _, _, _, _, _, _, _, _, _, _, _, _, h => by cases e <;> simp [pLt] at h
  | .dict _, e, _, _, _, _, _, _, _, _, _, _, _, _, h => by cases e <;> simp [pLt] at h
  | .int i, e, A, s, a, b, as, bs, k, ra, rb, _, _, _, h => by
    cases e with
    | int j =>
      simp only [pLt, Option.some.injEq] at h
      subst h
      cases ra
      cases rb
      intro prog w E Q hq
      exact P.lt_int hq
    | _ => simp [pLt] at h
  | .str x, e, A, s, a, b, as, bs, k, ra, rb, _, _, _, h => by
    cases e with
    | str y =>
      simp only [pLt, Option.some.injEq] at h
      subst h
      cases ra
      cases rb
      intro prog w E Q hq
      exact P.lt_str hq
    | _ => simp [pLt] at h
  | .tuple xs, e, A, s, a, b, as, bs, k, ra, rb, ca, cb, hu, h => by
    cases e with
    | tuple ys =>
      simp only [pLt] at h
      cases ra with
      | tuple h1 h2 h3 h4 =>
        cases rb with
        | tuple k1 k2 k3 k4 =>
          exact rcLt_first ⟨_, h1, h2, _, h3⟩ ⟨_, k1, k2, _, k3⟩ (room_here hu) (pLts_first xs ys A.in1 s _ _ _ _ k h4 k4 ca cb (room_in hu) h)
    | _ => simp [pLt] at h
theorem pLts_first : ∀ (xs ys : List PyData) (A : Around) (s : Shared) (vs ws : List Value) (as bs : List Addr) (k : Bool), ReadsAll s.heap vs xs as → ReadsAll s.heap ws ys bs → PyData.canLayAll0 xs = true → PyData.canLayAll0 ys = true →
    A.units + min (PyData.depthAll xs) (PyData.depthAll ys) < cLine → pLts xs ys = some k → First A s vs ws k
  | [], [], _, _, _, _, _, _, _, ra, rb, _, _, _, h => by
    cases ra; cases rb
    simp only [pLts, Option.some.injEq] at h
    subst h
    exact .end0
  | [], y :: ys, _, _, _, _, _, _, _, ra, rb, _, _, _, h => by
    cases ra; cases rb
    simp only [pLts, Option.some.injEq] at h
    subst h
    exact .endL
  | x :: xs, [], _, _, _, _, _, _, _, ra, rb, _, _, _, h => by
    cases ra; cases rb
    simp only [pLts, Option.some.injEq] at h
    subst h
    exact .endR
  | x :: xs, y :: ys, A, s, _, _, _, _, k, ra, rb, ha, hb, hu, h => by
    have ha' : x.canLay0 = true ∧ PyData.canLayAll0 xs = true := by simpa [PyData.canLayAll0] using ha
    have hb' : y.canLay0 = true ∧ PyData.canLayAll0 ys = true := by simpa [PyData.canLayAll0] using hb
    cases ra with
    | cons r rs =>
      cases rb with
      | cons r' rs' =>
        have q := eqAt_reads x y A s _ _ _ _ r r' ha'.1 hb'.1 (room_head hu)
        rw [pLts] at h
        cases hx : PyData.eqv x y with
        | true =>
          rw [hx, if_pos rfl] at h
          rw [hx] at q
          exact .same q (pLts_first xs ys A s _ _ _ _ k rs rs' ha'.2 hb'.2 (room_tail hu) h)
        | false =>
          rw [hx, if_neg (by simp)] at h
          rw [hx] at q
          exact .diff q (pLt_rc x y A s _ _ _ _ k r r' ha'.1 hb'.1 (room_head hu) h)
end
/-! ### as rows of signs -/
def tokLt (d e : PyData) : Bool := PyProof.Rows.lexLt itemOrd (keyToks d) (keyToks e)
mutual
theorem eqv_toks : ∀ x y : PyData, PyData.eqv x y = true → keyToks x = keyToks y
  | .none, y, h => by cases y <;> simp_all [PyData.eqv, keyToks]
  | .bool a, y, h => by
    cases y <;> simp_all [PyData.eqv, keyToks] <;> (cases a <;> simp_all <;> omega)
  | .int a, y, h => by
    cases y with
    | bool b => cases b <;> simp_all [PyData.eqv, keyToks] <;> omega
    | _ => simp_all [PyData.eqv, keyToks]
  | .str a, y, h => by cases y <;> simp_all [PyData.eqv, keyToks]
  | .list xs, y, h => by
    cases y with
    | list ys => simp only [keyToks]; exact eqvAll_toks xs ys (by simpa [PyData.eqv] using h)
    | _ => simp [PyData.eqv] at h
  | .tuple xs, y, h => by
    cases y with
    | tuple ys => simp only [keyToks]; exact eqvAll_toks xs ys (by simpa [PyData.eqv] using h)
    | _ => simp [PyData.eqv] at h
  | .dict _, y, h => by cases y <;> simp_all [PyData.eqv, keyToks]
theorem eqvAll_toks : ∀ xs ys : List PyData, PyData.eqvAll xs ys = true → keyToksAll xs = keyToksAll ys
  | [], [], _ => rfl
  | [], _ :: _, h => by simp [PyData.eqvAll] at h
  | _ :: _, [], h => by simp [PyData.eqvAll] at h
  | x :: xs, y :: ys, h => by
    have h' : PyData.eqv x y = true ∧ PyData.eqvAll xs ys = true := by simpa [PyData.eqvAll] using h
    rw [toks_all_cons, toks_all_cons, eqv_toks x y h'.1, eqvAll_toks xs ys h'.2]
end
mutual
theorem pLt_toks : ∀ (x y : PyData) (k : Bool), pLt x y = some k → PyData.eqv x y = false → ∀ l m, PyProof.Rows.lexLt itemOrd (keyToks x ++ l) (keyToks y ++ m) = k
  | .none, y, _, h, _ => by cases y <;> simp [pLt] at h
  | .bool _, y, _, h, _ => by cases y <;> simp [pLt] at h
  | .list _, y, _, h, _ => by cases y <;> simp [pLt] at h
  | .dict _, y, _, h, _ => by cases y <;> simp [pLt] at h
  | .int i, y, k, h, e => by
    cases y with
    | int j =>
      simp only [pLt, Option.some.injEq] at h
      subst h
      intro l m
      have hne : i ≠ j := fun q => by subst q; simp [PyData.eqv] at e
      simp only [keyToks, List.cons_append, List.nil_append]
      rw [lex_diff (O := itemOrd) (fun q => hne (Sum.inl.inj q))]
      rfl
    | _ => simp [pLt] at h
  | .str x, y, k, h, e => by
    cases y with
    | str z =>
      simp only [pLt, Option.some.injEq] at h
      subst h
      intro l m
      have hne : x ≠ z := fun q => by subst q; simp [PyData.eqv] at e
      simp only [keyToks, List.cons_append, List.nil_append]
      rw [lex_diff (O := itemOrd) (fun q => hne (str_of_cps (Sum.inr.inj q)))]
      rfl
    | _ => simp [pLt] at h
  | .tuple xs, y, k, h, e => by
    cases y with
    | tuple ys =>
      simp only [pLt] at h
      simp only [keyToks]
      exact (pLts_toks xs ys k h).2 (by simpa [PyData.eqv] using e)
    | _ => simp [pLt] at h
theorem pLts_toks : ∀ (xs ys : List PyData) (k : Bool), pLts xs ys = some k → PyProof.Rows.lexLt itemOrd (keyToksAll xs) (keyToksAll ys) = k ∧ (PyData.eqvAll xs ys = false → ∀ l m, PyProof.Rows.lexLt itemOrd (keyToksAll xs ++ l) (keyToksAll ys ++ m) = k)
  | [], [], k, h => by
    simp only [pLts, Option.some.injEq] at h
    subst h
    exact ⟨lex_irrefl _, fun e => by simp [PyData.eqvAll] at e⟩
  | [], y :: ys, k, h => by
    simp only [pLts, Option.some.injEq] at h
    subst h
    rw [toks_all_cons]
    simp only [keyToksAll, List.cons_append, List.nil_append]
    refine ⟨?_, fun _ l m => ?_⟩ <;> (rw [lex_diff (O := itemOrd) (by simp)]; rfl)
  | x :: xs, [], k, h => by
    simp only [pLts, Option.some.injEq] at h
    subst h
    rw [toks_all_cons]
    simp only [keyToksAll, List.cons_append, List.nil_append]
    refine ⟨?_, fun _ l m => ?_⟩ <;> (rw [lex_diff (O := itemOrd) (by simp)]; rfl)
  | x :: xs, y :: ys, k, h => by
    rw [pLts] at h
    rw [toks_all_cons, toks_all_cons, eqv_all_cons]
    cases hx : PyData.eqv x y with
    | true =>
      rw [hx, if_pos rfl] at h
      obtain ⟨b1, b2⟩ := pLts_toks xs ys k h
      rw [eqv_toks x y hx, Bool.true_and]
      refine ⟨(lex_self (O := itemOrd) _ _ _).trans ((lex_pre _ _ _).trans b1), fun e l m => ?_⟩
      simp only [List.cons_append, List.append_assoc]
      exact (lex_self (O := itemOrd) _ _ _).trans ((lex_pre _ _ _).trans (b2 e l m))
    | false =>
      rw [hx, if_neg (by simp)] at h
      have a := pLt_toks x y k h hx
      refine ⟨(lex_self (O := itemOrd) _ _ _).trans (a _ _), fun _ l m => ?_⟩
      simp only [List.cons_append, List.append_assoc]
      exact (lex_self (O := itemOrd) _ _ _).trans (a _ _)
end
theorem pLt_tok {xs ys : List PyData} {k : Bool} (h : pLt (.tuple xs) (.tuple ys) = some k) : tokLt (.tuple xs) (.tuple ys) = k := by
  simp only [pLt] at h
  unfold tokLt
  simp only [keyToks]
  exact (pLts_toks xs ys k h).1
theorem tokLt_swo : SrtO.Swo tokLt where
  asym := fun x y h => by
    cases q : tokLt y x with
    | false => rfl
    | true =>
      have t := lex_trans (O := itemOrd) _ _ _ h q
      rw [lex_irrefl] at t
      cases t
  tr := fun x y z h1 h2 => by
    cases q : tokLt z x with
    | false => rfl
    | true =>
      rcases lex_negTrans (O := itemOrd) (keyToks z) (keyToks y) (keyToks x) q with t | t
      · rw [show tokLt z y = true from t] at h2; cases h2
      · rw [show tokLt y x = true from t] at h1; cases h1
/-! ### as sorting compares keys -/
def keyP : PyData → Bool
  | .tuple (.int _ :: _) => true
  | _ => false
section
variable {prog : Program} {w : PySem.World} {A : Around} {E : Value → Shared → Prop} {s : Shared}
theorem katLex_first {fin : Bool} {Q : Bool → Shared → Prop} : ∀ (xs ys : List PyData) (i : Nat) (vs ws : List Value) (as bs : List Addr) (k : Bool), ReadsAll s.heap vs xs as → ReadsAll s.heap ws ys bs → PyData.canLayAll0 xs = true → PyData.canLayAll0 ys = true →
    A.units + min (PyData.depthAll xs) (PyData.depthAll ys) < cLine → pLts xs ys = some k → (i = 0 → ∀ x r, xs = x :: r → ∃ n, x = .int n) → (i = 0 → ∀ x r, ys = x :: r → ∃ n, x = .int n) → fin = decide (xs.length < ys.length) → Q k s → KatLex prog w A true fin Q (vs.zip ws) i s
  | [], ys, i, _, _, _, _, k, ra, rb, _, _, _, h, _, _, hf, hq => by
    cases ra
    rw [List.zip_nil_left]
    refine kat_nil ?_
    cases ys with
    | nil => simp only [pLts, Option.some.injEq] at h; subst h; rw [hf]; simpa using hq
    | cons y ys => simp only [pLts, Option.some.injEq] at h; subst h; rw [hf]; simpa using hq
  | x :: xs, [], i, _, _, _, _, k, ra, rb, _, _, _, h, _, _, hf, hq => by
    cases rb
    rw [List.zip_nil_right]
    refine kat_nil ?_
    simp only [pLts, Option.some.injEq] at h; subst h; rw [hf]; simpa using hq
  | x :: xs, y :: ys, i, _, _, _, _, k, ra, rb, ha, hb, hu, h, i1, i2, hf, hq => by
    have ha' : x.canLay0 = true ∧ PyData.canLayAll0 xs = true := by simpa [PyData.canLayAll0] using ha
    have hb' : y.canLay0 = true ∧ PyData.canLayAll0 ys = true := by simpa [PyData.canLayAll0] using hb
    have hf' : fin = decide (xs.length < ys.length) := by
      rw [hf]
      simp only [List.length_cons, Nat.add_lt_add_iff_right]
    cases ra with
    | cons r rs =>
      cases rb with
      | cons r' rs' =>
        rw [List.zip_cons_cons]
        refine kat_cons (eqAt_reads x y A s _ _ _ _ r r' ha'.1 hb'.1 (room_head hu) prog w _ _ ?_)
        rw [pLts] at h
        cases hx : PyData.eqv x y with
        | true =>
          rw [hx, if_pos rfl] at h
          exact kat_yes (katLex_first xs ys (i + 1) _ _ _ _ k rs rs' ha'.2 hb'.2 (room_tail hu) h (fun z => absurd z (Nat.succ_ne_zero i)) (fun z => absurd z (Nat.succ_ne_zero i)) hf' hq)
        | false =>
          rw [hx, if_neg (by simp)] at h
          refine kat_no ?_
          by_cases hi : i = 0
          · subst hi
            obtain ⟨n1, rfl⟩ := i1 rfl x xs rfl
            obtain ⟨n2, rfl⟩ := i2 rfl y ys rfl
            simp only [pLt, Option.some.injEq] at h
            subst h
            cases r
            cases r'
            exact oneLt_int hq
          · have e : (true && i == 0) = false := by simp [hi]
            rw [e, oneLt'_eq]
            simp only [Bool.false_eq_true, if_false]
            exact wpAny_bind (pLt_rc x y A s _ _ _ _ k r r' ha'.1 hb'.1 (room_head hu) h prog w _ _ (wpAny_truthy_bool hq))
/-- a key's value -/
def KeyAt (h : Heap) (u : Value) : Prop := ∃ d as, Reads h u d as ∧ d.canLay0 = true ∧ keyP d = true
noncomputable def ltv (h : Heap) (u v : Value) : Bool := tokLt (readOf h u) (readOf h v)
theorem ltv_swo (h : Heap) : SrtO.Swo (ltv h) := ⟨fun x y => tokLt_swo.asym _ _, fun x y z => tokLt_swo.tr _ _ _⟩
theorem key_lt {u v : Value} {d e : PyData} {as bs : List Addr} {k : Bool} (ru : Reads s.heap u d as) (rv : Reads s.heap v e bs) (cd : d.canLay0 = true) (ce : e.canLay0 = true) (kd : keyP d = true) (ke : keyP e = true) (hu : A.units + min d.depth e.depth < cLine) (h : pLt d e = some k) :
    wpAny (model prog w) A (keyLt' (tuples' true) u v) (fun r s' => s' = s ∧ r = ltv s.heap u v) (fun _ _ => False) s := by
  have e1 : ltv s.heap u v = k := by
    unfold ltv
    rw [readOf_eq cd ru, readOf_eq ce rv]
    unfold keyP at kd ke
    split at kd
    · split at ke
      · exact pLt_tok h
      · cases ke
    · cases kd
  rw [e1]
  unfold keyP at kd ke
  split at kd
  · rename_i n1 r1
    split at ke
    · rename_i n2 r2
      cases ru with
      | tuple h1 h2 h3 h4 =>
        cases rv with
        | tuple k1 k2 k3 k4 =>
          simp only [pLt] at h
          have l1 := ReadsAll.length _ _ _ h4
          have l2 := ReadsAll.length _ _ _ k4
          refine kat_lt h1 h3 k1 k3 (katLex_first _ _ 0 _ _ _ _ k h4 k4 cd ce (by have := room_here hu; simp only [PyData.depth] at hu; omega) h (fun _ x r e => ⟨n1, by cases e; rfl⟩) (fun _ x r e => ⟨n2, by cases e; rfl⟩) ?_ ⟨rfl, rfl⟩)
          simp only [Array.length_toList] at l1 l2
          rw [l1, l2]
    · cases ke
  · cases kd
theorem keys_tups {h : Heap} : ∀ {us : List Value} {ds : List PyData} {as : List Addr}, ReadsAll h us ds as → (∀ d ∈ ds, keyP d = true) → ∃ fs : List Value, KatTups h us fs ∧ fs.length = us.length ∧ ∀ f ∈ fs, ∃ n t, f = .int n t
  | [], _, _, .nil, _ => ⟨[], .nil, rfl, by simp⟩
  | u :: us, d :: ds, _, .cons r rs, k => by
    obtain ⟨fs, h1, h2, h3⟩ := keys_tups rs fun d hd => k d (.tail _ hd)
    have kd := k d (.head _)
    unfold keyP at kd
    split at kd
    · cases r with
      | @tuple a o vs n _ _ e1 e2 e3 e4 =>
        cases hv : vs.toList with
        | nil => rw [hv] at e4; cases e4
        | cons f r =>
          have e0 : vs[0]? = some f := by
            rw [← Array.getElem?_toList, hv]; rfl
          rw [hv] at e4
          cases e4 with
          | cons q _ =>
            have ef : ∃ i t, f = Value.int i t := by
              cases q
              exact ⟨_, _, rfl⟩
            refine ⟨f :: fs, .cons e1 e2 e3 e0 h1, by simp [h2], fun g hg => ?_⟩
            rcases List.mem_cons.mp hg with rfl | hg
            · exact ef
            · exact h3 g hg
    · cases kd
theorem keys_kind {us : List Value} {ds : List PyData} {as : List Addr} {Q : SortKind → Shared → Prop} (r : ReadsAll s.heap us ds as) (k : ∀ d ∈ ds, keyP d = true) (h2 : 2 ≤ us.length) (h : Q (tuples' true) s) : wpAny (model prog w) A (keyKind' us.toArray) Q E s := by
  obtain ⟨fs, h1, hl, h3⟩ := keys_tups r k
  refine kat_kind (T := .type "int") h1 (by omega) (fun f hm => ?_) (by rfl) ?_
  · obtain ⟨x, t, rfl⟩ := h3 f hm
    exact PySem.W.Looks.now
  · have e : (Value.type "int" != Value.type "tuple") = true := by first | decide +kernel | rfl | decide
    rw [e]
    exact h
end
end Dl
/-! DlZb: sorted with a key: the machine. -/
namespace Dl
open PySem PySem.Spec PyProof.Rows L2 NdefX
open SrtO (Swo Srtd Stb lt2 eqv AllL Cmp)
/-! ### one stable sorted rearrangement -/
section
variable {α β : Type} {lt : α → α → Bool}
theorem stb_tail {x : α} {l m : List α} (h : Stb lt (x :: l) (x :: m)) : Stb lt l m := by
  refine ⟨(List.perm_cons x).mp h.perm, fun a => ?_⟩
  have q := h.cls a
  simp only [List.filter_cons] at q
  split at q
  · exact List.cons.inj q |>.2
  · exact q
theorem stb_uniq (O : Swo lt) : ∀ {l m : List α}, Srtd lt l → Srtd lt m → Stb lt l m → l = m
  | [], m, _, _, h => by rw [List.nil_perm.mp h.perm]
  | x :: l, [], _, _, h => absurd h.perm (by simp)
  | x :: l, y :: m, hl, hm, h => by
    have hx : x ∈ y :: m := h.perm.mem_iff.mp (.head _)
    have hy : y ∈ x :: l := h.perm.mem_iff.mpr (.head _)
    have e1 : lt x y = false := by
      rcases List.mem_cons.mp hx with rfl | z
      · exact O.refl x
      · exact SrtO.srtd_head hm x z
    have e2 : lt y x = false := by
      rcases List.mem_cons.mp hy with rfl | z
      · exact O.refl y
      · exact SrtO.srtd_head hl y z
    have c := h.cls x
    have f1 : eqv lt x x = true := SrtO.eqv_iff.mpr ⟨O.refl x, O.refl x⟩
    have f2 : eqv lt x y = true := SrtO.eqv_iff.mpr ⟨e1, e2⟩
    rw [List.filter_cons, List.filter_cons, if_pos f1, if_pos f2] at c
    have exy := (List.cons.inj c).1
    subst exy
    rw [stb_uniq O (List.pairwise_cons.mp hl).2 (List.pairwise_cons.mp hm).2 (stb_tail h)]
end
/-! ### sorting pairs by their first halves -/
def insK {β : Type} (x : PyData × β) : List (PyData × β) → List (PyData × β)
  | [] => [x]
  | y :: r => if tokLt y.1 x.1 = true then y :: insK x r else x :: y :: r
def sortK {β : Type} : List (PyData × β) → List (PyData × β)
  | [] => []
  | x :: l => insK x (sortK l)
abbrev ltK {β : Type} : PyData × β → PyData × β → Bool := fun p q => tokLt p.1 q.1
theorem ltK_swo {β : Type} : Swo (ltK (β := β)) := ⟨fun x y => tokLt_swo.asym _ _, fun x y z => tokLt_swo.tr _ _ _⟩
theorem insK_stb {β : Type} (x : PyData × β) : ∀ l : List (PyData × β), Stb ltK (insK x l) (x :: l)
  | [] => Stb.refl _
  | y :: r => by
    unfold insK
    split
    · rename_i h
      have a : Stb ltK ([y] ++ insK x r) ([y] ++ (x :: r)) := (Stb.refl [y]).app (insK_stb x r)
      have b : Stb ltK (([y] ++ [x]) ++ r) (([x] ++ [y]) ++ r) := (Stb.swap ltK_swo (A := [y]) (B := [x]) fun p hp q hq => by
        rw [List.mem_singleton.mp hp, List.mem_singleton.mp hq]; exact h).app (Stb.refl r)
      exact a.trans b
    · exact Stb.refl _
theorem insK_srtd {β : Type} (x : PyData × β) : ∀ {l : List (PyData × β)}, Srtd ltK l → Srtd ltK (insK x l)
  | [], _ => SrtO.srtd_one x
  | y :: r, h => by
    unfold insK
    obtain ⟨h1, h2⟩ := List.pairwise_cons.mp h
    split
    · rename_i hyx
      refine List.pairwise_cons.mpr ⟨fun z hz => ?_, insK_srtd x h2⟩
      rcases List.mem_cons.mp ((insK_stb x r).perm.mem_iff.mp hz) with rfl | hz
      · exact ltK_swo.asym _ _ hyx
      · exact h1 z hz
    · rename_i hyx
      have hyx : ltK y x = false := by simpa using hyx
      refine List.pairwise_cons.mpr ⟨fun z hz => ?_, h⟩
      rcases List.mem_cons.mp hz with rfl | hz
      · exact hyx
      · exact ltK_swo.tr x y z hyx (h1 z hz)
theorem sortK_srtd {β : Type} : ∀ l : List (PyData × β), Srtd ltK (sortK l)
  | [] => List.Pairwise.nil
  | x :: l => insK_srtd x (sortK_srtd l)
theorem sortK_stb {β : Type} : ∀ l : List (PyData × β), Stb ltK (sortK l) l
  | [] => Stb.refl _
  | x :: l => (insK_stb x (sortK l)).trans ((Stb.refl [x]).app (sortK_stb l))
theorem sortK_of {β : Type} {l m : List (PyData × β)} (h1 : Srtd ltK m) (h2 : Stb ltK m l) : m = sortK l :=
  stb_uniq ltK_swo h1 (sortK_srtd l) (h2.trans ⟨(sortK_stb l).perm.symm, fun x => ((sortK_stb l).cls x).symm⟩)
theorem insK_paired {β γ : Type} {R : β → γ → Prop} {x : PyData × β} {y : PyData × γ} (h : x.1 = y.1 ∧ R x.2 y.2) : ∀ {l : List (PyData × β)} {m : List (PyData × γ)}, Paired (fun p q => p.1 = q.1 ∧ R p.2 q.2) l m → Paired (fun p q => p.1 = q.1 ∧ R p.2 q.2) (insK x l) (insK y m)
  | [], [], .nil => .cons h .nil
  | a :: l, b :: m, .cons r t => by
    unfold insK
    rw [← h.1, ← r.1]
    split
    · exact .cons r (insK_paired h t)
    · exact .cons h (.cons r t)
theorem sortK_paired {β γ : Type} {R : β → γ → Prop} : ∀ {l : List (PyData × β)} {m : List (PyData × γ)}, Paired (fun p q => p.1 = q.1 ∧ R p.2 q.2) l m → Paired (fun p q => p.1 = q.1 ∧ R p.2 q.2) (sortK l) (sortK m)
  | [], [], .nil => .nil
  | a :: l, b :: m, .cons r t => insK_paired r (sortK_paired t)
/-! ### the machine -/
/-- what is known of the keys -/
structure KeysOk (h : Heap) (u : Nat) (us : List Value) (ds : List PyData) : Prop where
  rd : ∃ as, ReadsAll h us ds as
  lay : PyData.canLayAll0 ds = true
  key : ∀ d ∈ ds, keyP d = true
  cmp : ∀ d ∈ ds, ∀ e ∈ ds, ∃ k, pLt d e = some k
  dep : u + PyData.depthAll ds < cLine
theorem readsAll_mem {h : Heap} : ∀ {us : List Value} {ds : List PyData} {as : List Addr} {u : Value}, ReadsAll h us ds as → u ∈ us → ∃ d as', d ∈ ds ∧ Reads h u d as'
  | _, _, _, _, .nil, hu => absurd hu (by simp)
  | _, _, _, u, .cons r rs, hu => by
    rcases List.mem_cons.mp hu with rfl | hu
    · exact ⟨_, _, .head _, r⟩
    · obtain ⟨d, as', h1, h2⟩ := readsAll_mem rs hu
      exact ⟨d, as', .tail _ h1, h2⟩
theorem layAll_mem : ∀ {ds : List PyData} {d : PyData}, PyData.canLayAll0 ds = true → d ∈ ds → d.canLay0 = true
  | x :: xs, d, h, hd => by
    have h' : x.canLay0 = true ∧ PyData.canLayAll0 xs = true := by simpa [PyData.canLayAll0] using h
    rcases List.mem_cons.mp hd with rfl | hd
    · exact h'.1
    · exact layAll_mem h'.2 hd
theorem depAll_mem : ∀ {ds : List PyData} {d : PyData}, d ∈ ds → d.depth ≤ PyData.depthAll ds
  | x :: xs, d, hd => by
    simp only [PyData.depthAll]
    rcases List.mem_cons.mp hd with rfl | hd
    · omega
    · have := depAll_mem (ds := xs) hd
      omega
theorem reads_map {h : Heap} : ∀ {us : List Value} {ds : List PyData} {as : List Addr}, ReadsAll h us ds as → PyData.canLayAll0 ds = true → us.map (SeqAt.readOf h) = ds
  | _, _, _, .nil, _ => rfl
  | u :: us, d :: ds, _, .cons r rs, hl => by
    have h' : d.canLay0 = true ∧ PyData.canLayAll0 ds = true := by simpa [PyData.canLayAll0] using hl
    rw [List.map_cons, SeqAt.readOf_eq h'.1 r, reads_map rs h'.2]
noncomputable def gK (h : Heap) : Keyed → PyData × V := fun p => (SeqAt.readOf h p.1, (absV p.2).getD .non)
theorem abs_map : ∀ {vs : List V} {us : List Value}, Vals vs us → us.map (fun u => (absV u).getD V.non) = vs
  | _, _, .nil => rfl
  | _, _, .cons r t => by rw [List.map_cons, abs_map t, RelV.abs r]; rfl
theorem gK_zip {h : Heap} {ks : List Value} {ds : List PyData} {as : List Addr} {vs : List V} {us : List Value} (rk : ReadsAll h ks ds as) (lk : PyData.canLayAll0 ds = true) (rv : Vals vs us) : (ks.zip us).map (gK h) = ds.zip vs := by
  have e : (ks.zip us).map (gK h) = (ks.map (SeqAt.readOf h)).zip (us.map fun u => (absV u).getD V.non) := by
    rw [List.zip_map]
    rfl
  rw [e, reads_map rk lk, abs_map rv]
theorem vals_of_abs : ∀ {us : List Value}, (∀ u ∈ us, ∃ v, RelV v u) → Vals (us.map fun u => (absV u).getD V.non) us
  | [], _ => .nil
  | u :: us, h => by
    refine .cons ?_ (vals_of_abs fun z hz => h z (.tail _ hz))
    obtain ⟨v, hv⟩ := h u (.head _)
    show L2.RelV ((absV u).getD V.non) u
    rw [RelV.abs hv]
    exact hv
theorem vals_mem {vs : List V} {us : List Value} {u : Value} (r : Vals vs us) (hu : u ∈ us) : ∃ v, RelV v u := by
  induction r with
  | nil => cases hu
  | cons h _ ih =>
    rcases List.mem_cons.mp hu with rfl | hu
    · exact ⟨_, h⟩
    · exact ih hu
theorem zip_of_mem {α β : Type} {p : α × β} {l : List α} {m : List β} (h : p ∈ l.zip m) : p.1 ∈ l ∧ p.2 ∈ m := List.of_mem_zip (a := p.1) (b := p.2) h
/-- the sorted values, by the sorted data -/
theorem out_key {h : Heap} {ks : List Value} {ds : List PyData} {as : List Addr} {vs : List V} {us : List Value} {arr : List Keyed} (rk : ReadsAll h ks ds as) (lk : PyData.canLayAll0 ds = true) (rv : Vals vs us)
    (h1 : Srtd (lt2 (ltv h)) arr) (h2 : Stb (lt2 (ltv h)) arr (ks.zip us)) : Vals ((sortK (ds.zip vs)).map (·.2)) (arr.map (·.2)) ∧ ((sortK (ds.zip vs)).map (·.2)).length ≤ vs.length := by
  have e0 := gK_zip (vs := vs) (us := us) rk lk rv
  have s1 : Srtd ltK (arr.map (gK h)) := List.pairwise_map.mpr h1
  have s2 : Stb ltK (arr.map (gK h)) (ds.zip vs) := by
    rw [← e0]
    refine ⟨h2.perm.map _, fun x => ?_⟩
    by_cases hx : ∃ y : Keyed, y ∈ ks.zip us ∧ gK h y = x
    · obtain ⟨y, hy, rfl⟩ := hx
      have f : ∀ l : List Keyed, (l.map (gK h)).filter (eqv ltK (gK h y)) = (l.filter (eqv (lt2 (ltv h)) y)).map (gK h) := fun l => by
        rw [List.filter_map] <;> rfl
      rw [f, f, h2.cls y]
    · by_cases hz : ∃ y : Keyed, y ∈ ks.zip us ∧ eqv ltK x (gK h y) = true
      · obtain ⟨y, hy, hq⟩ := hz
        obtain ⟨q1, q2⟩ := SrtO.eqv_iff.mp hq
        have same : ∀ z, eqv ltK x z = eqv ltK (gK h y) z := fun z => by
          cases a : eqv ltK (gK h y) z with
          | true =>
            obtain ⟨p1, p2⟩ := SrtO.eqv_iff.mp a
            exact SrtO.eqv_iff.mpr ⟨ltK_swo.tr z (gK h y) x p1 q1 |> fun z => z, ltK_swo.tr x (gK h y) z q2 p2⟩
          | false =>
            cases b : eqv ltK x z with
            | false => rfl
            | true =>
              obtain ⟨p1, p2⟩ := SrtO.eqv_iff.mp b
              have c : eqv ltK (gK h y) z = true := SrtO.eqv_iff.mpr ⟨ltK_swo.tr z x (gK h y) p1 q2, ltK_swo.tr (gK h y) x z q1 p2⟩
              rw [c] at a; cases a
        have f : ∀ l : List Keyed, (l.map (gK h)).filter (eqv ltK x) = (l.filter (eqv (lt2 (ltv h)) y)).map (gK h) := fun l => by
          rw [show eqv ltK x = eqv ltK (gK h y) from funext same, List.filter_map] <;> rfl
        rw [f, f, h2.cls y]
      · have none_ : ∀ l : List Keyed, (∀ p ∈ l, p ∈ ks.zip us) → (l.map (gK h)).filter (eqv ltK x) = [] := fun l hl => by
          rw [List.filter_eq_nil_iff]
          intro z hzm
          obtain ⟨p, hp, rfl⟩ := List.mem_map.mp hzm
          intro hq
          exact hz ⟨p, hl p hp, hq⟩
        rw [none_ arr fun p hp => h2.perm.mem_iff.mp hp, none_ _ fun p hp => hp]
  have e1 := sortK_of s1 s2
  rw [← e1, List.map_map]
  have e2 : (arr.map ((·.2) ∘ gK h)) = (arr.map (·.2)).map fun u => (absV u).getD V.non := by
    rw [List.map_map]; rfl
  rw [e2]
  refine ⟨vals_of_abs fun u hu => ?_, ?_⟩
  · obtain ⟨p, hp, rfl⟩ := List.mem_map.mp hu
    exact vals_mem rv (zip_of_mem (h2.perm.mem_iff.mp hp)).2
  · simp only [List.length_map]
    rw [h2.perm.length_eq, List.length_zip, rv.length]
    exact Nat.min_le_right _ _
section
variable {X : Cx} {pins : List (Addr × Obj)} {σ : L2.St} {H : Hp} {s : Shared} {P : PySem.Fin → Shared → Prop} {vs : List V} {its : List Value}
/-- behind the keys: sorted, and written back -/
theorem key_tail {aL kS : Addr} {e1 ek : Nat} {E : Value → Shared → Prop} {st : SortSt} {keyV : List Value} {out : List Value} (hk : s.heap.get? kS = some (seqObj "list" keyV.toArray ek)) (ha : s.heap.get? aL = some (seqObj "list" #[] e1)) (ne : kS ≠ aL)
    (zk : keyV.length ≤ sizeLine) (zo : out.length ≤ sizeLine) (ho : (arrOf st).map (·.2) = out.toArray) (hf : failedOf st = none)
    (h : ∀ h' c, (∀ b o, b ≠ kS → b ≠ aL → s.heap.get? b = some o → h'.get? b = some o) → h'.get? aL = some (seqObj "list" out.toArray c) → P (.done (.ret .none)) { s with heap := h' }) :
    wpAny (model X.prog X.w) X.A.in1.in1 (ksk_tail aL false e1 (.ref kS) st) P E s := by
  have q1 := Heap.SameBut.update s.heap kS (Obj.mapSeq fun _ => (#[] : Array Value))
  have ha1 : (s.heap.update kS (Obj.mapSeq fun _ => (#[] : Array Value))).get? aL = some (seqObj "list" #[] e1) := (q1.2 aL (Ne.symm ne)).trans ha
  have q2 := Heap.SameBut.update (s.heap.update kS (Obj.mapSeq fun _ => (#[] : Array Value))) aL (Obj.mapSeq fun _ => out.toArray)
  obtain ⟨c2, hc2⟩ : ∃ c2, ((s.heap.update kS (Obj.mapSeq fun _ => (#[] : Array Value))).update aL (Obj.mapSeq fun _ => out.toArray)).get? aL = some (seqObj "list" out.toArray c2) := ⟨_, get?_update_seq ha1 fun _ => out.toArray⟩
  unfold ksk_tail
  try dsimp only
  rw [ho]
  refine wpAny_bind (listUpdate_at hk rfl ?_ (by simpa using zk) (Nat.zero_le _))
  refine wpAny_bind (wpAny_letGo ?_)
  refine wpAny_bind (seqEpoch_at ha1 rfl ?_)
  simp only [Bool.false_eq_true, if_false]
  refine wpAny_bind (listUpdate_at ha1 rfl ?_ (Nat.zero_le _) (by show out.toArray.size ≤ _; simp; omega))
  rw [hf]
  simp only [bne_self_eq_false, Bool.false_eq_true, if_false]
  exact wpAny_pure (h _ c2 (fun b o n1 n2 e => (q2.2 b n2).trans ((q1.2 b n1).trans e)) hc2)
theorem key_end {aL kS : Addr} {e1 ek : Nat} {E : Value → Shared → Prop} {keyV : List Value} {ds : List PyData} (hk : s.heap.get? kS = some (seqObj "list" keyV.toArray ek)) (ha : s.heap.get? aL = some (seqObj "list" #[] e1)) (ne : kS ≠ aL)
    (zi : its.length ≤ sizeLine) (hl : keyV.length = its.length) (rv : Vals vs its) (ok : KeysOk s.heap (X.A.units + 2) keyV ds)
    (h : ∀ h' c out, (∀ b o, b ≠ kS → b ≠ aL → s.heap.get? b = some o → h'.get? b = some o) → h'.get? aL = some (seqObj "list" (List.toArray out) c) → Vals ((sortK (ds.zip vs)).map (·.2)) out → out.length ≤ sizeLine → P (.done (.ret .none)) { s with heap := h' }) :
    wpAny (model X.prog X.w) X.A.in1.in1 (ksk_end aL false its.toArray e1 (.ref kS) keyV.toArray) P E s := by
  obtain ⟨as, rd⟩ := ok.rd
  have zz : (keyV.toArray.zip its.toArray).toList = keyV.zip its := by simp
  have outOf : ∀ st : SortSt, Srtd (lt2 (ltv s.heap)) (arrOf st).toList → Stb (lt2 (ltv s.heap)) (arrOf st).toList (keyV.zip its) → failedOf st = none → wpAny (model X.prog X.w) X.A.in1.in1 (ksk_tail aL false e1 (.ref kS) st) P E s := by
    intro st h1 h2 hf
    obtain ⟨o1, o2⟩ := out_key rd ok.lay rv h1 h2
    have hv := rv.length
    have ol := o1.length
    have z3 : ((arrOf st).toList.map (·.2)).length ≤ sizeLine := by omega
    refine key_tail hk ha ne (by omega) z3 (by apply Array.ext'; simp) hf fun h' c k1 k2 => h h' c _ k1 k2 o1 z3
  unfold ksk_end
  try dsimp only
  simp only [Bool.false_eq_true, if_false]
  by_cases h2 : its.toArray.size < 2
  · rw [if_pos h2, if_pos h2]
    refine wpAny_bind (wpAny_pure ?_)
    rw [StateT.run_pure]
    refine wpAny_bind (wpAny_pure ?_)
    try dsimp only
    refine outOf (SortSt.mk' general' (keyV.toArray.zip its.toArray) #[] 7 none) ?_ (Stb.of_eq zz) rfl
    show Srtd _ (keyV.toArray.zip its.toArray).toList
    rw [zz]
    have h3 : (keyV.zip its).length < 2 := by
      rw [List.length_zip]
      rw [List.size_toArray] at h2
      omega
    match keyV.zip its, h3 with
    | [], _ => exact List.Pairwise.nil
    | [v], _ => exact List.pairwise_singleton _ _
    | _ :: _ :: r, h => exact absurd h (by rw [List.length_cons, List.length_cons]; omega)
  · rw [if_neg h2, if_neg h2]
    rw [List.size_toArray] at h2
    refine wpAny_bind (keys_kind rd ok.key (by omega) ?_)
    have cmp : Cmp X.prog X.w X.A.in1.in1 s (tuples' true) (fun p => p.1 ∈ keyV) (lt2 (ltv s.heap)) := fun p q hp hq => by
      obtain ⟨d, as1, m1, r1⟩ := readsAll_mem rd hp
      obtain ⟨e, as2, m2, r2⟩ := readsAll_mem rd hq
      obtain ⟨k, hk⟩ := ok.cmp d m1 e m2
      have dd := depAll_mem m1
      have hdep := ok.dep
      exact key_lt r1 r2 (layAll_mem ok.lay m1) (layAll_mem ok.lay m2) (ok.key d m1) (ok.key e m2) (by show X.A.units + 1 + 1 + _ < _; omega) hk
    refine wpAny_bind (wpAny_mono (SrtO.wpS_sortO (E := E) (st0 := SortSt.mk' (tuples' true) (keyV.toArray.zip its.toArray) #[] 7 none)
      (Q := fun _ st' => Srtd (lt2 (ltv s.heap)) (arrOf st').toList ∧ Stb (lt2 (ltv s.heap)) (arrOf st').toList (keyV.toArray.zip its.toArray).toList ∧ failedOf st' = none)
      (SrtO.swo2 (ltv_swo s.heap)) cmp rfl (fun p hp => (zip_of_mem (by rw [← zz]; exact hp)).1) rfl rfl fun st' a1 a2 a3 => ⟨a1, a2, a3⟩) ?_ fun _ _ e => e)
    rintro ⟨⟨⟩, st'⟩ s' ⟨rfl, p1, p2, p3⟩
    try dsimp only
    rw [zz] at p2
    exact outOf st' p1 p2 p3
end
end Dl
/-! DlZc: sorted with a key: the keys one by one, the whole call. -/
namespace Dl
open PySem PySem.Spec PyProof.Rows L2 NdefX
section
variable {X : Cx} {pins : List (Addr × Obj)} {σ : L2.St} {H : Hp} {s : Shared} {vs : List V} {its : List Value} {Q : VK}
/-- while the keys are made: s0 the state ahead of the call -/
structure KSt (X : Cx) (pins : List (Addr × Obj)) (σ : L2.St) (J : Nat → List V → Hp → Prop) (aL kS e1 i : Nat) (s' : Shared) : Prop where
  ex : ∃ (H' : Hp) (ks : List V) (keyV : List Value) (ek : Nat), Inv X pins σ H' s' ∧ Vals ks keyV ∧ keyV.length = i ∧ J i ks H' ∧ FpOk X pins H' kS ∧ FpOk X pins H' aL ∧
    s'.heap.get? kS = some (seqObj "list" keyV.toArray ek) ∧ s'.heap.get? aL = some (seqObj "list" #[] e1)
theorem key_turn {J : Nat → List V → Hp → Prop} {aL kS e1 i : Nat} {f u : Value} {R : Value → Shared → Prop} (K : KSt X pins σ J aL kS e1 i s) (ne : kS ≠ aL) (zi : i < sizeLine)
    (turn : ∀ ks pins' H', Inv X pins' σ H' s → J i ks H' → wpAny (model X.prog X.w) X.A.in1.in1 (call f [u]) (EP X pins' σ fun k H2 => J (i + 1) (ks ++ [k]) H2) (fun _ _ => False) s)
    (h : ∀ v s2, (∀ P : Unit → Shared → Prop, (∀ s3, KSt X pins σ J aL kS e1 (i + 1) s3 → P () s3) → ∀ E, wpAny (model X.prog X.w) X.A.in1.in1 (Builtin.List.listUpdate (.ref kS) (·.push v)) P E s2) → R v s2) :
    wpAny (model X.prog X.w) X.A.in1.in1 (call f [u]) R (fun _ _ => False) s := by
  obtain ⟨H', ks, keyV, ek, I, rk, lk, j, fk, fa, ok, oa⟩ := K.ex
  obtain ⟨k0, k1, k2, k3, k4, k5⟩ := fk
  obtain ⟨a0, a1, a2, a3, a4, a5⟩ := fa
  have nc : ∀ (xs : Array Value) (n : Nat) (v : Option Value), (seqObj "list" xs n).data ≠ .cell v := fun _ _ _ z => nomatch z
  have Ip : Inv X (pins ++ [(kS, seqObj "list" keyV.toArray ek), (aL, seqObj "list" #[] e1)]) σ H' s := I.pins_of fun p hp => by
    rcases List.mem_append.mp hp with hp | hp
    · exact I.pin p (List.mem_append_right _ hp)
    · rcases List.mem_cons.mp hp with rfl | hp
      · exact ⟨ok, k0, k1, k2, nc _ _⟩
      · rw [List.mem_singleton.mp hp]
        exact ⟨oa, a0, a1, a2, nc _ _⟩
  refine wpAny_mono (turn ks _ H' Ip j) (fun v s2 hv => ?_) fun _ _ z => z
  obtain ⟨kv, H2, I2, rkv, j2⟩ := hv
  refine h v s2 fun R hR E => ?_
  have p1 := I2.pin (kS, seqObj "list" keyV.toArray ek) (by simp)
  have p2 := I2.pin (aL, seqObj "list" #[] e1) (by simp)
  have I3 := I2.unpinned
  have fk2 : FpOk X pins H2 kS := ⟨p1.2.1, k1, k2, k3, k4, k5⟩
  have fa2 : FpOk X pins H2 aL := ⟨p2.2.1, a1, a2, a3, a4, a5⟩
  have sb := Heap.SameBut.update s2.heap kS (Obj.mapSeq (·.push v))
  obtain ⟨c2, hc2⟩ : ∃ c2, (s2.heap.update kS (Obj.mapSeq (·.push v))).get? kS = some (seqObj "list" (keyV.toArray.push v) c2) := ⟨_, get?_update_seq p1.1 (·.push v)⟩
  have zz := sizeLine_eq
  refine listUpdate_at p1.1 rfl ?_ (by simp; omega) (by show (keyV.toArray.push v).size ≤ _; simp; omega)
  have I4 : Inv X pins σ H2 { s2 with heap := s2.heap.update kS (Obj.mapSeq (·.push v)), toks := s2.toks } := I3.turnedL (ch := [kS]) (fun b o hb e => (sb.2 b (fun z => hb (by simp [z]))).trans e) (fun b hb => by
    have e : b = kS := by simpa using hb
    rw [e]; exact fk2)
  exact hR _ ⟨H2, ks ++ [kv], keyV ++ [v], c2, I4, rk.append (.cons rkv .nil), by simp [lk], j2, fk2, fa2, by rw [hc2]; simp, (sb.2 aL (Ne.symm ne)).trans p2.1⟩
theorem key_rest {J : Nat → List V → Hp → Prop} {aL kS e1 : Nat} {f : Value} {P : PySem.Fin → Shared → Prop} {E : Value → Shared → Prop} (K : KSt X pins σ J aL kS e1 0 s) (ne : kS ≠ aL) (rv : Vals vs its) (zi : its.length ≤ sizeLine)
    (turn : ∀ i x u ks pins' s' H', vs[i]? = some x → RelV x u → Inv X pins' σ H' s' → J i ks H' → wpAny (model X.prog X.w) X.A.in1.in1 (call f [u]) (EP X pins' σ fun k H2 => J (i + 1) (ks ++ [k]) H2) (fun _ _ => False) s')
    (fin : ∀ ks H', J vs.length ks H' → ∃ ds, (∀ s' us, Inv X pins σ H' s' → Vals ks us → KeysOk s'.heap (X.A.units + 2) us ds) ∧
      ∀ s' h' c out, Inv X pins σ H' s' → Inv X pins σ H' { s' with heap := h' } → FpOk X pins H' aL → h'.get? aL = some (seqObj "list" (List.toArray out) c) → Vals ((sortK (ds.zip vs)).map (·.2)) out → out.length ≤ sizeLine → P (.done (.ret .none)) { s' with heap := h' }) :
    wpAny (model X.prog X.w) X.A.in1.in1 (ksk_rest aL f false its.toArray e1 (.ref kS)) P E s := by
  unfold ksk_rest
  refine wpAny_bind (wpAny_rule ?_)
  first
    | rw [List.forIn_toArray]
    | (rw [← Array.forIn_toList]; simp only [List.toList_toArray])
    | rw [← Array.forIn_toList]
  refine wpAny_bind (ksk_fold (fun i s' => KSt X pins σ J aL kS e1 i s') its 0 s K ?step ?done)
  case step =>
    intro j u s' hu K'
    simp only [Nat.zero_add] at K' ⊢
    have hj : j < its.length := (List.getElem?_eq_some_iff.mp hu).1
    obtain ⟨x, hx, rx⟩ := Pr.get rv hu
    refine wpAny_bind (wpAny_attempt (wpAny_mono (key_turn K' ne (by omega) (R := fun v s2 => ∀ P : Unit → Shared → Prop, (∀ s3, KSt X pins σ J aL kS e1 (j + 1) s3 → P () s3) → ∀ E, wpAny (model X.prog X.w) X.A.in1.in1 (Builtin.List.listUpdate (.ref kS) (·.push v)) P E s2) (fun ks pins' H' I' j' => turn j x u ks pins' s' H' hx rx I' j') fun v s2 g => g) (fun v s2 g => ?_) fun _ _ z => z.elim))
    try dsimp only
    exact wpAny_bind (g _ (fun s3 K3 => wpAny_pure ⟨rfl, K3⟩) E)
  case done =>
    intro s' K'
    simp only [Nat.zero_add] at K'
    obtain ⟨H', ks, keyV, ek, I, rk, lk, j, fk, fa, ok, oa⟩ := K'.ex
    have hv := rv.length
    rw [← hv] at j
    obtain ⟨ds, hok, hfin⟩ := fin ks H' j
    refine wpAny_bind (listItems_at ok rfl ?_)
    refine key_end ok oa ne zi lk rv (hok s' keyV I rk) fun h' c out keep at_ ro zo => ?_
    refine hfin s' h' c out I ?_ fa at_ ro zo
    exact I.turnedL (t' := s'.toks) (ch := [kS, aL]) (fun b o hb e => keep b o (fun z => hb (by simp [z])) (fun z => hb (by simp [z])) e) (fun b hb => by
      rcases List.mem_cons.mp hb with rfl | hb
      · exact fk
      · rw [List.mem_singleton.mp hb]; exact fa)
theorem sorted_key {J : Nat → List V → Hp → Prop} {l f : Addr} {E : Value → Shared → Prop} (I : Inv X pins σ H s) (hl : SqL X.K H l vs) (j0 : J 0 [] H)
    (turn : ∀ i x u ks pins' s' H', vs[i]? = some x → RelV x u → Inv X pins' σ H' s' → J i ks H' → wpAny (model X.prog X.w) X.A.in1.in1 (call (.ref f) [u]) (EP X pins' σ fun k H2 => J (i + 1) (ks ++ [k]) H2) (fun _ _ => False) s')
    (fin : ∀ ks H', J vs.length ks H' → ∃ ds, (∀ s' us, Inv X pins σ H' s' → Vals ks us → KeysOk s'.heap (X.A.units + 2) us ds) ∧
      ∀ p, H' p = none → Q (.ref p) (upd H' p (.lst ((sortK (ds.zip vs)).map (·.2))))) :
    wpAny (model X.prog X.w) X.A (call (.builtin "sorted") [.ref l] [(Str.ofString "key", .ref f)]) (EP X pins σ Q) E s := by
  obtain ⟨its, rv, pl, hz⟩ := I.list hl
  have hvl := rv.length
  have zi : its.length ≤ sizeLine := by omega
  refine call_function_entry_kw kind_sorted plain_sorted entry_sorted (ksk_s1 _ _) ?_
  unfold Builtin.«sorted»
  refine wpAny_bind (m := checkCount "sorted" 1 1 _) (wpAny_pure ?_)
  refine wpAny_bind (collect_list pl.isList ?_ zi)
  refine wpAny_bind (wpAny_newList ?_ zi)
  generalize hg1 : (s.heap.push (seqObj "list" #[] 0)).update s.heap.objs.size (Obj.mapSeq (· ++ its.toArray)) = h1
  have sz1 : h1.objs.size = s.heap.objs.size + 1 := by rw [← hg1, Heap.size_update, size_push']
  have k1 : ∀ b o, s.heap.get? b = some o → h1.get? b = some o := fun b o e => by
    have hlt : b < s.heap.objs.size := Heap.lt_size e
    rw [← hg1, Heap.get?_update_ne _ _ _ _ (Nat.ne_of_lt hlt)]
    exact Heap.get?_push_of_some _ e
  have oL : (h1.push (seqObj "list" its.toArray 0)).get? h1.objs.size = some (seqObj "list" its.toArray 0) := Heap.get?_push_size _ rfl
  show wpAny _ _ _ _ _ { s with heap := h1.push (seqObj "list" its.toArray 0) }
  generalize haL : h1.objs.size = aL at oL
  refine wpAny_bind (wpAny_holding (wpAny_call_entry_kw slot_list_sort ⟨_, oL, rfl⟩ entry_list_sort ?body (ksk_l1 _ _)))
  case body =>
    show wpAny (model X.prog X.w) X.A.in1.in1 (Builtin.«list.sort» ⟨[.ref aL], [(Str.ofString "key", .ref f)]⟩) _ _ _
    rw [ksk_t1]
    have u1 := Heap.SameBut.update (h1.push (seqObj "list" its.toArray 0)) aL (Obj.mapSeq fun _ => (#[] : Array Value))
    obtain ⟨e1, oL1⟩ : ∃ e1, ((h1.push (seqObj "list" its.toArray 0)).update aL (Obj.mapSeq fun _ => (#[] : Array Value))).get? aL = some (seqObj "list" #[] e1) := ⟨_, get?_update_seq oL fun _ => #[]⟩
    have haL' : aL = s.heap.objs.size + 1 := by rw [← haL, sz1]
    have szA : ((h1.push (seqObj "list" its.toArray 0)).update aL (Obj.mapSeq fun _ => (#[] : Array Value))).objs.size = aL + 1 := by rw [Heap.size_update, size_push', haL]
    unfold ksk_tree
    refine wpAny_bind (listItems_at oL rfl ?_)
    refine wpAny_bind (listUpdate_at oL rfl ?_ (by simpa using zi) (Nat.zero_le _))
    refine wpAny_bind (seqEpoch_at oL1 rfl ?_)
    refine wpAny_bind (wpAny_newTuple ?_ (by show its.length ≤ _; exact zi))
    refine wpAny_bind (wpAny_newList ?_ (Nat.zero_le _))
    refine wpAny_holding ?_
    generalize hg2 : (((h1.push (seqObj "list" its.toArray 0)).update aL (Obj.mapSeq fun _ => (#[] : Array Value))).push { cls := .type "tuple", data := .seq its.toArray }) = h2
    have sz2 : h2.objs.size = aL + 2 := by rw [← hg2, size_push', szA]
    have keep : ∀ b o, s.heap.get? b = some o → (h2.push { cls := .type "list", data := .seq #[] }).get? b = some o := fun b o e => by
      have hlt : b < s.heap.objs.size := Heap.lt_size e
      refine Heap.get?_push_of_some _ ?_
      rw [← hg2]
      have hne : b ≠ aL := by rw [haL']; exact Nat.ne_of_lt (Nat.lt_succ_of_lt hlt)
      exact Heap.get?_push_of_some _ ((u1.2 b hne).trans (Heap.get?_push_of_some _ (k1 b o e)))
    have oLf : (h2.push { cls := .type "list", data := .seq #[] }).get? aL = some (seqObj "list" #[] e1) := by
      refine Heap.get?_push_of_some _ ?_
      rw [← hg2]
      exact Heap.get?_push_of_some _ oL1
    have oK : (h2.push { cls := .type "list", data := .seq #[] }).get? h2.objs.size = some (seqObj "list" #[] 0) := Heap.get?_push_size _ rfl
    have I1 : Inv X pins σ H { s with heap := h2.push { cls := .type "list", data := .seq #[] }, toks := s.toks } := I.kept keep
    have nF : ∀ b, s.heap.objs.size ≤ b → FpOk X pins H b := fun b hb => I.fpOk hb (I.hok.fresh hb)
    show wpAny (model X.prog X.w) X.A.in1.in1 (ksk_rest aL (.ref f) false its.toArray e1 (.ref h2.objs.size)) _ _ { s with heap := h2.push { cls := .type "list", data := .seq #[] } }
    refine key_rest ⟨H, [], [], 0, I1, .nil, rfl, j0, nF _ (by omega), nF _ (by omega), oK, oLf⟩ (by omega) rv zi turn fun ks H' j' => ?_
    obtain ⟨ds, hok, hfin⟩ := fin ks H' j'
    refine ⟨ds, hok, fun s' h' c out I' I2 fa at_ ro zo => ⟨_, rfl, wpAny_pure ⟨_, rfl, ?_⟩⟩⟩
    have ol := ro.length
    refine ⟨.ref aL, upd H' aL (.lst ((sortK (ds.zip vs)).map (·.2))), ?_, rfl, hfin aL fa.1⟩
    exact I2.take (h' := h') (t' := s'.toks) (fun _ _ _ e => e) fa ⟨by omega, out, c, ro, at_⟩
end
end Dl
/-! DlZd: sorted with a key that is a lambda without captured names. -/
namespace Dl
open PySem PySem.Spec PyProof.Rows L2 NdefX
open LamX (CodeO Tabs TabB ExtN inv_table among_app codeO_ne)
/-! ### one level less -/
def bLow (i : Nat) (C : Cs) : Sd := fun env w => match env with
  | [.dat d] => (C.call i [.dat d] w).bind fun r w1 => .ok (.rt r) w1
  | _ => .stuck
/-- by the number wi stands what the lambda nd computes one level down -/
structure LowOk (P : Program) (w : PySem.World) (K : PySem.W.Frag) (mg : Str → Option Value) (base : Heap) (T : Tbs) (C : Cs) (n wi : Nat) (nd : ND) : Prop where
  ex : (∀ d w, C.call wi [.dat d] w = .stuck) ∨ ∃ (m : Nat) (f : List RV → World → Out RV), m + 1 ≤ n ∧ COk P w K mg base m nd (spC ⟨K, mg, T⟩ f []) ∧ ∀ d w r w', C.call wi [.dat d] w = .ok r w' → f [.dat d] w = .ok r w'
section
variable {P : Program} {w : PySem.World} {K : PySem.W.Frag} {mg : Str → Option Value} {base : Heap} {T : Tbs} {n wi i : Nat} {nd : ND} {tbl : Nat → Option DefB}
theorem low_zero : LowOk P w K mg base T (Den tbl 0) 0 wi nd := ⟨.inl fun _ _ => rfl⟩
theorem low_succ (ht : tbl wi = some ⟨1, 1, bLow i⟩) (c : Clos P w K mg base T (Den tbl n) n) (hi : T.nd i = some nd) (hf : nd.fr = []) : LowOk P w K mg base T (Den tbl (n + 1)) (n + 1) wi nd := by
  refine ⟨.inr ⟨n, (Den tbl n).call i, Nat.le_refl _, c i nd [] hi (by rw [hf]; rfl), fun d w r w' e => ?_⟩⟩
  rw [den_succ ht] at e
  unfold runB at e
  simp only [List.length_cons, List.length_nil, if_true] at e
  have e : endR (((Den tbl n).call i [.dat d] w).bind fun r w1 => .ok (.rt r) w1) = .ok r w' := e
  cases q : (Den tbl n).call i [.dat d] w with
  | ok r2 w2 => rw [q] at e; exact e
  | exc x e2 w2 => rw [q] at e; cases e
  | stuck => rw [q] at e; cases e
end
/-! ### what it computes -/
def keysK (C : Cs) (wi : Nat) : List D → World → Out (List D)
  | [], w => .ok [] w
  | d :: l, w => match C.call wi [.dat d] w with
    | .ok (.dat k) w1 => (match keysK C wi l w1 with
      | .ok ks w2 => .ok (k :: ks) w2
      | _ => .stuck)
    | _ => .stuck
def keysFit (rm : Nat) (ks : List D) : Bool := (ks.all fun k => keyP k.py) && (ks.all fun a => ks.all fun b => (pLt a.py b.py).isSome) && decide (PyData.depthAll (D.pyAll ks) + 2 ≤ rm)
def sortD (ks l : List D) : List D := (sortK ((D.pyAll ks).zip l)).map (·.2)
def dSortKey (C : Cs) (wi : Nat) (e : Ex) : Ex := fun env w => (e env w).bind fun r w1 => match r.arg with
  | some (.dat (.lst l)) => (match keysK C wi l w1 with
    | .ok ks w2 => if keysFit C.room ks = true then .ok (.fresh (sortD ks l)) w2 else .stuck
    | _ => .stuck)
  | _ => .stuck
theorem keysK_len {C : Cs} {wi : Nat} : ∀ {l : List D} {w w' : World} {ks : List D}, keysK C wi l w = .ok ks w' → ks.length = l.length
  | [], _, _, _, e => by simp only [keysK] at e; cases e; rfl
  | d :: l, w, w', ks, e => by
    simp only [keysK] at e
    split at e
    · split at e
      · rename_i q
        cases e
        rw [List.length_cons, List.length_cons, keysK_len q]
      · cases e
    · cases e
theorem sortD_len {ks l : List D} (h : ks.length = l.length) : (sortD ks l).length = l.length := by
  have e := (sortK_stb ((D.pyAll ks).zip l)).1.length_eq
  unfold sortD
  rw [List.length_map, e, List.length_zip, pyAll_eq, List.length_map, h, Nat.min_self]
theorem zip_paired {K : PySem.W.Frag} {F : Hp} : ∀ {us : List PyData} {vs : List V} {l : List D}, Paired (Rp K F) vs l → Paired (fun p q => p.1 = q.1 ∧ Rp K F p.2 q.2) (us.zip vs) (us.zip l)
  | [], _, _, _ => .nil
  | _ :: _, _, _, .nil => .nil
  | u :: us, _, _, .cons h t => .cons ⟨rfl, h⟩ (zip_paired t)
theorem sortD_rp {K : PySem.W.Frag} {F : Hp} {ks l : List D} {vs : List V} (h : Paired (Rp K F) vs l) : Paired (Rp K F) ((sortK ((D.pyAll ks).zip vs)).map (·.2)) (sortD ks l) := by
  have q := sortK_paired (zip_paired (us := D.pyAll ks) h)
  unfold sortD
  generalize sortK ((D.pyAll ks).zip vs) = a at q
  generalize sortK ((D.pyAll ks).zip l) = b at q
  induction q with
  | nil => exact .nil
  | cons r _ ih => exact .cons r.2 ih
section
variable {X : Cx} {T : Tbs} {Wi : WX} {pins : List (Addr × Obj)} {σ : St} {H : Hp} {s : Shared}
theorem reads_all (I : Inv X pins σ H s) : ∀ {l : List D} {vs : List V} {us : List Value}, Paired (Rp X.K H) vs l → Vals vs us → ∃ as, ReadsAll s.heap us (D.pyAll l) as
  | [], _, _, .nil, .nil => ⟨_, .nil⟩
  | d :: l, _, _, .cons h t, .cons r rs => by
    obtain ⟨as, q⟩ := Dp.reads I d.py _ _ h.dp r
    obtain ⟨bs, q2⟩ := reads_all I t rs
    exact ⟨_, .cons q q2⟩
theorem keys_ok {u rm : Nat} {ks : List D} {vs : List V} {us : List Value} (I : Inv X pins σ H s) (p : Paired (Rp X.K H) vs ks) (r : Vals vs us) (hf : keysFit rm ks = true) (hu : u + rm < cLine) : KeysOk s.heap (u + 2) us (D.pyAll ks) := by
  unfold keysFit at hf
  simp only [Bool.and_eq_true, decide_eq_true_eq] at hf
  obtain ⟨⟨h1, h2⟩, h3⟩ := hf
  refine ⟨reads_all I p r, Rp.layAll ks vs p, fun d hd => ?_, fun d hd e he => ?_, by omega⟩
  · rw [pyAll_eq] at hd
    obtain ⟨x, hx, rfl⟩ := List.mem_map.mp hd
    exact List.all_eq_true.mp h1 x hx
  · rw [pyAll_eq] at hd he
    obtain ⟨x, hx, rfl⟩ := List.mem_map.mp hd
    obtain ⟨y, hy, rfl⟩ := List.mem_map.mp he
    exact Option.isSome_iff_exists.mp (List.all_eq_true.mp (List.all_eq_true.mp h2 x hx) y hy)
/-- a lambda by itself -/
theorem pe_lam {ts : List (Addr × Str)} {nd : ND} {c P : Addr} {b : Expr} {pos : Pos} (TB : TabB X.base X.mg c P) (hcode : X.env.code = .ref c) (hn : nd.name = "<lambda>") (hq : nd.qual = X.env.qual ++ "<lambda>")
    (hm : (P, nd.qual) ∈ ts) (hu : ∀ p ∈ ts, p.1 = P → p.2 = nd.qual) (hdef : defaultsOf nd.params X.env = ([], [])) (hfree : ∀ y ∈ nd.scope.names, y.2 = .free → X.env.scope.names.lookup y.1 = some .cell ∨ X.env.scope.names.lookup y.1 = some .free) :
    PE X (.Lambda nd.params b nd.scope pos) (fun σ H Q => Tabs ts H ∧ ∀ (f c' : Addr) (H1 : Hp), ExtN H H1 → (∀ b, H1 b = none → H b = none) → Tabs ts H1 → H f = none → H1 f = some (LamO f nd b (cloFrom X.env.cells nd.scope.names []) c') → H1 c' = some (CodeO c' nd.qual) → Q (.ref f) H1) :=
  ⟨fun pins s σ H Q I h => lam_mk I TB hcode hn hq hm hu h.1 hdef (fun y hy e => (hfree y hy e).elim (fun z => I.ok.has _ (.inl z)) fun z => I.ok.has _ (.inr z)) fun f c' H1 s' I1 x1 n1 t1 f0 f1 k1 => ⟨.ref f, H1, I1, rfl, h.2 f c' H1 x1 n1 t1 f0 f1 k1⟩⟩
/-- the call's promise -/
def rKey (X : Tx) (C : Cs) (wi : Nat) (nd : ND) (cl : List (Str × Addr)) : List V → List V → Hp → VK → Prop := fun xs zs H Q => ∃ l f c' F M w ds vs ks w2, xs = [.ref l] ∧ zs = [.ref f] ∧ Same F H ∧ NoTbl F ∧ WRel X F H M w ∧ TabsN X.T.tabs H ∧
  SqL X.K F l vs ∧ ds.length ≤ sizeLine ∧ Paired (Rp X.K F) vs ds ∧ H f = some (CloO f nd cl c') ∧ H c' = some (CodeO c' nd.qual) ∧ keysK C wi ds w = .ok ks w2 ∧ keysFit C.room ks = true ∧
  ∀ p H2 F2 M2, Same F2 H2 → NoTbl F2 → WRel X F2 H2 M2 w2 → TabsN X.T.tabs H2 → Stp H F M H2 F2 M2 → H2 p = none → Q (.ref p) (upd H2 p (.lst ((sortK ((D.pyAll ks).zip vs)).map (·.2))))
theorem cr_key {C : Cs} {n wi : Nat} {nd : ND} {cl : List (Str × Addr)} (lo : LowOk X.prog X.w X.K X.mg X.base T C n wi nd) (hr : Room n X.A) (hu : X.A.units + C.room < cLine) (hfr : nd.fr = []) (hcl : ∀ y c, cl.lookup y = some c → y ∈ nd.fr) :
    CallRK X (.builtin "sorted") [Str.ofString "key"] (rKey (Cx.tx X T) C wi nd cl) := by
  intro pins s σ H xs zs us ws Q I rx rz h
  obtain ⟨l, f, c', F, M, w, ds, vs, ks, w2, rfl, rfl, fh, nt, wr, tb, hl, hz, pd, hf, hc, ek, fit, q⟩ := h
  obtain rfl := Vals.ref1 rx
  obtain rfl := Vals.ref1 rz
  have hlen := pd.length
  refine sorted_key (J := fun i kvs H' => ∃ F' M' w' kds rs, Same F' H' ∧ NoTbl F' ∧ WRel (Cx.tx X T) F' H' M' w' ∧ TabsN T.tabs H' ∧ Stp H F M H' F' M' ∧ Paired (Rp X.K F') kvs kds ∧ keysK C wi (ds.drop i) w' = .ok rs w2 ∧ ks = kds ++ rs) I (fh.seq hl) ?j0 ?turn ?fin
  case j0 => exact ⟨F, M, w, [], ks, fh, nt, wr, tb, .refl, .nil, ek, rfl⟩
  case turn =>
    intro i x u kvs pins' s' H' hx ru I' j
    obtain ⟨F', M', w', kds, rs, fh', nt', wr', tb', st', pk, er, ea⟩ := j
    obtain ⟨d, hd, rd⟩ := Pr.getL pd hx
    have hdrop : ds.drop i = d :: ds.drop (i + 1) := by
      obtain ⟨hi, e⟩ := List.getElem?_eq_some_iff.mp hd
      rw [← e, List.drop_eq_getElem_cons hi]
    rw [hdrop] at er
    simp only [keysK] at er
    split at er
    case h_2 => cases er
    rename_i k w3 ec
    split at er
    case h_2 => cases er
    rename_i rs' w4 e4
    cases er
    rcases lo.ex with z | ⟨m, g, hm, ck, hg⟩
    · rw [z] at ec; cases ec
    have ec := hg _ _ _ _ ec
    obtain ⟨φ, eφ⟩ := cloO_ext f nd cl c'
    have hf' : H' f = some (CloO f nd cl c') := st'.fr f _ (fun _ => ⟨φ, eφ⟩) (fun ps z => by rw [eφ] at z; cases z) hf
    have hc2 : H' c' = some (CodeO c' nd.qual) := st'.fr c' _ (fun _ => ⟨_, rfl⟩) (fun ps z => by cases z) hc
    have hrm : Room m X.A.in1.in1 := ⟨hr.hd, by have := hr.dp; show X.A.depth + 3 * m + 5 < _; omega, by have := hr.un; show X.A.units + 1 + 1 + 16 * m + 200 < _; omega⟩
    have hCA : CellsAt cl nd.fr [] s'.heap H' := by
      have no : ∀ y c, cl.lookup y = some c → False := fun y c e => by have := hcl y c e; rw [hfr] at this; cases this
      refine ⟨by rw [hfr]; rfl, fun y c e => (no y c e).elim, fun x y c e _ => (no x c e).elim, fun t y ey => by rw [hfr] at ey; simp at ey⟩
    have hsp : spC ⟨X.K, X.mg, T⟩ g [] [] [x] H' (fun kv H2 => ∃ F' M' w' kds rs, Same F' H2 ∧ NoTbl F' ∧ WRel (Cx.tx X T) F' H2 M' w' ∧ TabsN T.tabs H2 ∧ Stp H F M H2 F' M' ∧ Paired (Rp X.K F') (kvs ++ [kv]) kds ∧ keysK C wi (ds.drop (i + 1)) w' = .ok rs w2 ∧ ks = kds ++ rs) (fun _ _ _ => False) := by
      refine ⟨F', M', [.dat d], w', fh', nt', wr', tb', .cons (rd.mono st'.fg) .nil, ⟨rfl, fun j d e => by simp at e⟩, ?_⟩
      show Pst (g [.dat d] w') _ _
      rw [ec]
      intro kv H2 F2 M2 h1 h2 h3 h4 h5 h6
      have h6 : Rp X.K F2 kv k := h6
      exact ⟨F2, M2, w3, kds ++ [k], rs', h1, h2, h3, h4, st'.trans h5, Pr.append (Rp.monoAll h5.fg _ _ pk) (.cons h6 .nil), e4, by rw [ea]; simp⟩
    refine wpAny_call (codeAny_mono (ck.run f cl c' X.A.in1.in1 X.stack s' H' [u] [x] [] _ _ hrm I'.env0.in1.in1 hf' hc2 hCA (.cons ru .nil) hsp) fun rr s2 hq => ?_)
    cases rr with
    | error e =>
      obtain ⟨_, _, _, _, _, _, _, _, _, _, _, _, f⟩ := hq
      exact f.elim
    | ok fl =>
      cases fl with
      | next => exact False.elim hq
      | brk => exact False.elim hq
      | cont => exact False.elim hq
      | ret u => exact I'.after hq
  case fin =>
    intro kvs H' j
    obtain ⟨F', M', w', kds, rs, fh', nt', wr', tb', st', pk, er, ea⟩ := j
    rw [hlen, List.drop_length] at er
    simp only [keysK] at er
    cases er
    rw [List.append_nil] at ea
    subst ea
    refine ⟨D.pyAll ks, fun s' us I' r => keys_ok I' (Rp.monoAll fh' _ _ pk) r fit hu, fun p hp => ?_⟩
    exact q p H' F' M' fh' nt' wr' tb' st' hp
theorem je_sortkey {C : Cs} {n wi : Nat} {nd : ND} {p pos kpos lpos : Pos} {e : Expr} {d : Ex} {ts : List (Addr × Str)} {c P : Addr} {b : Expr} (lo : LowOk X.prog X.w X.K X.mg X.base T C n wi nd) (hr : Room n X.A) (hu : X.A.units + C.room < cLine) (hfr : nd.fr = []) (hg : Gl X "sorted") (hm : X.mg "sorted" = none) (h : JE X T Wi e d)
    (hts : T.tabs = ts.map fun p => (p.1, fun _ _ => p.2)) (TB : TabB X.base X.mg c P) (hcode : X.env.code = .ref c) (hnb : nd.body = .inr b) (hn : nd.name = "<lambda>") (hq : nd.qual = X.env.qual ++ "<lambda>") (hm2 : (P, nd.qual) ∈ ts) (hu2 : ∀ p ∈ ts, p.1 = P → p.2 = nd.qual) (hdef : defaultsOf nd.params X.env = ([], []))
    (hfree : ∀ y ∈ nd.scope.names, y.2 = .free → X.env.scope.names.lookup y.1 = some .cell ∨ X.env.scope.names.lookup y.1 = some .free) (hfr2 : ∀ y, (y, NameKind.free) ∈ nd.scope.names → y ∈ nd.fr)
    (he : backTo pos (starEach [e] X.env) = (false, eval e X.env) :: backTo pos (starEach [] X.env) := by rfl) (he2 : starEach [e] X.env = (false, eval e X.env) :: starEach [] X.env := by rfl) (hpl : (backTo pos (starEach [e] X.env)).any (·.1) = false := by rfl) :
    JE X T Wi (.Call (.Name "sorted" p) [e] [⟨some "key", .Lambda nd.params b nd.scope lpos, kpos⟩] pos) (dSortKey C wi d) := by
  have toS : ∀ {H : Hp}, TabsN T.tabs H → Tabs ts H := fun {H} h p hp => h (p.1, fun _ _ => p.2) (by rw [hts]; exact List.mem_map.mpr ⟨p, hp, rfl⟩)
  have ofS : ∀ {H : Hp}, Tabs ts H → TabsN T.tabs H := fun {H} h pT hp => by
    rw [hts] at hp
    obtain ⟨p, hp2, rfl⟩ := List.mem_map.mp hp
    exact h p hp2
  have hkeys : ∀ y c, (cloFrom X.env.cells nd.scope.names []).lookup y = some c → y ∈ nd.fr := fun y c e => by
    rcases cloFrom_mem (PySem.mem_of_lookup e) with hm | ⟨h1, _⟩
    · cases hm
    · exact hfr2 y h1
  refine (pe_callBK (cr_key (T := T) lo hr hu hfr hkeys) hg hm rfl (pa_cons h pa_nil he2) (pk_cons (pe_lam TB hcode hn hq hm2 hu2 hdef hfree) pk_nil) (by decide) (by decide) he hpl rfl rfl rfl).impD fun σ H Q q => ?_
  obtain ⟨B, env, w, F, O, M, s, q⟩ := q
  refine ⟨B, env, w, F, O, M, s, q.bind.imp fun r w1 q1 x H1 F1 M1 s1 st1 r1 => ?_⟩
  split at q1
  case h_2 => exact q1.elim
  rename_i ds ea
  split at q1
  case h_2 => exact q1.elim
  rename_i ks w2 ek
  split at q1
  case isFalse => exact q1.elim
  rename_i fit
  obtain ⟨F2, s2, st2, a2⟩ := keep_arg s s1 st1 r1 ea
  cases a2 with
  | @lst l vs _ hz hs pd =>
  refine ⟨toS s2.tb, fun f c' H3 x3 n3 t3 f0 f1 k1 => ?_⟩
  have ke : KeepE H1 H3 := fun a φ e => x3 a _ e fun ps z => by cases z
  have st3 : Stp H1 F2 M1 H3 F2 M1 := ⟨Same.refl _, fun a o _ ht e => x3 a o e ht, fun a e z => e (n3 a z), fun _ _ z => z, [], by simp, by simp⟩
  have fh : Same F2 H3 := fun b o e => x3 b o (s2.fh b o e) fun ps z => by subst z; exact s2.nt b ps e
  have wr : WRel (Cx.tx X T) F2 H3 M1 w1 := ⟨s2.wr.nd, Paired.mapP s2.wr.at_ fun m o h => ⟨h.1, by
    obtain ⟨h0, h1⟩ := h
    cases o with
    | lst l =>
      obtain ⟨z, vs, e1, e2⟩ := h1
      exact ⟨z, vs, x3 m _ e1 (fun ps z => by cases z), e2⟩
    | clo i caps => exact CloAt.keep h1 ke (Same.refl _) fun _ _ z => z⟩⟩
  have s3 := s2.step st3 fh s2.nt wr (ofS t3)
  refine ⟨l, f, c', F2, M1, w1, ds, vs, ks, w2, rfl, rfl, fh, s2.nt, wr, ofS t3, hs, hz, pd, by rw [f1]; unfold CloO; rw [hnb], k1, ek, fit, fun p H4 F4 M4 h1 h2 h3 h4 h5 hp => ?_⟩
  have fh4 : Same F4 (upd H4 p (.lst ((sortK ((D.pyAll ks).zip vs)).map (·.2)))) := h1.trans (same_upd hp)
  have pM : p ∉ M4 := fun z => h3.there z hp
  have st5 : Stp H4 F4 M4 (upd H4 p (.lst ((sortK ((D.pyAll ks).zip vs)).map (·.2)))) F4 M4 := ⟨Same.refl _, fun a o _ _ e => by rw [upd_ne (ne_of_none e hp)]; exact e, fun a e z => e (upd_none z), fun _ _ z => z, [], by simp, by simp⟩
  have wr5 : WRel (Cx.tx X T) F4 (upd H4 p (.lst ((sortK ((D.pyAll ks).zip vs)).map (·.2)))) M4 w2 := ⟨h3.nd, Paired.mapP h3.at_ fun m o h => ⟨h.1, by
    obtain ⟨h0, h1⟩ := h
    cases o with
    | lst l =>
      obtain ⟨z, vs, e1, e2⟩ := h1
      exact ⟨z, vs, by rw [upd_ne (ne_of_none e1 hp)]; exact e1, e2⟩
    | clo i caps => exact CloAt.keep h1 (fun a φ e => by rw [upd_ne (ne_of_none e hp)]; exact e) (Same.refl _) fun _ _ z => z⟩⟩
  have st6 := h5.trans st5
  have s6 := s3.step st6 fh4 h2 wr5 (tab_new h4 hp)
  have hk := keysK_len ek
  refine q1 _ _ _ _ s6 ((st2.trans st3).trans st6) ⟨by rw [sortD_len hk]; exact hz, p, _, rfl, ?_, h1.free hp, pM, upd_same, sortD_rp (Rp.monoAll h5.fg _ _ pd)⟩
  exact Classical.byContradiction fun z => (((st2.trans st3).trans h5).th p z) hp
end
end Dl
/-! DlZe: a slot frozen ahead of a statement, append of what pop gives, a table's place, index in a list of texts, enumerate of a tuple. -/
namespace Dl
open PySem PySem.Spec PyProof.Rows L2 NdefX
section
variable {X : Cx} {T : Tbs} {Wi : WX}
/-! ### a slot frozen -/
theorem SR.knowDat {X : Tx} {B : Base} {env : Ev} {w : World} {σ : St} {H F : Hp} {O : Nat → Addr} {M : List Addr} {i : Nat} {l : List D} (s : SR X B env w σ H F O M) (e : env[i]? = some (.own l)) :
    ∃ F', SR X B (env.set i (.dat (.lst l))) w σ H F' O M ∧ Same F F' := by
  obtain ⟨e1, e2, e3, e4, ez, vs, e5, e6⟩ := s.sl i _ e
  have hlt : i < env.length := (List.getElem?_eq_some_iff.mp e).1
  have s1 : SR X B (env.set i .un) w σ H F O M := by
    have u := s.setUn (i := i)
    refine ⟨by simpa using s.len, s.fh, s.nt, s.st, s.wr, s.tb, fun j sl e' => ?_, u.inj⟩
    by_cases hj : i = j
    · subst hj
      rw [List.getElem?_set_self hlt] at e'
      cases e'
      trivial
    · rw [List.getElem?_set_ne hj] at e'
      exact s.sl j sl e'
  have hO : ∀ j k, (env.set i .un)[j]? = some (.own k) → O j ≠ O i := fun j k e' z => by
    by_cases hj : i = j
    · subst hj
      rw [List.getElem?_set_self hlt] at e'
      cases e'
    · rw [List.getElem?_set_ne hj] at e'
      exact hj (s.inj i j l k e e' z.symm)
  have s2 := s1.freeze e2 e4 hO e5 e3
  have fg : Same F (upd F (O i) (.lst vs)) := same_upd e3
  refine ⟨upd F (O i) (.lst vs), ⟨by simpa using s2.len, s2.fh, s2.nt, s2.st, s2.wr, s2.tb, fun j sl e' => ?_, fun j k lj lk f1 f2 => ?_⟩, fg⟩
  · by_cases hj : i = j
    · subst hj
      rw [List.getElem?_set_self hlt] at e'
      cases e'
      exact ⟨_, e1, .lst ez (SqL.of upd_same) (Rp.monoAll fg _ _ e6)⟩
    · rw [List.getElem?_set_ne hj] at e'
      exact s2.sl j sl (by rw [List.getElem?_set_ne hj]; exact e')
  · have back : ∀ {j : Nat} {lj : List D}, (env.set i (.dat (.lst l)))[j]? = some (.own lj) → (env.set i .un)[j]? = some (.own lj) := fun {j lj} f => by
      by_cases hj : i = j
      · subst hj
        rw [List.getElem?_set_self hlt] at f
        cases f
      · rw [List.getElem?_set_ne hj] at f ⊢
        exact f
    exact s2.inj j k lj lk (back f1) (back f2)
def sFrz (i : Nat) (b : Sd) : Sd := fun env w => match env[i]? with
  | some (.own l) => b (env.set i (.dat (.lst l))) w
  | _ => b env w
@[simp] theorem sFrz_ap {i : Nat} {b : Sd} {env : Ev} {w : World} : sFrz i b env w = (match env[i]? with
  | some (.own l) => b (env.set i (.dat (.lst l))) w
  | _ => b env w) := rfl
theorem js_frz {st : Stmt} {i : Nat} {b : Sd} (h : JS X T Wi st b) : JS X T Wi st (sFrz i b) := by
  refine h.impD fun D σ H q => ?_
  obtain ⟨B, env, w, F, O, M, s, q⟩ := q
  unfold sFrz at q
  split at q
  · rename_i l e
    obtain ⟨F', s', fg⟩ := s.knowDat e
    exact ⟨B, _, w, F', O, M, s', q.imp fun r w1 q1 => flG.later q1 fg⟩
  · exact ⟨B, env, w, F, O, M, s, q⟩
/-! ### a.append(b.pop(e)) -/
def sAppPop (i j : Nat) (e : Ex) : Sd := fun env w => match env[i]?, env[j]? with
  | some (.own l), some (.own k) => if i = j then .stuck else (e env w).bind fun r w1 => (match r with
    | .dat (.int n) => (match (if 0 ≤ n then k[n.toNat]? else none) with
      | some d => if l.length < 16777216 then .ok (.nx ((env.set j (.own (k.eraseIdx n.toNat))).set i (.own (l ++ [d])))) w1 else .stuck
      | none => .stuck)
    | _ => .stuck)
  | _, _ => .stuck
theorem js_appPop {i j : Nat} {x y : Str} {p1 p2 p3 q1 q2 q3 pos : Pos} {e : Expr} {d : Ex} (h0 : PE X (.Name x p1) (tVar i)) (h1 : PE X (.Name y q1) (tVar j)) (h : JE X T Wi e d)
    (hs : swapsWith (.Call (.Attribute (.Name x p1) "append" p2) [.Call (.Attribute (.Name y q1) "pop" q2) [e] [] q3] [] p3) none pos.line X.env = pure false := by rfl)
    (hb1 : attributeBase (.Name x p1) "append" X.env (eval (.Name x p1) X.env) = eval (.Name x p1) X.env := by rfl) (hb2 : attributeBase (.Name y q1) "pop" X.env (eval (.Name y q1) X.env) = eval (.Name y q1) X.env := by rfl)
    (hf1 : ((backTo p3 (starEach (.Call (.Attribute (.Name y q1) "pop" q2) [e] [] q3 :: []) X.env)).all (fun x => !x.1) && (backToKw p3 (keywordEach [] X.env)).all (fun x => x.1.isSome)
      && decide ((e :: []).length + ([] : List Keyword).length + (if ([] : List Keyword).isEmpty then 0 else 1) < 30)) = true := by rfl)
    (hf2 : ((backTo q3 (starEach (e :: []) X.env)).all (fun x => !x.1) && (backToKw q3 (keywordEach [] X.env)).all (fun x => x.1.isSome)
      && decide ((e :: []).length + ([] : List Keyword).length + (if ([] : List Keyword).isEmpty then 0 else 1) < 30)) = true := by rfl)
    (hl1 : (p2.endLine == p3.line) = true := by rfl) (hl2 : (q2.endLine == q3.line) = true := by rfl)
    (hs1 : starEach (.Call (.Attribute (.Name y q1) "pop" q2) [e] [] q3 :: []) X.env = (false, eval (.Call (.Attribute (.Name y q1) "pop" q2) [e] [] q3) X.env) :: starEach [] X.env := by rfl) (hs2 : starEach (e :: []) X.env = (false, eval e X.env) :: starEach [] X.env := by rfl)
    (hp1 : (backTo p3 (starEach [] X.env)).any (·.1) = false := by rfl) (hp2 : (backTo q3 (starEach [] X.env)).any (·.1) = false := by rfl) :
    JS X T Wi (.Expr (.Call (.Attribute (.Name x p1) "append" p2) [.Call (.Attribute (.Name y q1) "pop" q2) [e] [] q3] [] p3) pos) (sAppPop i j d) := by
  refine (ps_expr (pe_bm PySem.F.plainAttrs_list PySem.F.slot_list_append PySem.F.type_list_append mt_append h0 (pa_cons (pe_bm PySem.F.plainAttrs_list PySem.F.slot_list_pop PySem.F.type_list_pop mt_popAt h1 (pa_cons h pa_nil hs2) hb2 hf2 hl2 hs2 hp2) pa_nil hs1) hb1 hf1 hl1 hs1 hp1) hs).impD fun D σ H q => ?_
  obtain ⟨B, env, w, F, O, M, s, q⟩ := q
  unfold sAppPop at q
  split at q
  case h_2 => exact q.elim
  rename_i l k el ek
  split at q
  case isTrue => exact q.elim
  rename_i hij
  obtain ⟨e1, e2, e3, e4, ez, vs, e5, e6⟩ := s.sl i _ el
  obtain ⟨f1, f2, f3, f4, fz, ws, f5, f6⟩ := s.sl j _ ek
  refine ⟨.ref (O i), e1, .inl ⟨rfl, vs, SqL.of e5⟩, .ref (O j), f1, .inl ⟨rfl, ws, SqL.of f5⟩, B, env, w, F, O, M, s, q.bind.imp fun r w1 q1 v H1 F1 M1 s1 st1 r1 => ?_⟩
  split at q1
  case h_2 => exact q1.elim
  rename_i n
  split at q1
  case h_2 => exact q1.elim
  rename_i dd edd
  split at q1
  case isFalse => exact q1.elim
  rename_i hz
  split at edd
  case isFalse => cases edd
  rename_i hn
  cases (show Rp X.K F1 v (.int n) from r1)
  obtain ⟨g1, g2, g3, g4, gz, us, g5, g6⟩ := s1.sl j _ ek
  obtain ⟨y1, ey, ry⟩ := Pr.get g6 edd
  have hul : us.length = k.length := g6.length
  have hlt : n.toNat < k.length := (List.getElem?_eq_some_iff.mp edd).1
  have zz := sizeLine_eq
  have hnn : ((n.toNat : Nat) : Int) = n := Int.toNat_of_nonneg hn
  have hsz : n < 2 ^ 63 := by omega
  refine ⟨O j, us, n, n.toNat, y1, rfl, rfl, g5, by omega, hsz, ?_, ey, ?_⟩
  · unfold seqIndex?
    first
      | (rw [if_pos (by omega)]; done)
      | (simp only []; split <;> first | omega | (split <;> first | omega | rfl))
      | (simp; omega)
  have pe : Paired (Rp X.K F1) (us.eraseIdx n.toNat) (k.eraseIdx n.toNat) := by
    rw [List.eraseIdx_eq_take_drop_succ, List.eraseIdx_eq_take_drop_succ]
    exact Pr.append (Pr.take _ g6) (Pr.drop _ g6)
  have s2 := s1.updOwn ek (l' := k.eraseIdx n.toNat) (by have := List.length_eraseIdx_le k n.toNat; omega) pe
  have el2 : (env.set j (.own (k.eraseIdx n.toNat)))[i]? = some (.own l) := by rw [List.getElem?_set_ne (Ne.symm hij)]; exact el
  obtain ⟨a1, a2, a3, a4, az, bs, a5, a6⟩ := s2.sl i _ el2
  have hbl : bs.length = l.length := a6.length
  refine ⟨O i, bs, y1, rfl, rfl, a5, by rw [hbl, sizeLine_eq]; exact hz, ?_⟩
  exact q1 σ _ F1 O M1 (s2.updOwn el2 (by rw [List.length_append, List.length_singleton, sizeLine_eq]; omega) (Pr.append a6 (.cons ry .nil))) st1.fg
@[simp] theorem sAppPop_ap {i j : Nat} {e : Ex} {env : Ev} {w : World} : sAppPop i j e env w = (match env[i]?, env[j]? with
  | some (.own l), some (.own k) => if i = j then .stuck else (e env w).bind fun r w1 => (match r with
    | .dat (.int n) => (match (if 0 ≤ n then k[n.toNat]? else none) with
      | some d => if l.length < 16777216 then .ok (.nx ((env.set j (.own (k.eraseIdx n.toNat))).set i (.own (l ++ [d])))) w1 else .stuck
      | none => .stuck)
    | _ => .stuck)
  | _, _ => .stuck) := rfl
/-! ### a table's place -/
theorem je_subK {a : Expr} {da : Ex} {pos : Pos} {x : Str} {t : List (Str × D)} {p0 : Pos} (D : TabAt X.K X.w X.mg x t) (hg : Gl X x) (ha : JE X T Wi a da) (hn : NoSl a := by exact fun _ _ => rfl) (hd : (x == ("__debug__" : Str)) = false := by decide) :
    JE X T Wi (.Subscript (.Name x p0) a pos) (dUn (gGetK t) da) := by
  obtain ⟨l, es, n, hx, kd, hv⟩ := D.ex
  refine ⟨fun pins s σ H Q I q => ?_⟩
  have q := un_read (r := fun x H1 Q => ∃ z v u, x = .str z ∧ PySem.W.nsIn X.K l z = some (some u) ∧ RelV v u ∧ Q v H1) (fun x d rv H F fh nt rx h Q q => ?_) q
  · refine subD_of PySem.F.slot_dict_getitem.lookup hn (thn ((pe_glob (v := .ref l) hg hx rfl hd).run pins s σ H (fun v H' => v = .ref l ∧ H' = H) I ⟨rfl, rfl⟩) fun u s1 ⟨x, H1, I1, rx, ex, eh⟩ => ?_)
    subst ex eh
    obtain rfl : u = Value.ref l := rx
    refine thn (ha.run pins s1 σ H1 _ I1 q) fun iv s2 ⟨y, H2, I2, ry, z, v, u, ez, en, rv, q2⟩ => ?_
    subst ez
    obtain ⟨t, rfl⟩ := (show ∃ t, iv = Value.str z t from ry)
    have mo2 := PySem.W.mapOf_K (prog := X.prog) (w := X.w) I2.kIn kd.at_ kd.lit
    refine ⟨mo2.typeIs, wpAny_getItem_of (PySem.strKind_is X.prog X.w z t) mo2 (v := u) ?_ ⟨v, H2, I2.tok _, rv, q2⟩⟩
    rw [PySem.W.find_K kd.at_ en]
  · cases d <;> first | (simp only [gGetK] at h; cases h; done) | skip
    rename_i z
    cases rx
    simp only [gGetK] at h
    split at h
    · rename_i i e
      cases h
      obtain ⟨u, e1, e2⟩ := hv _ (lookup_mem e)
      exact ⟨z, .int i, u, rfl, e1, e2, new_val fh nt q (.int i)⟩
    · rename_i i e
      cases h
      obtain ⟨u, e1, e2⟩ := hv _ (lookup_mem e)
      exact ⟨z, .bl i, u, rfl, e1, e2, new_val fh nt q (.bl i)⟩
    · cases h
end
end Dl
/-! DlZf: enumerate of a tuple, index in a list of texts. -/
namespace PySem
open Sem (wp)
theorem meets_enum_one {v : Value} {o : Obj} {H : Heap → Prop} (B : Begins v o H) :
    Meets (Builtin.«enumerate.__new__» ⟨[.type "enumerate", v], []⟩) (fun _ R s => H s.heap ∧
      R (.ok (.ret (.ref (s.heap.push o).objs.size))) { s with heap := (s.heap.push o).push { cls := .type "enumerate", data := .fields #[.none, .bool false, .ref s.heap.objs.size, rawInt 0, .none, .none] } }) :=
  .of_wp fun prog w A R s h => by
    obtain ⟨hp, g, d, tk, os⟩ := s
    obtain ⟨h1, h⟩ := h
    have hsub := sub_enumerate
    have q1 : ∀ {A' : Around} {E : Value → Shared → Prop} {Q : Value → Shared → Prop}, Q (.ref hp.objs.size) ⟨hp.push o, g, d, tk, os⟩ → wpAny (model prog w) A' (pyIter v) Q E ⟨hp, g, d, tk, os⟩ :=
      fun q => B.iter prog w _ _ ⟨hp, g, d, tk, os⟩ _ h1 q
    wp_walk using q1
    refine wpAny_stack_any fun st => wpAny_pure ?_
    split
    · rename_i c _ _ _ _ _
      cases (c == Value.type "enumerate")
      · wp_walk using q1
        exact ⟨_, rfl, h⟩
      · wp_walk using q1
        exact ⟨_, rfl, h⟩
    · wp_walk using q1
      exact ⟨_, rfl, h⟩
theorem call_enum_tup {prog : Program} {w : World} {A : Around} {E : Value → Shared → Prop} {s : Shared} {l : Addr} {items : Array Value} {Q : Value → Shared → Prop} (hL : s.heap.IsTuple l items)
    (h : ∀ h', IsEnum h' (s.heap.objs.size + 1) s.heap.objs.size 0 .none → h'.IsTupleIter s.heap.objs.size l 0 → h'.objs.size = s.heap.objs.size + 2 →
      (∀ b o, s.heap.get? b = some o → h'.get? b = some o) → Q (.ref (s.heap.objs.size + 1)) { s with heap := h' }) :
    wpAny (model prog w) A (call (.type "enumerate") [.ref l]) Q E s := by
  refine callType_new F.called_enumerate (by decide) (F.typeCall_enumerate_1 _) (F.newCall_enumerate_1 _) (fun obj => F.args_object_init_2 obj _) F.entry_enumerate_new
    (meets_enum_one (begins_tuple l items)) ⟨hL, ?_⟩
  generalize hg : s.heap.push { cls := .type "tuple_iterator", data := .fields #[.ref l, .int 0 0] } = g1
  have hz : g1.objs.size = s.heap.objs.size + 1 := by rw [← hg]; exact Heap.size_push ..
  have g0 : g1.get? s.heap.objs.size = some { cls := .type "tuple_iterator", data := .fields #[.ref l, .int 0 0] } := by rw [← hg]; exact Heap.get?_push_size _ rfl
  have gk : ∀ b o, s.heap.get? b = some o → g1.get? b = some o := fun b o x => by rw [← hg]; exact Heap.get?_push_of_some _ x
  show _ ∧ _
  rw [hz]
  have he : IsEnum (g1.push { cls := .type "enumerate", data := .fields #[.none, .bool false, .ref s.heap.objs.size, rawInt 0, .none, .none] }) (s.heap.objs.size + 1) s.heap.objs.size 0 .none := by
    have := Heap.get?_push_size g1 (o := { cls := .type "enumerate", data := .fields #[.none, .bool false, .ref s.heap.objs.size, rawInt 0, .none, .none] }) rfl
    rw [hz] at this; exact this
  exact ⟨⟨_, he, rfl⟩, h _ he ⟨_, Heap.get?_push_of_some _ g0, rfl, rfl⟩ (by rw [Heap.size_push, hz]) fun b o x => Heap.get?_push_of_some _ (gk b o x)⟩
theorem enum_end_tup {prog : Program} {w : World} {A : Around} {E : Value → Shared → Prop} {s : Shared} {e it l : Addr} {n : Nat} {i : Int} {items : Array Value} {old : Value} {Q : Option Value → Shared → Prop} (hh : A.handled = none)
    (he : IsEnum s.heap e it i old) (hit : s.heap.IsTupleIter it l n) (hL : s.heap.IsTuple l items) (hn : items[n]? = none)
    (hQ : ∀ h', Heap.ExtBut it s.heap h' → Q none { s with heap := h' }) : wpAny (model prog w) A (pyNext (.ref e)) Q E s := by
  have hT : s.TypeIs (.ref e) "enumerate" := ⟨_, he, rfl⟩
  unfold pyNext
  refine wpAny_bind (wpAny_attempt (wpAny_callSpecial?_slot (name := Str.ofString "__next__") hT F.slot_enumerate_next
    (wpAny_call_entry F.slot_enumerate_next hT F.entry_enumerate_next ?_ (F.args_enumerate_next_1 _))))
  show wpAny _ _ (field (.ref e) 2 >>= _) _ _ _
  refine wpAny_bind (wpAny_field he rfl (x := .ref it) rfl ?_)
  refine wpAny_bind (wpAny_nextOf_tuple_end (A := A.in1) hh hit hL hn fun h' x he' hx' => ?_)
  obtain ⟨o, ho, hc⟩ := hx'
  refine wpAny_bind (wpAny_isInstance (T := "StopIteration") (b := true) ⟨o, ho, hc⟩ isSubtype_stop ?_)
  exact wpAny_pure (hQ _ he')
end PySem
namespace Dl
open PySem PySem.Spec PyProof.Rows L2 NdefX
/-- the tuple at a, each item in a new pair -/
def IteT (K : PySem.W.Frag) (a : Addr) : It :=
  ⟨fun i H => ∃ (xs : List V) (x : V), SqT K H a xs ∧ xs[i]? = some x, fun i H v H' => ∃ T x, v = .ref T ∧ H T = none ∧ H' = upd H T (.tup [.int (i : Nat), x]) ∧ ∀ xs, SqT K H a xs → xs[i]? = some x, fun i H => ∃ xs : List V, SqT K H a xs ∧ xs.length ≤ i⟩
theorem turn_enumT {P : Program} {w : PySem.World} {K : PySem.W.Frag} {elts : List Expr} {kk : Nat} {tpos : Pos} (a e it : Addr) (hae : a ≠ it) :
    Turn P w K (.Tuple elts kk tpos) (IteT K a) [e, it] e (fun i h => (∃ old, IsEnum h e it ((i : Nat) : Int) old) ∧ h.IsTupleIter it a i ∧ e ≠ it ∧ a ≠ e) where
  mem := by simp
  obj := fun i h st b hb => by
    obtain ⟨⟨old, he⟩, ⟨o, ho, hc, hd⟩, _⟩ := st
    have e' : b = e ∨ b = it := by simpa using hb
    rcases e' with z | z
    · rw [z]; exact ⟨_, he, fun v q => nomatch q⟩
    · rw [z]; exact ⟨o, ho, fun v q => by rw [hd] at q; cases q⟩
  keep := fun i h h' st k => let ⟨⟨old, he⟩, hi, hne⟩ := st; ⟨⟨old, k e (by simp) _ he⟩, hi.at fun o q => k it (by simp) o q, hne⟩
  item := by
    intro X hP hw hK hc i pins s σ H E I hf st hg
    subst hP hw hK
    obtain ⟨⟨old, he⟩, hit, hne, hae2⟩ := st
    obtain ⟨xs, x, hq, hx⟩ := hg
    obtain ⟨its, rv, p, hz⟩ := I.tuple hq
    obtain ⟨u, hu, ru⟩ := rv.get hx
    have hel : e < s.heap.objs.size := Heap.lt_size he
    have hil : it < s.heap.objs.size := by obtain ⟨_, q, _⟩ := hit; exact Heap.lt_size q
    have ptup : s.heap.IsTuple a its.toArray := p
    have hlt : i < its.toArray.size := by simpa using (List.getElem?_eq_some_iff.mp hu).1
    refine wpAny_pyNext_enum_itemC (Draws.tuple (A := X.A.in1) (show X.A.in1.handled = none from I.ok.hd hc) it a hae its.toArray) he ⟨hit, ptup⟩ hlt hne (by simp only [List.mem_cons, List.not_mem_nil, or_false]; rintro (z | z); exact hne z; exact hae2 z.symm) fun x' h' tk hx' ho hst hT hsz hk => ?_
    have ex : x' = u := by
      have : its.toArray[i]? = some u := by simpa using hu
      rw [this] at hx'
      exact (Option.some.inj hx').symm
    subst ex
    obtain ⟨hit', ptup'⟩ := hst
    refine ⟨_, rfl, wpAny_letOwnedTupleGo_enum (s := { s with heap := h', toks := tk + 1 }) ho fun h'' he' sb => ?_⟩
    have hT2 : h''.get? s.heap.objs.size = some { cls := .type "tuple", data := .seq #[.int i tk, x'] } := (sb.2 _ (Nat.ne_of_gt hel)).trans hT
    have new : ObjOk X.prog X.w (upd H s.heap.objs.size (.tup [.int (i : Nat), x])) h'' s.heap.objs.size (.tup [.int (i : Nat), x]) :=
      ⟨by show 2 ≤ sizeLine; decide, [.int i tk, x'], .cons ⟨_, rfl⟩ (.cons ru .nil), ⟨_, hT2, rfl, _, rfl⟩⟩
    have I1 : Inv X pins σ (upd H s.heap.objs.size (.tup [.int (i : Nat), x])) { s with heap := h'', toks := tk + 1 } :=
      I.turnedNew (ch := [e, it]) (fun b ob hb q => (sb.2 b (fun z => hb (by simp [z]))).trans (hk b ob (fun z => hb (by simp [z])) (fun z => hb (by simp [z])) q)) hf (Nat.le_refl _) new
    refine ⟨.ref s.heap.objs.size, _, I1, rfl, ⟨_, x, rfl, I.hok.fresh (Nat.le_refl _), rfl, fun ys hy => by rw [I.tuple_inj hy hq]; exact hx⟩, ⟨⟨x', ?_⟩, hit'.at fun o q => (sb.2 it (Ne.symm hne)).trans q, hne, hae2⟩, fun b hb => ?_⟩
    · have e1 : ((i + 1 : Nat) : Int) = (i : Int) + 1 := by omega
      rw [e1]; exact he'
    · have hb' : b < s.heap.objs.size := by
        have e' : b = e ∨ b = it := by simpa using hb
        rcases e' with z | z
        · rw [z]; exact hel
        · rw [z]; exact hil
      rw [upd_ne (Nat.ne_of_lt hb')]
      exact (hf b hb).1
  done := by
    intro X hP hw hK hc i pins s σ H E I hf st hg
    subst hP hw hK
    obtain ⟨⟨old, he⟩, hit, hne, hae2⟩ := st
    obtain ⟨xs, hq, hx⟩ := hg
    obtain ⟨its, rv, p, hz⟩ := I.tuple hq
    obtain ⟨f0, f1, f2, f3, f4, f5⟩ := hf it (by simp)
    have hl := rv.length
    have ptup : s.heap.IsTuple a its.toArray := p
    exact enum_end_tup (I.ok.hd hc) he hit ptup (by simp; omega) fun h' eb => ⟨rfl, I.turned (t' := s.toks) (fun b o hb q => eb b o hb q) f0 f1 f3 f4 f5⟩
  self := fun A i s Q E st h => let ⟨⟨_, he⟩, _⟩ := st; wpAny_pyIter_enum he h
def piEnumT (K : PySem.W.Frag) (ta : TA) : TI := fun σ H R => ta σ H fun vs H1 => ∃ a xs, vs = [.ref a] ∧ SqT K H1 a xs ∧ R (IteT K a) H1
theorem pi_enumT {X : Cx} {e : Expr} {ta : TA} {p pos tpos : Pos} {elts : List Expr} {kk : Nat} (hg : Gl X "enumerate") (hm : X.mg "enumerate" = none) (ha : PA X [e] ta) (hs : starEach [e] X.env = [(false, eval e X.env)] := by rfl) :
    PI X (.Tuple elts kk tpos) (.Call (.Name "enumerate" p) [e] [] pos) (piEnumT X.K ta) := by
  refine ⟨fun pins s σ H R I h => ?_⟩
  refine Call_ (ld_blt I hg hm boot_enumerate (PyProof.Rows.callWith_type1 (thn (ha.run pos pins s σ H _ I h) fun us s1 ⟨vs, H1, I1, r1, q1⟩ => ?_) hs rfl))
  obtain ⟨a, xs, ex, hq, q⟩ := q1
  subst ex
  cases r1 with
  | cons r rr =>
    cases rr
    cases r
    obtain ⟨its, rv, p', hz⟩ := I1.tuple hq
    have hlt : a < s1.heap.objs.size := by obtain ⟨o, ho, _⟩ := p'; exact Heap.lt_size ho
    refine call_enum_tup (l := a) (items := its.toArray) p' fun h' he hit hsz hk => wpAny_pyIter_enum he ?_
    have I2 : Inv X pins σ H1 { s1 with heap := h' } := I1.kept (t' := s1.toks) hk
    refine ⟨s1.heap.objs.size + 1, [s1.heap.objs.size + 1, s1.heap.objs.size], _, _, H1, rfl, I2, turn_enumT a (s1.heap.objs.size + 1) s1.heap.objs.size (Nat.ne_of_lt hlt), ⟨⟨.none, he⟩, hit, Nat.succ_ne_self _, Nat.ne_of_lt (Nat.lt_succ_of_lt hlt)⟩, fun b hb => ?_, q⟩
    have e' : b = s1.heap.objs.size + 1 ∨ b = s1.heap.objs.size := by simpa using hb
    have hle : s1.heap.objs.size ≤ b := by
      rcases e' with z | z
      · rw [z]; exact Nat.le_add_right _ _
      · rw [z]; exact Nat.le_refl _
    exact I1.fpOk hle (I1.hok.fresh hle)
/-! ### enumerate as a source -/
def enumD : Nat → List D → List D
  | _, [] => []
  | k, d :: l => .tup [.int k, d] :: enumD (k + 1) l
theorem enumD_len : ∀ (l : List D) (k : Nat), (enumD k l).length = l.length
  | [], _ => rfl
  | d :: l, k => by simp only [enumD, List.length_cons, enumD_len l]
theorem enumD_get : ∀ (l : List D) (k i : Nat), (enumD k l)[i]? = (l[i]?).map fun d => .tup [.int ((k + i : Nat) : Int), d]
  | [], _, _ => by simp [enumD]
  | d :: l, k, 0 => by simp [enumD]
  | d :: l, k, i + 1 => by
    simp only [enumD, List.getElem?_cons_succ, enumD_get l (k + 1) i]
    rw [show k + 1 + i = k + (i + 1) by omega]
theorem walk_enumT {K : PySem.W.Frag} {F : Hp} {a : Addr} {vs : List V} {l : List D} (hz : l.length ≤ sizeLine) (h : SqT K F a vs) (p : Paired (Rp K F) vs l) : Walk K (enumD 0 l) F (IteT K a) := by
  refine ⟨by rw [enumD_len]; exact hz, fun i H F1 e1 e2 hi => ?_, fun i H F1 e1 e2 hi => ?_, fun i H F1 x H' d e1 e2 nt y hd => ?_⟩
  · rw [enumD_len] at hi
    have hv : i < vs.length := by rw [p.length]; exact hi
    exact ⟨vs, vs[i], sqT_mono e2 (sqT_mono e1 h), List.getElem?_eq_getElem hv⟩
  · rw [enumD_len] at hi
    exact ⟨vs, sqT_mono e2 (sqT_mono e1 h), by rw [p.length]; exact hi⟩
  · obtain ⟨t, v, rfl, ht, rfl, y⟩ := y
    have q := y vs (sqT_mono e2 (sqT_mono e1 h))
    rw [enumD_get, Option.map_eq_some_iff] at hd
    obtain ⟨d0, hd0, rfl⟩ := hd
    obtain ⟨v', ev, rv⟩ := Pr.get p hd0
    rw [ev] at q; cases q
    have x : Xt H F1 (upd H t (.tup [.int (i : Nat), v])) (upd F1 t (.tup [.int (i : Nat), v])) := Xt.newF e2 nt ht (fun _ z => by cases z)
    refine ⟨_, x, .tup (by show 2 ≤ sizeLine; decide) (SqT.of upd_same) (.cons ?_ (.cons ((rv.mono e1).mono x.ff) .nil))⟩
    rw [Nat.zero_add]
    exact .int _
theorem walk_enumL {K : PySem.W.Frag} {F : Hp} {a : Addr} {vs : List V} {l : List D} (hz : l.length ≤ sizeLine) (h : SqL K F a vs) (p : Paired (Rp K F) vs l) : Walk K (enumD 0 l) F (Ite K a) := by
  refine ⟨by rw [enumD_len]; exact hz, fun i H F1 e1 e2 hi => ?_, fun i H F1 e1 e2 hi => ?_, fun i H F1 x H' d e1 e2 nt y hd => ?_⟩
  · rw [enumD_len] at hi
    have hv : i < vs.length := by rw [p.length]; exact hi
    exact ⟨vs, vs[i], e2.seq (e1.seq h), List.getElem?_eq_getElem hv⟩
  · rw [enumD_len] at hi
    exact ⟨vs, e2.seq (e1.seq h), by rw [p.length]; exact hi⟩
  · obtain ⟨t, v, rfl, ht, rfl, y⟩ := y
    have q := y vs (e2.seq (e1.seq h))
    rw [enumD_get, Option.map_eq_some_iff] at hd
    obtain ⟨d0, hd0, rfl⟩ := hd
    obtain ⟨v', ev, rv⟩ := Pr.get p hd0
    rw [ev] at q; cases q
    have x : Xt H F1 (upd H t (.tup [.int (i : Nat), v])) (upd F1 t (.tup [.int (i : Nat), v])) := Xt.newF e2 nt ht (fun _ z => by cases z)
    refine ⟨_, x, .tup (by show 2 ≤ sizeLine; decide) (SqT.of upd_same) (.cons ?_ (.cons ((rv.mono e1).mono x.ff) .nil))⟩
    rw [Nat.zero_add]
    exact .int _
def iEnumD (e : Ex) : Src := fun env w => (e env w).bind fun r w1 => match r.its with
  | some l => .ok (enumD 0 l) w1
  | none => .stuck
@[simp] theorem iEnumD_ap {e : Ex} {env : Ev} {w : World} : iEnumD e env w = (e env w).bind fun r w1 => match r.its with
  | some l => .ok (enumD 0 l) w1
  | none => .stuck := rfl
section
variable {X : Cx} {T : Tbs} {Wi : WX} {e : Expr} {d : Ex} {p pos tpos : Pos} {elts : List Expr} {kk : Nat}
theorem ji_enum (hg : Gl X "enumerate") (hm : X.mg "enumerate" = none) (h : JE X T Wi e d) (hs : starEach [e] X.env = [(false, eval e X.env)] := by rfl) : JI X T Wi (.Tuple elts kk tpos) (.Call (.Name "enumerate" p) [e] [] pos) (iEnumD d) := by
  have hst : starEach [e] X.env = (false, eval e X.env) :: starEach [] X.env := hs
  refine (pi_or (pi_enum hg hm (pa_cons h pa_nil hst) hs) (pi_enumT hg hm (pa_cons h pa_nil hst) hs)).impD fun σ H Q q => ?_
  obtain ⟨B, env, w, F, O, M, s, q⟩ := q
  have q := q.bind
  cases eo : d env w with
  | stuck => rw [eo] at q; exact q.elim
  | exc x env' w' =>
    rw [eo] at q
    exact .inl ⟨B, env, w, F, O, M, s, by rw [eo]; exact q⟩
  | ok r w1 =>
    rw [eo] at q
    have q1 : Pst (match r.its with
      | some l => Out.ok (enumD 0 l) w1
      | none => .stuck) _ _ := q
    split at q1
    · rename_i l el
      unfold RV.its at el
      split at el
      · rename_i dd ea
        cases dd with
        | lst m =>
          cases el
          refine .inl ⟨B, env, w, F, O, M, s, ?_⟩
          rw [eo]
          intro v H1 F1 M1 s1 st1 r1
          obtain ⟨F2, s2, st2, a2⟩ := keep_arg s s1 st1 r1 ea
          cases a2 with
          | lst hz h1 h2 => exact ⟨_, _, rfl, s2.fh.seq h1, q1 _ H1 F2 M1 s2 st2 (walk_enumL hz h1 h2)⟩
        | tup m =>
          cases el
          refine .inr ⟨B, env, w, F, O, M, s, ?_⟩
          rw [eo]
          intro v H1 F1 M1 s1 st1 r1
          obtain ⟨F2, s2, st2, a2⟩ := keep_arg s s1 st1 r1 ea
          cases a2 with
          | tup hz h1 h2 => exact ⟨_, _, rfl, sqT_mono s2.fh h1, q1 _ H1 F2 M1 s2 st2 (walk_enumT hz h1 h2)⟩
        | _ => cases el
      · cases el
    · exact q1.elim
/-! ### index in a list of texts -/
def dIndexS (e a : Ex) : Ex := fun env w => (e env w).bind fun r w1 => match r.arg with
  | some (.dat (.lst l)) => (match strsOf l with
    | some ss => (a env w1).bind fun ra w2 => (match ra with
      | .dat (.str z) => (match ss.findIdx? (· == z) with
        | some j => .ok (.dat (.int (j : Nat))) w2
        | none => .stuck)
      | _ => .stuck)
    | none => .stuck)
  | _ => .stuck
@[simp] theorem dIndexS_ap {e a : Ex} {env : Ev} {w : World} : dIndexS e a env w = (e env w).bind fun r w1 => match r.arg with
  | some (.dat (.lst l)) => (match strsOf l with
    | some ss => (a env w1).bind fun ra w2 => (match ra with
      | .dat (.str z) => (match ss.findIdx? (· == z) with
        | some j => .ok (.dat (.int (j : Nat))) w2
        | none => .stuck)
      | _ => .stuck)
    | none => .stuck)
  | _ => .stuck := rfl
theorem je_indexS {a : Expr} {da : Ex} {apos cpos : Pos} (h : JE X T Wi e d) (ha : JE X T Wi a da) (hbase : attributeBase e "index" X.env (eval e X.env) = eval e X.env := by rfl)
    (hfew : ((backTo cpos (starEach (a :: []) X.env)).all (fun x => !x.1) && (backToKw cpos (keywordEach [] X.env)).all (fun x => x.1.isSome)
      && decide ((a :: []).length + ([] : List Keyword).length + (if ([] : List Keyword).isEmpty then 0 else 1) < 30)) = true := by rfl)
    (hline : (apos.endLine == cpos.line) = true := by rfl) (hst : starEach (a :: []) X.env = (false, eval a X.env) :: starEach [] X.env := by rfl) (hplain : (backTo cpos (starEach [] X.env)).any (·.1) = false := by rfl) :
    JE X T Wi (.Call (.Attribute e "index" apos) [a] [] cpos) (dIndexS d da) := by
  refine (pe_bm PySem.F.plainAttrs_list PySem.F.slot_list_index PySem.F.type_list_index mt_index h (pa_cons ha pa_nil hst) hbase hfew hline hst hplain).impD fun σ H Q q => ?_
  obtain ⟨B, env, w, F, O, M, s, q⟩ := q
  refine ⟨B, env, w, F, O, M, s, q.bind.imp fun r w1 q1 x H1 F1 M1 s1 st1 r1 => ?_⟩
  split at q1
  case h_2 => exact q1.elim
  rename_i l ea
  split at q1
  case h_2 => exact q1.elim
  rename_i ss es
  obtain ⟨F2, s2, st2, a2⟩ := keep_arg s s1 st1 r1 ea
  cases a2 with
  | @lst b vs _ hz hs pd =>
  obtain ⟨rfl, _, _⟩ := strs_at pd es
  refine ⟨.inl ⟨rfl, _, s2.fh.seq hs⟩, B, env, w1, F2, O, M1, s2, q1.bind.imp fun ra w3 q3 y H3 F3 M3 s3 st3 r3 => ?_⟩
  split at q3
  case h_2 => exact q3.elim
  rename_i z
  split at q3
  case h_2 => exact q3.elim
  rename_i j ej
  cases (show Rp X.K F3 y (.str z) from r3)
  rw [List.findIdx?_eq_some_iff_getElem] at ej
  obtain ⟨hj, e1, e2⟩ := ej
  refine ⟨b, ss.map V.str, .str z, j, .str ss[j], rfl, rfl, s3.fh.seq (st3.fg.seq hs), rfl, ?_, by simp [hj], ?_, fun m z' hm hz' => ?_, q3 _ H3 F3 M3 s3 (st2.trans st3) (.int _)⟩
  · rw [List.all_map]
    exact List.all_eq_true.mpr fun _ _ => rfl
  · exact e1
  · have hml : m < ss.length := Nat.lt_trans hm hj
    simp only [List.getElem?_map, List.getElem?_eq_getElem hml, Option.map_some, Option.some.injEq] at hz'
    subst hz'
    have := e2 m hm
    simpa [eqV] using this
end
end Dl
/-! DlZg: finding a key's lambda, what is computed, told by simp. -/
namespace Dl
open PySem PySem.Spec PyProof.Rows L2 NdefX
def keyE : Nat → Expr → Option Expr
  | 0, _ => none
  | n + 1, e => match e with
    | .Call f es kws _ => (kws.findSome? fun k => match k with
        | ⟨_, .Lambda a b s p, _⟩ => some (.Lambda a b s p)
        | _ => none) <|> (f :: es).findSome? (keyE n)
    | .Tuple es _ _ => es.findSome? (keyE n)
    | _ => none
def keyIn (b : List Stmt) : Option Expr := b.findSome? fun st => match st with
  | .Return (some e) _ => keyE 8 e
  | .Assign _ e _ => keyE 8 e
  | .For _ e _ _ _ => keyE 8 e
  | _ => none
@[simp] theorem dSortKey_ap {C : Cs} {wi : Nat} {e : Ex} {env : Ev} {w : World} : dSortKey C wi e env w = (e env w).bind fun r w1 => match r.arg with
  | some (.dat (.lst l)) => (match keysK C wi l w1 with
    | .ok ks w2 => if keysFit C.room ks = true then .ok (.fresh (sortD ks l)) w2 else .stuck
    | _ => .stuck)
  | _ => .stuck := rfl
end Dl
/-! DlH2: the head: a hook with facts of one's own, the law's end at any world. -/
namespace Dl
open PySem PySem.Spec PyProof.Rows L2 NdefX He
abbrev AlX : Type := AlT × Bool
def obsX (fa : List Fa) (fn : List DefD) (ts : List Tab) (ex : PySem.W.Frag → Bool) (K : PySem.W.Frag) : AlX := (obsT fa fn ts K, ex K)
def valX (fn : List DefD) (ts : List Tab) (w : PySem.World) : AlX := (valT fn ts w, true)
def obsXG (n : Nat) (fa : List Fa) (fn : List DefD) (ts : List Tab) (ex : PySem.W.Frag → Bool) (g : Addr → Option Obj) : AlX := obsX fa fn ts ex (frG g (asD g n))
def SaysX (fa : List Fa) (fn : List DefD) (ts : List Tab) (ex : PySem.W.Frag → Bool) (w : PySem.World) (K : PySem.W.Frag) : Prop := obsX fa fn ts ex K = valX fn ts w
def hookX (n : Nat) (fa : List Fa) (fn : List DefD) (ts : List Tab) (ex : PySem.W.Frag → Bool) : PySem.W.Hook where
  α := AlX
  obs := fun s => obsXG n fa fn ts ex s.heap.get?
  val := fun w => valX fn ts w
  says := fun w h => ∃ K : PySem.W.Frag, K.In h ∧ SaysX fa fn ts ex w K
  of := fun _ _ e => ⟨_, frG_in, e⟩
  keeps := fun _ _ _ ⟨K, hK, c⟩ k => ⟨K, PySem.W.Frag.In.keeps hK k, c⟩
theorem obsXG_eq {n : Nat} {fa : List Fa} {fn : List DefD} {ts : List Tab} {ex : PySem.W.Frag → Bool} {g : Addr → Option Obj} {s : Shared} (h : ∀ a, g a = s.heap.get? a) : obsXG n fa fn ts ex g = (hookX n fa fn ts ex).obs s := by
  have e : g = s.heap.get? := funext h
  rw [e] <;> rfl
section
variable {fa : List Fa} {fn : List DefD} {ts : List Tab} {ex : PySem.W.Frag → Bool} {w : PySem.World} {K : PySem.W.Frag}
theorem SaysX.t (c : SaysX fa fn ts ex w K) : SaysT fa fn ts w K := congrArg (fun z : AlX => z.1) c
theorem SaysX.x (c : SaysX fa fn ts ex w K) : ex K = true := congrArg (fun z : AlX => z.2) c
/-- a table of ints by text keys -/
theorem tabAt_of {mg : Str → Option Value} {h : Heap} {x : Str} {t : List (Str × D)} {kvs : List (Str × Dv)} {es : Array DictEntry} {n : Nat} (X : K.In h) (G : h.Ns mainGlobals mg) (c : (Fa.glo x).ok K = true) (kd : KDict K w (ga K x) es n) (hv : valsB K (ga K x) kvs = true)
    (he : t.map (fun q => (q.1, sV q.2)) = kvs.map fun q => (q.1, q.2.v K)) : TabAt K w mg x t := by
  refine ⟨ga K x, es, n, glo_ok X G c, kd, fun q hq => ?_⟩
  have m : (q.1, sV q.2) ∈ kvs.map fun q => (q.1, q.2.v K) := by rw [← he]; exact List.mem_map.mpr ⟨q, hq, rfl⟩
  obtain ⟨r, hr, er⟩ := List.mem_map.mp m
  obtain ⟨u, e1, e2⟩ := valsB_ok hv hr
  have e3 : r.1 = q.1 := congrArg Prod.fst er
  have e4 : r.2.v K = sV q.2 := congrArg Prod.snd er
  rw [e3] at e1
  rw [e4] at e2
  exact ⟨u, e1, e2⟩
end
theorem noCX {P : Program} {w : PySem.World} (H : Hp) (s : Shared) (e : Value) (s' : Shared) (h : L2.CX P w [] H s (fun _ _ _ => False) e s') : False := by
  obtain ⟨_, _, _, _, _, _, _, _, _, _, _, _, f⟩ := h
  exact f
/-- walk_ofE, with what is behind a call at the world -/
theorem walk_ofW {l : PySem.W.OpenLaw} {n k : Nat} {q : Program} {loose : List Str} {XP : (Str → Option Value) → Heap → Prop} {YP : PySem.World → Heap → Prop} {d : DefRec} {x : Str}
    (hn : l.most = some n) (hn2 : n ≤ sizeLine) (hdf : d.params.defaults = []) (hr : Room k callerA)
    (F : ∀ (w : PySem.World) (mg : Str → Option Value) (fa : Addr) (h : Heap), YP w h → h.Ns mainGlobals mg → mg d.name = some (.ref fa) →
      ∃ (K : PySem.W.Frag) (fd : FuncData) (sp : Sp), K.In h ∧ (∀ (s : Shared) (u : Value), BindsTo s fd ⟨[u], []⟩ [(x, u)]) ∧
        (∀ (H : Hp) (a : Addr) (ns : List Int), ns.length ≤ n → Only H → SqL K H a (ns.map V.int) → sp [.ref a] H (fun v _ => v = .bl true) fun _ _ _ => False) ∧
        ∀ base : Heap, K.In base → base.Ns mainGlobals mg → FnOk l.prog w K mg base (L2.CX l.prog w) k fa fd [x] sp) :
    PySem.W.WalkO q loose XP YP l.row.toRowW d [] (fun f vs => PySem.call f vs) := by
  refine Att.attach_call hn hdf fun w s₀ s₁ mg mb fa o pm cd doc a vs ns G Y ho hd hcd hmg hobj hints hlen hg => ?_
  obtain ⟨K, fd, sp, KX, hb, hsp, hF⟩ := F w mg fa _ Y G.T.g hmg
  exact law_call KX G.T.g G.T.b G.T.builtins G.T.nolimit hg hobj hints (Nat.le_trans hlen hn2) hr hF hb (fun H hO hS => hsp H a ns hlen hO hS) fun H e s' => noCX H s₁ e s'
theorem ref_inj {f g : Addr} (h : some (Value.ref f) = some (Value.ref g)) : f = g := by
  cases h
  rfl
end Dl
/-! DlH4: the head of a law with closures: the tables of the defs that make them. -/
namespace Dl
open PySem PySem.Spec PyProof.Rows L2 NdefX
def ctsOf (K : PySem.W.Frag) (tq : List (He.Defn × Str)) : Cts := tq.map fun p => ((He.cT K p.1).1, (He.cT K p.1).2, p.2)
/-- the tables are different ones -/
def apart (K : PySem.W.Frag) (tf : List He.Defn) : Bool := decide ((tf.map fun p => (He.cT K p).2).Nodup)
theorem cts_un {K : PySem.W.Frag} {tq : List (He.Defn × Str)} (h : apart K (tq.map (·.1)) = true) : ∀ p ∈ ctsOf K tq, ∀ q ∈ ctsOf K tq, p.2.1 = q.2.1 → p.2.2 = q.2.2 := by
  have h := of_decide_eq_true h
  rw [List.map_map] at h
  intro p hp q hq e
  obtain ⟨a, ha, rfl⟩ := List.mem_map.mp hp
  obtain ⟨b, hb, rfl⟩ := List.mem_map.mp hq
  have key : ∀ (l : List (He.Defn × Str)), (l.map ((fun p => (He.cT K p).2) ∘ (·.1))).Nodup → a ∈ l → b ∈ l → (He.cT K a.1).2 = (He.cT K b.1).2 → a = b := by
    intro l
    induction l with
    | nil => intro _ h; cases h
    | cons x l ih =>
      intro nd h1 h2 e
      rw [List.map_cons, List.nodup_cons] at nd
      rcases List.mem_cons.mp h1 with e1 | k1
      · rcases List.mem_cons.mp h2 with e2 | k2
        · rw [e1, e2]
        · exact absurd (List.mem_map.mpr ⟨b, k2, by rw [← e1]; exact e.symm⟩) nd.1
      · rcases List.mem_cons.mp h2 with e2 | k2
        · exact absurd (List.mem_map.mpr ⟨a, k1, by rw [← e2]; exact e⟩) nd.1
        · exact ih nd.2 k1 k2 e
  rw [key tq h ha hb e]
theorem maker_of {K : PySem.W.Frag} {x qual : Str} {params : Arguments} {body : List Stmt} {scope : Scope} {fd : FuncData} {tq : List (He.Defn × Str)} {p : He.Defn} {q : Str} (F : FunD K x qual params body scope [] [] (He.fAd K p) fd) (h : (p, q) ∈ tq) :
    ∃ c Pt, fd.code = .ref c ∧ ((c, Pt, q) : Addr × Addr × Str) ∈ ctsOf K tq := by
  obtain ⟨oc, od, dV, kV, doc, pm, an, cdv, ct, osl, rfl, lk, hcd, _, _⟩ := F.ex
  obtain ⟨c, e⟩ := He.codeIn_ref hcd
  have e2 := He.codeOf_eq lk (show _ = Value.ref c from e)
  refine ⟨c, (He.cT K p).2, e, List.mem_map.mpr ⟨(p, q), h, ?_⟩⟩
  show ((He.cT K p).1, (He.cT K p).2, q) = _
  rw [show (He.cT K p).1 = c from e2]
theorem tabs_nil {nd : Nat → Option ND} {cts : Cts} {H : Hp} (h : ∀ p ∈ cts, H p.2.1 = some (.tbl #[])) : TabsN (TT nd cts).tabs H := fun pT hp => by
  obtain ⟨z, hz, rfl⟩ := List.mem_map.mp hp
  obtain ⟨y, hy, rfl⟩ := List.mem_map.mp hz
  exact TabN.nil (h y hy)
theorem walk_ofM {l : PySem.W.OpenLaw} {n k : Nat} {q : Program} {loose : List Str} {XP : (Str → Option Value) → Heap → Prop} {fa : List He.Fa} {fn : List He.DefD} {ts : List He.Tab} {tq : List (He.Defn × Str)} {ex : PySem.W.Frag → Bool} {d : DefRec} {x : Str}
    (hn : l.most = some n) (hn2 : n ≤ sizeLine) (hdf : d.params.defaults = []) (hr : Room k callerA)
    (F : ∀ (w : PySem.World) (K : PySem.W.Frag) (mg : Str → Option Value) (fa' : Addr) (h : Heap), K.In h → He.SaysX fa fn ts (tq.map (·.1)) ex w h K → h.Ns mainGlobals mg → mg d.name = some (.ref fa') →
      ∃ (fd : FuncData) (sp : Sp), (∀ (s : Shared) (u : Value), BindsTo s fd ⟨[u], []⟩ [(x, u)]) ∧
        (∀ (H : Hp) (a : Addr) (ns : List Int), ns.length ≤ n → (∀ p ∈ ctsOf K tq, H p.2.1 = some (.tbl #[])) → SqL K H a (ns.map V.int) → sp [.ref a] H (fun v _ => v = .bl true) fun _ _ _ => False) ∧
        ∀ base : Heap, K.In base → base.Ns mainGlobals mg → (∀ p ∈ ctsOf K tq, LamX.TabB base mg p.1 p.2.1) → FnOk l.prog w K mg base (L2.CX l.prog w) k fa' fd [x] sp) :
    PySem.W.WalkO q loose XP (fun w h => ∃ K : PySem.W.Frag, K.In h ∧ He.SaysX fa fn ts (tq.map (·.1)) ex w h K) l.row.toRowW d [] (fun f vs => PySem.call f vs) := by
  refine LamX.walk_ofTsE (x := x) (CX := fun w => L2.CX l.prog w) hn hn2 hdf hr (fun w mg fa' h Y G hmg => ?_) fun w H s e s' h => noCX H s e s' h
  obtain ⟨K, KX, c⟩ := Y
  obtain ⟨fd, sp, h1, h2, h3⟩ := F w K mg fa' h KX c G hmg
  have mem : ∀ p ∈ (ctsOf K tq).map (fun p => (p.1, p.2.1)), ∃ t ∈ tq.map (·.1), p = He.cT K t := fun p hp => by
    obtain ⟨z, hz, rfl⟩ := List.mem_map.mp hp
    obtain ⟨y, hy, rfl⟩ := List.mem_map.mp hz
    exact ⟨y.1, List.mem_map.mpr ⟨y, hy, rfl⟩, rfl⟩
  refine ⟨K, KX, fd, (ctsOf K tq).map fun p => (p.1, p.2.1), sp, fun p hp => ?_, fun p hp => ?_, fun p hp => ?_, h1, fun H a ns hl _ hT hS => ?_, fun base hK hN hB => ?_⟩
  · obtain ⟨t, ht, rfl⟩ := mem p hp
    exact c.empty t ht
  · obtain ⟨t, ht, rfl⟩ := mem p hp
    exact c.out t ht
  · obtain ⟨t, ht, rfl⟩ := mem p hp
    exact PySem.W.codeHd_of_K KX (c.hd t ht)
  · exact h2 H a ns hl (fun p hp => hT (p.1, p.2.1) (List.mem_map.mpr ⟨p, hp, rfl⟩)) hS
  · exact h3 base hK hN fun p hp => hB (p.1, p.2.1) (List.mem_map.mpr ⟨p, hp, rfl⟩)
end Dl
namespace Dl
open PySem PySem.Spec PyProof.Rows L2 NdefX
def b_is_integer (C : Cs) : Sd := (sRet (dAnd (dUn (gIsi [.int]) (dName 0)) (dUn gNot (dUn (gIsi [.bool]) (dName 0)))))
def b_is_within (C : Cs) : Sd := (sRet (dAnd (dCall C 1 (aCons (dName 0) aNil)) (dChain (gLe C.room) (gLe C.room) (dName 1) (dName 0) (dName 2))))
def b_is_pair (C : Cs) : Sd := (sRet (dAnd (dUn (gIsi [.tuple]) (dName 0)) (dBin (gEq C.room) (dBlt cLen (rCons (dName 0) rNil)) (dC (.int 2)))))
def b_is_triple (C : Cs) : Sd := (sRet (dAnd (dUn (gIsi [.tuple]) (dName 0)) (dBin (gEq C.room) (dBlt cLen (rCons (dName 0) rNil)) (dC (.int 3)))))
def b_is_word (C : Cs) : Sd := (sSeq (sIf (tOr' (tNot' (dTru (dUn (gIsi [.str]) (dName 0)))) (tNot' (dTst (dChain (gLe C.room) (gLe C.room) (dC (.int 1)) (dBlt cLen (rCons (dName 0) rNil)) (dC (.int 8)))))) (sRet (dC (.bl false))) sNil)
  (sRet (dBlt cAll (rCons (dComp (iTxt (dName 0)) [1] (gN 1) tYes' (dBin (inD false C.room) (dName 1) (dC (.str "abcdefghijklmnopqrstuvwxyz")))) rNil))))
def b_is_door (C : Cs) : Sd := (sRet (dAnd (dCall C 24 (aCons (dName 0) aNil)) (dBin (gEq C.room) (dBlt cLen (rCons (dName 0) rNil)) (dC (.int 1)))))
def b_is_part (C : Cs) : Sd := (sSeq (sIf (dTru (dCall C 4 (aCons (dName 0) aNil))) (sSeq (sIf (dTst (dBin (gEq C.room) (dBin gIx (dName 0) (dC (.int 0))) (dC (.str "name")))) (sRet (dCall C 24 (aCons (dBin gIx (dName 0) (dC (.int 1))) aNil))) sNil)
  (sSeq (sIf (dTst (dBin (gEq C.room) (dBin gIx (dName 0) (dC (.int 0))) (dC (.str "mark")))) (sRet (dAnd (dCall C 1 (aCons (dBin gIx (dName 0) (dC (.int 1))) aNil)) (dBin (gGe C.room) (dBin gIx (dName 0) (dC (.int 1))) (dC (.int 0))))) sNil)
  (sRet (dAnd (dBin (gEq C.room) (dBin gIx (dName 0) (dC (.int 0))) (dC (.str "got"))) (dCall C 2 (aCons (dBin gIx (dName 0) (dC (.int 1))) (aCons (dC (.int 0)) (aCons (dBin gSub (dName 1) (dC (.int 1))) aNil)))))))) sNil)
  (sSeq (sIf (tOr' (tNot' (dTru (dCall C 27 (aCons (dName 0) aNil)))) (tOr' (dTst (dBin (inD true C.room) (dBin gIx (dName 0) (dC (.int 0))) (dTup (aCons (dC (.str "letter")) (aCons (dC (.str "wait")) aNil))))) (tNot' (dTru (dCall C 26 (aCons (dBin gIx (dName 0) (dC (.int 1))) aNil)))))) (sRet (dC (.bl false))) sNil)
  (sRet (dCall C 25 (aCons (dBin gIx (dName 0) (dC (.int 2))) (aCons (dIf (dTst (dBin (gEq C.room) (dBin gIx (dName 0) (dC (.int 0))) (dC (.str "wait")))) (dBin gAdd (dName 1) (dC (.int 1))) (dName 1)) aNil))))))
def b_is_plan_in (C : Cs) : Sd := (sSeq (sIf (tNot' (dTru (dUn (gIsi [.tuple]) (dName 0)))) (sRet (dC (.bl false))) sNil)
  (sSeq (sFor (iSeq (dName 0)) (gN 2) (sIf (tOr' (tNot' (dTru (dCall C 4 (aCons (dName 2) aNil)))) (tOr' (tNot' (dTru (dCall C 1 (aCons (dBin gIx (dName 2) (dC (.int 0))) aNil)))) (tOr' (dTst (dBin (gLt C.room) (dBin gIx (dName 2) (dC (.int 0))) (dC (.int 1)))) (tNot' (dTru (dCall C 28 (aCons (dBin gIx (dName 2) (dC (.int 1))) (aCons (dName 1) aNil)))))))) (sRet (dC (.bl false))) sNil))
  (sRet (dC (.bl true)))))
def b_check_plan (C : Cs) : Sd := (sIf (tNot' (dTru (dCall C 25 (aCons (dName 0) (aCons (dC (.int 0)) aNil))))) sNever sNil)
def b_check_door (C : Cs) : Sd := (sIf (tNot' (dTru (dCall C 26 (aCons (dName 0) aNil)))) sNever sNil)
def b_check_word (C : Cs) : Sd := (sIf (tNot' (dTru (dCall C 24 (aCons (dName 0) aNil)))) sNever sNil)
def b_is_plan (C : Cs) : Sd := (sRet (dCall C 25 (aCons (dName 0) (aCons (dC (.int 0)) aNil))))
def b_part_size (C : Cs) : Sd := (sRet (dIf (dTst (dBin (gEq C.room) (dBlt cLen (rCons (dName 0) rNil)) (dC (.int 3)))) (dBin gAdd (dC (.int 1)) (dCall C 29 (aCons (dBin gIx (dName 0) (dC (.int 2))) aNil))) (dC (.int 1))))
def b_size_of (C : Cs) : Sd := (sRet (dBlt cSum (rCons (dComp (iSeq (dName 0)) [1, 2] (gT 2 (gsCons (gN 1) (gsCons (gN 2) gsNil))) tYes' (dBin gMul (dName 1) (dCall C 30 (aCons (dName 2) aNil)))) rNil)))
def b_size (C : Cs) : Sd := (sSeq (sExpr (dCall C 31 (aCons (dName 0) aNil)))
  (sRet (dCall C 29 (aCons (dName 0) aNil))))
def b_parts_within (C : Cs) : Sd := (sSeq (sSet 1 (dLst aNil))
  (sSeq (sFor (iSeq (dName 0)) (gT 2 (gsCons (gN 2) (gsCons (gN 3) gsNil))) (sSeq (sAppend 1 (dName 3))
  (sIf (dTst (dBin (gEq C.room) (dBlt cLen (rCons (dName 3) rNil)) (dC (.int 3)))) (sExtend 1 (dCall C 32 (aCons (dBin gIx (dName 3) (dC (.int 2))) aNil))) sNil)))
  (sRet (dName 1))))
def b_labels_of (C : Cs) : Sd := (sRet (dBlt cSortS (rCons (dKeys (iSeq (dCall C 32 (aCons (dName 0) aNil))) [2] (gN 2) (dTst (dBin (gEq C.room) (dBin gIx (dName 2) (dC (.int 0))) (dName 1))) (dBin gIx (dName 2) (dC (.int 1)))) rNil)))
def b_names (C : Cs) : Sd := (sSeq (sExpr (dCall C 31 (aCons (dName 0) aNil)))
  (sRet (dCall C 33 (aCons (dName 0) (aCons (dC (.str "name")) aNil)))))
def b_mapped (C : Cs) : Sd := (sSeq (sSet 3 (dLst aNil))
  (sSeq (sFor (iSeq (dName 0)) (gT 2 (gsCons (gN 4) (gsCons (gN 5) gsNil))) (sIf (dTst (dBin (gEq C.room) (dBin gIx (dName 5) (dC (.int 0))) (dC (.str "letter")))) (sAppend 3 (dTup (aCons (dName 4) (aCons (dTup (aCons (dC (.str "letter")) (aCons (dBin gIx (dName 5) (dC (.int 1))) (aCons (dCall C 34 (aCons (dBin gIx (dName 5) (dC (.int 2))) (aCons (dName 1) (aCons (dName 2) aNil)))) aNil)))) aNil)))) (sIf (dTst (dBin (gEq C.room) (dBin gIx (dName 5) (dC (.int 0))) (dC (.str "wait")))) (sAppend 3 (dTup (aCons (dName 4) (aCons (dTup (aCons (dC (.str "wait")) (aCons (dBin gIx (dName 5) (dC (.int 1))) (aCons (dCall C 34 (aCons (dBin gIx (dName 5) (dC (.int 2))) (aCons (dBin gAdd (dName 1) (dC (.int 1))) (aCons (dName 2) aNil)))) aNil)))) aNil)))) (sExtend 3 (dComp (iSeq (dAct C 2 (aCons (dName 5) (aCons (dName 1) aNil)))) [6, 7] (gT 2 (gsCons (gN 6) (gsCons (gN 7) gsNil))) tYes' (dTup (aCons (dBin gMul (dName 4) (dName 6)) (aCons (dName 7) aNil))))))))
  (sRet (dBlt cTuple (rCons (dName 3) rNil)))))
def b_bound_to'clo (C : Cs) : Ex := (dTup (aCons (dTup (aCons (dC (.int 1)) (aCons (dIf (dTst (dBin (gEq C.room) (dName 0) (dName 2))) (dTup (aCons (dC (.str "got")) (aCons (dName 1) aNil))) (dName 0)) aNil))) aNil))
def b_bound_to (C : Cs) : Sd := (sRet (dTup (aCons (dC (.str "wait")) (aCons (dName 0) (aCons (dClo C 34 50 [1] (aCons (dName 2) (aCons (dC (.int 0)) aNil))) aNil)))))
def b_letter (C : Cs) : Sd := (sSeq (sExpr (dCall C 35 (aCons (dName 0) aNil)))
  (sSeq (sExpr (dCall C 31 (aCons (dName 1) aNil)))
  (sRet (dTup (aCons (dTup (aCons (dC (.int 1)) (aCons (dTup (aCons (dC (.str "letter")) (aCons (dName 0) (aCons (dName 1) aNil)))) aNil))) aNil)))))
def b_wait (C : Cs) : Sd := (sSeq (sExpr (dCall C 35 (aCons (dName 0) aNil)))
  (sSeq (sExpr (dCall C 37 (aCons (dName 1) aNil)))
  (sSeq (sExpr (dCall C 31 (aCons (dName 2) aNil)))
  (sRet (dTup (aCons (dTup (aCons (dC (.int 1)) (aCons (dCall C 36 (aCons (dName 0) (aCons (dTup (aCons (dC (.str "name")) (aCons (dName 1) aNil))) (aCons (dName 2) aNil)))) aNil))) aNil))))))
def b__law_plan (C : Cs) : Sd := (sSeq (sSet 5 (dLst aNil))
  (sSeq (sFor (iRange rg1 (rCons (dC (.int 6)) rNil)) (gN 6) (sSeq (sIf (tOr' (dTst (dBin (gLt C.room) (dName 1) (dC (.int 1)))) (dTst (dBin (gEq C.room) (dCall C 11 (aCons (dName 0) (aCons (dC (.int 5)) aNil))) (dC (.int 0))))) sBreak sNil)
  (sSeq (sSet 7 (dBin gIx (dLst (aCons (dC (.int 1)) (aCons (dC (.int 1)) (aCons (dC (.int 1)) (aCons (dC (.int 2)) (aCons (dC (.int 3)) aNil)))))) (dCall C 11 (aCons (dName 0) (aCons (dC (.int 5)) aNil)))))
  (sSeq (sIf (dTst (dBin (gGt C.room) (dName 7) (dName 1))) (sSet 7 (dC (.int 1))) sNil)
  (sSeq (sSet 8 (dCall C 39 (aCons (dName 0) (aCons (dBin gFdiv (dName 1) (dName 7)) (aCons (dName 2) (aCons (dName 3) (aCons (dName 4) aNil)))))))
  (sSeq (sAppend 5 (dTup (aCons (dName 7) (aCons (dName 8) aNil))))
  (sSet 1 (dBin gSub (dName 1) (dBin gMul (dName 7) (dCall C 38 (aCons (dName 8) aNil)))))))))))
  (sRet (dBlt cTuple (rCons (dName 5) rNil)))))
def b__law_part (C : Cs) : Sd := (sSeq (sSet 5 (dCall C 11 (aCons (dName 0) (aCons (dC (.int 6)) aNil))))
  (sSeq (sIf (tAnd' (dTst (dBin (gLt C.room) (dName 1) (dC (.int 2)))) (dTst (dBin (gGt C.room) (dName 5) (dC (.int 3))))) (sSet 5 (dCall C 11 (aCons (dName 0) (aCons (dC (.int 4)) aNil)))) sNil)
  (sSeq (sSet 6 (dBin gIx (dName 3) (dCall C 11 (aCons (dName 0) (aCons (dBlt cLen (rCons (dName 3) rNil)) aNil)))))
  (sSeq (sIf (tAnd' (dTst (dBin (gEq C.room) (dName 5) (dC (.int 0)))) (dTst (dBin (gGt C.room) (dBlt cLen (rCons (dName 4) rNil)) (dC (.int 0))))) (sRet (dTup (aCons (dC (.str "name")) (aCons (dBin gIx (dName 4) (dCall C 11 (aCons (dName 0) (aCons (dBlt cLen (rCons (dName 4) rNil)) aNil)))) aNil)))) sNil)
  (sSeq (sIf (tAnd' (dTst (dBin (gLt C.room) (dName 5) (dC (.int 2)))) (dTst (dBin (gGt C.room) (dName 2) (dC (.int 0))))) (sRet (dTup (aCons (dC (.str "got")) (aCons (dBin gIx (dLst (aCons (dC (.int 0)) (aCons (dC (.int 0)) (aCons (dCall C 11 (aCons (dName 0) (aCons (dName 2) aNil))) aNil)))) (dCall C 11 (aCons (dName 0) (aCons (dC (.int 3)) aNil)))) aNil)))) sNil)
  (sSeq (sIf (tOr' (dTst (dBin (gEq C.room) (dName 5) (dC (.int 2)))) (dTst (dBin (gEq C.room) (dName 5) (dC (.int 4))))) (sRet (dTup (aCons (dC (.str "letter")) (aCons (dName 6) (aCons (dCall C 40 (aCons (dName 0) (aCons (dBin gSub (dName 1) (dC (.int 1))) (aCons (dName 2) (aCons (dName 3) (aCons (dName 4) aNil)))))) aNil))))) sNil)
  (sRet (dTup (aCons (dC (.str "wait")) (aCons (dName 6) (aCons (dCall C 40 (aCons (dName 0) (aCons (dBin gSub (dName 1) (dC (.int 1))) (aCons (dBin gAdd (dName 2) (dC (.int 1))) (aCons (dName 3) (aCons (dName 4) aNil)))))) aNil)))))))))))
def b__law_part_size (C : Cs) : Sd := (sSeq (sIf (dTst (dBin (gEq C.room) (dBlt cLen (rCons (dName 0) rNil)) (dC (.int 3)))) (sRet (dBin gAdd (dC (.int 1)) (dCall C 41 (aCons (dBin gIx (dName 0) (dC (.int 2))) aNil)))) sNil)
  (sRet (dC (.int 1))))
def b__law_size (C : Cs) : Sd := (sRet (dBlt cSum (rCons (dComp (iSeq (dName 0)) [1, 2] (gT 2 (gsCons (gN 1) (gsCons (gN 2) gsNil))) tYes' (dBin gMul (dName 1) (dCall C 38 (aCons (dName 2) aNil)))) rNil)))
def b__law_caught (C : Cs) : Sd := (sSeq (sSet 3 (dLst aNil))
  (sSeq (sFor (iSeq (dName 0)) (gT 2 (gsCons (gN 4) (gsCons (gN 5) gsNil))) (sSeq (sIf (dTst (dBin (gEq C.room) (dName 5) (dTup (aCons (dC (.str "name")) (aCons (dName 1) aNil))))) (sSet 5 (dTup (aCons (dC (.str "got")) (aCons (dName 2) aNil)))) sNil)
  (sSeq (sIf (dTst (dBin (gEq C.room) (dBin gIx (dName 5) (dC (.int 0))) (dC (.str "letter")))) (sSet 5 (dTup (aCons (dC (.str "letter")) (aCons (dBin gIx (dName 5) (dC (.int 1))) (aCons (dCall C 42 (aCons (dBin gIx (dName 5) (dC (.int 2))) (aCons (dName 1) (aCons (dName 2) aNil)))) aNil))))) sNil)
  (sSeq (sIf (dTst (dBin (gEq C.room) (dBin gIx (dName 5) (dC (.int 0))) (dC (.str "wait")))) (sSet 5 (dTup (aCons (dC (.str "wait")) (aCons (dBin gIx (dName 5) (dC (.int 1))) (aCons (dCall C 42 (aCons (dBin gIx (dName 5) (dC (.int 2))) (aCons (dName 1) (aCons (dBin gAdd (dName 2) (dC (.int 1))) aNil)))) aNil))))) sNil)
  (sAppend 3 (dTup (aCons (dName 4) (aCons (dName 5) aNil))))))))
  (sRet (dBlt cTuple (rCons (dName 3) rNil)))))
def b__law_freed (C : Cs) : Sd := (sSeq (sSet 3 (dLst aNil))
  (sSeq (sFor (iSeq (dName 0)) (gT 2 (gsCons (gN 4) (gsCons (gN 5) gsNil))) (sSeq (sIf (dTst (dBin (gEq C.room) (dName 5) (dTup (aCons (dC (.str "got")) (aCons (dName 2) aNil))))) (sSet 5 (dTup (aCons (dC (.str "name")) (aCons (dName 1) aNil)))) sNil)
  (sSeq (sIf (dTst (dBin (gEq C.room) (dBin gIx (dName 5) (dC (.int 0))) (dC (.str "letter")))) (sSet 5 (dTup (aCons (dC (.str "letter")) (aCons (dBin gIx (dName 5) (dC (.int 1))) (aCons (dCall C 43 (aCons (dBin gIx (dName 5) (dC (.int 2))) (aCons (dName 1) (aCons (dName 2) aNil)))) aNil))))) sNil)
  (sSeq (sIf (dTst (dBin (gEq C.room) (dBin gIx (dName 5) (dC (.int 0))) (dC (.str "wait")))) (sSet 5 (dTup (aCons (dC (.str "wait")) (aCons (dBin gIx (dName 5) (dC (.int 1))) (aCons (dCall C 43 (aCons (dBin gIx (dName 5) (dC (.int 2))) (aCons (dName 1) (aCons (dBin gAdd (dName 2) (dC (.int 1))) aNil)))) aNil))))) sNil)
  (sAppend 3 (dTup (aCons (dName 4) (aCons (dName 5) aNil))))))))
  (sRet (dBlt cTuple (rCons (dName 3) rNil)))))
def b_law_49 (C : Cs) : Sd := (sSeq (sSetW 1 (dCall C 22 (aCons (dName 0) aNil)))
  (sSeq (sFor (iRange rg1 (rCons (dC (.int 4)) rNil)) (gN 2) (sSeq (sSet 3 (dCall C 40 (aCons (dName 1) (aCons (dBin gAdd (dC (.int 1)) (dCall C 11 (aCons (dName 1) (aCons (dC (.int 14)) aNil)))) (aCons (dC (.int 0)) (aCons (dC (.str "abz")) (aCons (dLst (aCons (dC (.str "x")) (aCons (dC (.str "yy")) (aCons (dC (.str "z")) aNil)))) aNil)))))))
  (sSeq (sSet 4 (dBin gIx (dC (.str "abc")) (dCall C 11 (aCons (dName 1) (aCons (dC (.int 3)) aNil)))))
  (sSeq (sSet 5 (dBin gIx (dLst (aCons (dC (.str "x")) (aCons (dC (.str "yy")) (aCons (dC (.str "z")) (aCons (dC (.str "unknown")) aNil))))) (dCall C 11 (aCons (dName 1) (aCons (dC (.int 4)) aNil)))))
  (sSeq (sIf (tOr' (dTst (dBin (gNe C.room) (dCall C 45 (aCons (dName 4) (aCons (dName 3) aNil))) (dTup (aCons (dTup (aCons (dC (.int 1)) (aCons (dTup (aCons (dC (.str "letter")) (aCons (dName 4) (aCons (dName 3) aNil)))) aNil))) aNil)))) (dTst (dBin (gNe C.room) (dCall C 47 (aCons (dCall C 45 (aCons (dName 4) (aCons (dName 3) aNil))) aNil)) (dBin gAdd (dCall C 47 (aCons (dName 3) aNil)) (dC (.int 1)))))) (sRet (dC (.bl false))) sNil)
  (sSeq (sSet 6 (dCall C 44 (aCons (dName 4) (aCons (dName 5) (aCons (dName 3) aNil)))))
  (sSeq (sIf (tOr' (dTst (dBin (gNe C.room) (dName 6) (dTup (aCons (dTup (aCons (dC (.int 1)) (aCons (dTup (aCons (dC (.str "wait")) (aCons (dName 4) (aCons (dCall C 42 (aCons (dName 3) (aCons (dName 5) (aCons (dC (.int 0)) aNil)))) aNil)))) aNil))) aNil)))) (tNot' (dTru (dCall C 48 (aCons (dName 6) aNil))))) (sRet (dC (.bl false))) sNil)
  (sSeq (sIf (tOr' (dTst (dBin (gNe C.room) (dCall C 47 (aCons (dName 6) aNil)) (dBin gAdd (dCall C 47 (aCons (dName 3) aNil)) (dC (.int 1))))) (dTst (dBin (gNe C.room) (dCall C 46 (aCons (dName 6) aNil)) (dComp (iSeq (dCall C 46 (aCons (dName 3) aNil))) [7] (gN 7) (dTst (dBin (gNe C.room) (dName 7) (dName 5))) (dName 7))))) (sRet (dC (.bl false))) sNil)
  (sSeq (sIf (dTst (dBin (gNe C.room) (dCall C 43 (aCons (dBin gIx (dBin gIx (dBin gIx (dName 6) (dC (.int 0))) (dC (.int 1))) (dC (.int 2))) (aCons (dName 5) (aCons (dC (.int 0)) aNil)))) (dName 3))) (sRet (dC (.bl false))) sNil)
  (sSeq (sSet 8 (dCall C 44 (aCons (dC (.str "b")) (aCons (dC (.str "x")) (aCons (dCall C 45 (aCons (dName 4) (aCons (dName 6) aNil))) aNil)))))
  (sIf (dTst (dBin (gNe C.room) (dBin gIx (dBin gIx (dBin gIx (dName 8) (dC (.int 0))) (dC (.int 1))) (dC (.int 2))) (dCall C 42 (aCons (dCall C 45 (aCons (dName 4) (aCons (dName 6) aNil))) (aCons (dC (.str "x")) (aCons (dC (.int 0)) aNil)))))) (sRet (dC (.bl false))) sNil)))))))))))
  (sRet (dAnd (dBin (gEq C.room) (dCall C 45 (aCons (dC (.str "z")) (aCons (dTup aNil) aNil))) (dTup (aCons (dTup (aCons (dC (.int 1)) (aCons (dTup (aCons (dC (.str "letter")) (aCons (dC (.str "z")) (aCons (dTup aNil) aNil)))) aNil))) aNil))) (dBin (gEq C.room) (dCall C 44 (aCons (dC (.str "a")) (aCons (dC (.str "x")) (aCons (dTup aNil) aNil)))) (dTup (aCons (dTup (aCons (dC (.int 1)) (aCons (dTup (aCons (dC (.str "wait")) (aCons (dC (.str "a")) (aCons (dTup aNil) aNil)))) aNil))) aNil)))))))
end Dl
namespace Dl
open PySem PySem.Spec PyProof.Rows L2 NdefX
def b_items_in (C : Cs) : Sd := (sRet (dBlt cLen (rCons (dCall C 32 (aCons (dName 0) aNil)) rNil)))
def b_nesting (C : Cs) : Sd := (sRet (dBlt cMax1 (rCons (dBin gAdd (dLst (aCons (dC (.int 0)) aNil)) (dComp (iSeq (dName 0)) [1, 2] (gT 2 (gsCons (gN 1) (gsCons (gN 2) gsNil))) (dTst (dBin (gEq C.room) (dBlt cLen (rCons (dName 2) rNil)) (dC (.int 3)))) (dBin gAdd (dC (.int 1)) (dCall C 51 (aCons (dBin gIx (dName 2) (dC (.int 2))) aNil))))) rNil)))
def b_check_room (C : Cs) : Sd := (sIf (dTst (dBin (gGt C.room) (dName 0) (dC (.int 5000)))) sNever sNil)
def b_roomy (C : Cs) : Sd := (sSeq (sExpr (dCall C 53 (aCons (dCall C 52 (aCons (dName 0) aNil)) aNil)))
  (sSeq (sIf (dTst (dBin (gGt C.room) (dCall C 51 (aCons (dName 0) aNil)) (dC (.int 120)))) sNever sNil)
  (sRet (dName 0))))
def b_raised'clo (C : Cs) : Sd := (sSeq (sIf (tAnd' (dTst (dBin (gEq C.room) (dBin gIx (dName 0) (dC (.int 0))) (dC (.str "got")))) (dTst (dBin (gGe C.room) (dBin gIx (dName 0) (dC (.int 1))) (dBin gAdd (dName 1) (dName 2))))) (sRet (dTup (aCons (dTup (aCons (dC (.int 1)) (aCons (dTup (aCons (dC (.str "got")) (aCons (dBin gAdd (dBin gIx (dName 0) (dC (.int 1))) (dName 3)) aNil))) aNil))) aNil))) sNil)
  (sRet (dTup (aCons (dTup (aCons (dC (.int 1)) (aCons (dName 0) aNil))) aNil))))
def b_raised (C : Cs) : Sd := (sDefRet 3 (dClo C 34 55 [2, 1] (aCons (dName 0) (aCons (dC (.int 0)) aNil))))
def b_replaced'clo (C : Cs) : Ex := (dIf (dTst (dBin (gEq C.room) (dName 0) (dName 2))) (dCall C 57 (aCons (dName 3) (aCons (dName 1) (aCons (dC (.int 0)) aNil)))) (dTup (aCons (dTup (aCons (dC (.int 1)) (aCons (dName 0) aNil))) aNil)))
def b_replaced (C : Cs) : Sd := (sRet (dClo C 34 56 [1, 2] (aCons (dName 0) (aCons (dC (.int 0)) aNil))))
def b_roomy_replaced (C : Cs) : Sd := (sSeq (sSet 3 (dBlt cLen (rCons (dComp (iSeq (dCall C 32 (aCons (dName 0) aNil))) [4] (gN 4) (dTst (dBin (gEq C.room) (dName 4) (dName 1))) (dName 4)) rNil)))
  (sSeq (sExpr (dCall C 53 (aCons (dBin gAdd (dCall C 52 (aCons (dName 0) aNil)) (dBin gMul (dName 3) (dBin gSub (dCall C 52 (aCons (dName 2) aNil)) (dC (.int 1))))) aNil)))
  (sRet (dCall C 59 (aCons (dCall C 58 (aCons (dName 0) (aCons (dName 1) (aCons (dName 2) aNil)))) aNil)))))
def b_put (C : Cs) : Sd := (sSeq (sExpr (dCall C 31 (aCons (dName 0) aNil)))
  (sSeq (sExpr (dCall C 37 (aCons (dName 1) aNil)))
  (sSeq (sExpr (dCall C 31 (aCons (dName 2) aNil)))
  (sRet (dCall C 61 (aCons (dName 0) (aCons (dTup (aCons (dC (.str "name")) (aCons (dName 1) aNil))) (aCons (dName 2) aNil))))))))
def b_check_mark (C : Cs) : Sd := (sIf (tOr' (tNot' (dTru (dCall C 1 (aCons (dName 0) aNil)))) (dTst (dBin (gLt C.room) (dName 0) (dC (.int 0))))) sNever sNil)
def b_mark_put (C : Cs) : Sd := (sSeq (sExpr (dCall C 31 (aCons (dName 0) aNil)))
  (sSeq (sExpr (dCall C 62 (aCons (dName 1) aNil)))
  (sSeq (sExpr (dCall C 31 (aCons (dName 2) aNil)))
  (sRet (dCall C 61 (aCons (dName 0) (aCons (dTup (aCons (dC (.str "mark")) (aCons (dName 1) aNil))) (aCons (dName 2) aNil))))))))
def b__law_replaced (C : Cs) : Sd := (sSeq (sSet 3 (dLst aNil))
  (sSeq (sFor (iSeq (dName 0)) (gT 2 (gsCons (gN 4) (gsCons (gN 5) gsNil))) (sIf (dTst (dBin (gEq C.room) (dName 5) (dName 1))) (sSet 3 (dBin gAdd (dName 3) (dComp (iSeq (dName 2)) [6, 7] (gT 2 (gsCons (gN 6) (gsCons (gN 7) gsNil))) tYes' (dTup (aCons (dBin gMul (dName 4) (dName 6)) (aCons (dName 7) aNil)))))) (sIf (dTst (dBin (gEq C.room) (dBlt cLen (rCons (dName 5) rNil)) (dC (.int 3)))) (sAppend 3 (dTup (aCons (dName 4) (aCons (dTup (aCons (dBin gIx (dName 5) (dC (.int 0))) (aCons (dBin gIx (dName 5) (dC (.int 1))) (aCons (dCall C 75 (aCons (dBin gIx (dName 5) (dC (.int 2))) (aCons (dName 1) (aCons (dName 2) aNil)))) aNil)))) aNil)))) (sAppend 3 (dTup (aCons (dName 4) (aCons (dName 5) aNil)))))))
  (sRet (dBlt cTuple (rCons (dName 3) rNil)))))
def b__law_copies (C : Cs) : Sd := (sSeq (sSet 2 (dC (.int 0)))
  (sSeq (sFor (iSeq (dName 0)) (gT 2 (gsCons (gN 3) (gsCons (gN 4) gsNil))) (sSeq (sIf (dTst (dBin (gEq C.room) (dName 4) (dName 1))) (sSet 2 (dBin gAdd (dName 2) (dName 3))) sNil)
  (sIf (dTst (dBin (gEq C.room) (dBlt cLen (rCons (dName 4) rNil)) (dC (.int 3)))) (sSet 2 (dBin gAdd (dName 2) (dBin gMul (dName 3) (dCall C 76 (aCons (dBin gIx (dName 4) (dC (.int 2))) (aCons (dName 1) aNil)))))) sNil)))
  (sRet (dName 2))))
def b_law_77 (C : Cs) : Sd := (sSeq (sSetW 1 (dCall C 22 (aCons (dName 0) aNil)))
  (sSeq (sSet 2 (dBin (gEq C.room) (dCall C 11 (aCons (dName 1) (aCons (dC (.int 4)) aNil))) (dC (.int 0))))
  (sSeq (sSet 3 (dFrz (dLst (aCons (dC (.str "x")) (aCons (dC (.str "yy")) (aCons (dC (.str "z")) aNil))))))
  (sSeq (sSet 4 (dCall C 40 (aCons (dName 1) (aCons (dBin gAdd (dC (.int 1)) (dCall C 11 (aCons (dName 1) (aCons (dC (.int 12)) aNil)))) (aCons (dC (.int 0)) (aCons (dC (.str "ab")) (aCons (dName 3) aNil)))))))
  (sSeq (sSet 5 (dCall C 40 (aCons (dName 1) (aCons (dCall C 11 (aCons (dName 1) (aCons (dC (.int 7)) aNil))) (aCons (dC (.int 0)) (aCons (dC (.str "bc")) (aCons (dName 3) aNil)))))))
  (sSeq (sIf (dTru (dName 2)) (sSet 5 (dBin gAdd (dName 5) (dTup (aCons (dTup (aCons (dBin gPow (dC (.int 10)) (dC (.int 30))) (aCons (dTup (aCons (dC (.str "name")) (aCons (dC (.str "z")) aNil))) aNil))) (aCons (dTup (aCons (dC (.int 3)) (aCons (dTup (aCons (dC (.str "letter")) (aCons (dC (.str "c")) (aCons (dTup aNil) aNil)))) aNil))) aNil))))) sNil)
  (sSeq (sFor (iSeq (dLst (aCons (dC (.str "x")) (aCons (dC (.str "yy")) (aCons (dC (.str "unknown")) aNil))))) (gN 6) (sSeq (sSet 7 (dCall C 73 (aCons (dName 4) (aCons (dName 6) (aCons (dName 5) aNil)))))
  (sSeq (sIf (tOr' (dTst (dBin (gNe C.room) (dName 7) (dCall C 75 (aCons (dName 4) (aCons (dTup (aCons (dC (.str "name")) (aCons (dName 6) aNil))) (aCons (dName 5) aNil)))))) (dTst (dBin gIsNot (dCall C 48 (aCons (dName 7) aNil)) (dC (.bl true))))) (sRet (dC (.bl false))) sNil)
  (sSeq (sSet 8 (dCall C 76 (aCons (dName 4) (aCons (dTup (aCons (dC (.str "name")) (aCons (dName 6) aNil))) aNil))))
  (sSeq (sIf (dTst (dBin (gNe C.room) (dCall C 47 (aCons (dName 7) aNil)) (dBin gAdd (dBin gSub (dCall C 47 (aCons (dName 4) aNil)) (dName 8)) (dBin gMul (dName 8) (dCall C 47 (aCons (dName 5) aNil)))))) (sRet (dC (.bl false))) sNil)
  (sIf (dTst (dBin (gNe C.room) (dCall C 73 (aCons (dName 4) (aCons (dName 6) (aCons (dTup (aCons (dTup (aCons (dC (.int 1)) (aCons (dTup (aCons (dC (.str "name")) (aCons (dName 6) aNil))) aNil))) aNil)) aNil)))) (dName 4))) (sRet (dC (.bl false))) sNil))))))
  (sSeq (sSet 9 (dCall C 73 (aCons (dName 5) (aCons (dC (.str "yy")) (aCons (dTup aNil) aNil)))))
  (sSeq (sIf (tAnd' (dTst (dBin (gNe C.room) (dCall C 73 (aCons (dCall C 73 (aCons (dName 4) (aCons (dC (.str "x")) (aCons (dName 9) aNil)))) (aCons (dC (.str "yy")) (aCons (dName 5) aNil)))) (dCall C 73 (aCons (dCall C 73 (aCons (dName 4) (aCons (dC (.str "yy")) (aCons (dName 5) aNil)))) (aCons (dC (.str "x")) (aCons (dName 9) aNil)))))) (dTst (dBin (inD true C.room) (dC (.str "x")) (dCall C 46 (aCons (dName 5) aNil))))) (sRet (dC (.bl false))) sNil)
  (sSeq (sSet 10 (dCall C 73 (aCons (dName 4) (aCons (dC (.str "x")) (aCons (dTup (aCons (dTup (aCons (dC (.int 2)) (aCons (dTup (aCons (dC (.str "mark")) (aCons (dC (.int 3)) aNil))) aNil))) aNil)) aNil)))))
  (sSeq (sIf (dTst (dBin (gNe C.room) (dName 10) (dCall C 75 (aCons (dName 4) (aCons (dTup (aCons (dC (.str "name")) (aCons (dC (.str "x")) aNil))) (aCons (dTup (aCons (dTup (aCons (dC (.int 2)) (aCons (dTup (aCons (dC (.str "mark")) (aCons (dC (.int 3)) aNil))) aNil))) aNil)) aNil)))))) (sRet (dC (.bl false))) sNil)
  (sSeq (sIf (tOr' (dTst (dBin (gNe C.room) (dCall C 65 (aCons (dName 10) (aCons (dC (.int 3)) (aCons (dName 5) aNil)))) (dCall C 75 (aCons (dName 10) (aCons (dTup (aCons (dC (.str "mark")) (aCons (dC (.int 3)) aNil))) (aCons (dName 5) aNil)))))) (dTst (dBin (gNe C.room) (dCall C 65 (aCons (dName 10) (aCons (dC (.int 4)) (aCons (dName 5) aNil)))) (dName 10)))) (sRet (dC (.bl false))) sNil)
  (sRet (dAnd (dBin (gEq C.room) (dCall C 73 (aCons (dTup aNil) (aCons (dC (.str "x")) (aCons (dName 5) aNil)))) (dTup aNil)) (dBin (gEq C.room) (dCall C 73 (aCons (dTup (aCons (dTup (aCons (dC (.int 1)) (aCons (dTup (aCons (dC (.str "name")) (aCons (dC (.str "x")) aNil))) aNil))) aNil)) (aCons (dC (.str "x")) (aCons (dName 5) aNil)))) (dName 5))))))))))))))))
end Dl
namespace Dl
open PySem PySem.Spec PyProof.Rows L2 NdefX
def t_LENGTHS : List (Str × D) := [("swap", .int 3), ("join", .int 3), ("split", .int 4), ("fold", .int 3), ("unfold", .int 4)]
def b_has_step_form (C : Cs) : Sd := (sSeq (sIf (tOr' (tNot' (dTru (dUn (gIsi [.tuple]) (dName 0)))) (tOr' (dTst (dBin (gLt C.room) (dBlt cLen (rCons (dName 0) rNil)) (dC (.int 3)))) (tNot' (dTru (dUn (gIsi [.str]) (dBin gIx (dName 0) (dC (.int 0)))))))) (sRet (dC (.bl false))) sNil)
  (sSeq (sIf (tOr' (dTst (dBin (gNe C.room) (dUn (gGetK t_LENGTHS) (dBin gIx (dName 0) (dC (.int 0)))) (dBlt cLen (rCons (dName 0) rNil)))) (tNot' (dTru (dUn (gIsi [.tuple]) (dBin gIx (dName 0) (dC (.int 1))))))) (sRet (dC (.bl false))) sNil)
  (sRet (dBlt cAll (rCons (dComp (iSeq (dBin gAdd (dBin gIx (dName 0) (dC (.int 1))) (dSl (dName 0) (some (dC (.int 2))) none))) [1] (gN 1) tYes' (dCall C 1 (aCons (dName 1) aNil))) rNil)))))
def b_joined_pair (C : Cs) : Sd := (sSeq (sIf (dTst (dBin (gNe C.room) (dBin gIx (dName 0) (dC (.int 1))) (dBin gIx (dName 1) (dC (.int 1))))) (sRet (dC .non)) sNil)
  (sRet (dTup (aCons (dTup (aCons (dBin gAdd (dBin gIx (dName 0) (dC (.int 0))) (dBin gIx (dName 1) (dC (.int 0)))) (aCons (dBin gIx (dName 0) (dC (.int 1))) aNil))) aNil))))
def b_split_item (C : Cs) : Sd := (sSeq (sAsg (gT 2 (gsCons (gN 2) (gsCons (gN 3) gsNil))) (dName 0))
  (sSeq (sIf (tNot' (dTru (dCall C 2 (aCons (dName 1) (aCons (dC (.int 1)) (aCons (dBin gSub (dName 2) (dC (.int 1))) aNil)))))) (sRet (dC .non)) sNil)
  (sRet (dTup (aCons (dTup (aCons (dName 1) (aCons (dName 3) aNil))) (aCons (dTup (aCons (dBin gSub (dName 2) (dName 1)) (aCons (dName 3) aNil))) aNil))))))
def b_folded_item (C : Cs) : Sd := (sSeq (sAsg (gT 2 (gsCons (gN 1) (gsCons (gN 2) gsNil))) (dName 0))
  (sSeq (sIf (tOr' (dTst (dBin (gNe C.room) (dBin gIx (dName 2) (dC (.int 0))) (dC (.str "wait")))) (tNot' (dTru (dBin gIx (dName 2) (dC (.int 2)))))) (sRet (dC .non)) sNil)
  (sSeq (sSet 3 (dSl (dBin gIx (dName 2) (dC (.int 2))) none (some (dUn gNeg (dC (.int 1))))))
  (sSeq (sAsg (gT 2 (gsCons (gN 4) (gsCons (gN 5) gsNil))) (dBin gIx (dBin gIx (dName 2) (dC (.int 2))) (dUn gNeg (dC (.int 1)))))
  (sSeq (sIf (dTst (dBin (gNe C.room) (dName 5) (dTup (aCons (dC (.str "wait")) (aCons (dBin gIx (dName 2) (dC (.int 1))) (aCons (dCall C 57 (aCons (dName 3) (aCons (dC (.int 1)) (aCons (dC (.int 1)) aNil)))) aNil)))))) (sRet (dC .non)) sNil)
  (sRet (dTup (aCons (dTup (aCons (dBin gMul (dName 1) (dBin gAdd (dName 4) (dC (.int 1)))) (aCons (dTup (aCons (dC (.str "wait")) (aCons (dBin gIx (dName 2) (dC (.int 1))) (aCons (dName 3) aNil)))) aNil))) aNil))))))))
def b_unfolded_item (C : Cs) : Sd := (sSeq (sAsg (gT 2 (gsCons (gN 2) (gsCons (gN 3) gsNil))) (dName 0))
  (sSeq (sIf (tOr' (dTst (dBin (gNe C.room) (dBin gIx (dName 3) (dC (.int 0))) (dC (.str "wait")))) (tOr' (dTst (dBin (gLt C.room) (dName 1) (dC (.int 2)))) (dTst (dBin (gNe C.room) (dBin gMod (dName 2) (dName 1)) (dC (.int 0)))))) (sRet (dC .non)) sNil)
  (sSeq (sSet 4 (dTup (aCons (dBin gSub (dName 1) (dC (.int 1))) (aCons (dTup (aCons (dC (.str "wait")) (aCons (dBin gIx (dName 3) (dC (.int 1))) (aCons (dCall C 57 (aCons (dBin gIx (dName 3) (dC (.int 2))) (aCons (dC (.int 1)) (aCons (dC (.int 1)) aNil)))) aNil)))) aNil))))
  (sRet (dTup (aCons (dTup (aCons (dBin gFdiv (dName 2) (dName 1)) (aCons (dTup (aCons (dC (.str "wait")) (aCons (dBin gIx (dName 3) (dC (.int 1))) (aCons (dBin gAdd (dBin gIx (dName 3) (dC (.int 2))) (dTup (aCons (dName 4) aNil))) aNil)))) aNil))) aNil))))))
def b_done_here (C : Cs) : Sd := (sSeq (sPar 2 3 (aCons (dBin gIx (dName 1) (dC (.int 0))) (aCons (dBin gIx (dName 1) (dC (.int 2))) aNil)))
  (sSeq (sSet 4 (dIf (dTst (dBin (inD false C.room) (dName 2) (dTup (aCons (dC (.str "swap")) (aCons (dC (.str "join")) aNil))))) (dC (.int 2)) (dC (.int 1))))
  (sSeq (sIf (tNot' (dTru (dCall C 2 (aCons (dName 3) (aCons (dC (.int 0)) (aCons (dBin gSub (dBlt cLen (rCons (dName 0) rNil)) (dName 4)) aNil)))))) (sRet (dC .non)) sNil)
  (sSeq (sIf (dTst (dBin (gEq C.room) (dName 2) (dC (.str "swap")))) (sSet 5 (dTup (aCons (dBin gIx (dName 0) (dBin gAdd (dName 3) (dC (.int 1)))) (aCons (dBin gIx (dName 0) (dName 3)) aNil)))) (sIf (dTst (dBin (gEq C.room) (dName 2) (dC (.str "join")))) (sSet 5 (dCall C 78 (aCons (dBin gIx (dName 0) (dName 3)) (aCons (dBin gIx (dName 0) (dBin gAdd (dName 3) (dC (.int 1)))) aNil)))) (sIf (dTst (dBin (gEq C.room) (dName 2) (dC (.str "split")))) (sSet 5 (dCall C 79 (aCons (dBin gIx (dName 0) (dName 3)) (aCons (dBin gIx (dName 1) (dC (.int 3))) aNil)))) (sIf (dTst (dBin (gEq C.room) (dName 2) (dC (.str "fold")))) (sSet 5 (dCall C 80 (aCons (dBin gIx (dName 0) (dName 3)) aNil))) (sSet 5 (dCall C 81 (aCons (dBin gIx (dName 0) (dName 3)) (aCons (dBin gIx (dName 1) (dC (.int 3))) aNil))))))))
  (sRet (dIf (dTst (dBin gIs (dName 5) (dC .non))) (dC .non) (dBin gAdd (dBin gAdd (dSl (dName 0) none (some (dName 3))) (dName 5)) (dSl (dName 0) (some (dBin gAdd (dName 3) (dName 4))) none))))))))
def b_done_at (C : Cs) : Sd := (sSeq (sIf (tNot' (dTru (dName 1))) (sRet (dCall C 83 (aCons (dName 0) (aCons (dName 2) aNil)))) sNil)
  (sSeq (sSet 3 (dBin gIx (dName 1) (dC (.int 0))))
  (sSeq (sIf (tOr' (tNot' (dTru (dCall C 2 (aCons (dName 3) (aCons (dC (.int 0)) (aCons (dBin gSub (dBlt cLen (rCons (dName 0) rNil)) (dC (.int 1))) aNil)))))) (dTst (dBin (gNe C.room) (dBlt cLen (rCons (dBin gIx (dBin gIx (dName 0) (dName 3)) (dC (.int 1))) rNil)) (dC (.int 3))))) (sRet (dC .non)) sNil)
  (sSeq (sAsg (gT 2 (gsCons (gN 4) (gsCons (gN 5) gsNil))) (dBin gIx (dName 0) (dName 3)))
  (sSeq (sSet 6 (dCall C 82 (aCons (dBin gIx (dName 5) (dC (.int 2))) (aCons (dSl (dName 1) (some (dC (.int 1))) none) (aCons (dName 2) aNil)))))
  (sSeq (sIf (dTst (dBin gIs (dName 6) (dC .non))) (sRet (dC .non)) sNil)
  (sRet (dBin gAdd (dBin gAdd (dSl (dName 0) none (some (dName 3))) (dTup (aCons (dTup (aCons (dName 4) (aCons (dTup (aCons (dBin gIx (dName 5) (dC (.int 0))) (aCons (dBin gIx (dName 5) (dC (.int 1))) (aCons (dName 6) aNil)))) aNil))) aNil))) (dSl (dName 0) (some (dBin gAdd (dName 3) (dC (.int 1)))) none)))))))))
def b_step_done (C : Cs) : Sd := (sSeq (sIf (tNot' (dTru (dCall C 84 (aCons (dName 1) aNil)))) (sRet (dC .non)) sNil)
  (sSeq (sSet 2 (dCall C 82 (aCons (dName 0) (aCons (dBin gIx (dName 1) (dC (.int 1))) (aCons (dName 1) aNil)))))
  (sSeq (sIf (tOr' (dTst (dBin gIs (dName 2) (dC .non))) (tOr' (dTst (dBin (gGt C.room) (dCall C 52 (aCons (dName 2) aNil)) (dC (.int 5000)))) (dTst (dBin (gGt C.room) (dCall C 51 (aCons (dName 2) aNil)) (dC (.int 120)))))) (sRet (dC .non)) sNil)
  (sRet (dName 2)))))
def b_stepped (C : Cs) : Sd := (sSeq (sExpr (dCall C 31 (aCons (dName 0) aNil)))
  (sSeq (sSet 2 (dCall C 85 (aCons (dName 0) (aCons (dName 1) aNil))))
  (sSeq (sIf (dTst (dBin gIs (dName 2) (dC .non))) sNever sNil)
  (sRet (dName 2)))))
def b__law_plan_87 (C : Cs) : Sd := (sSeq (sSet 5 (dLst aNil))
  (sSeq (sFor (iRange rg1 (rCons (dC (.int 6)) rNil)) (gN 6) (sSeq (sIf (tOr' (dTst (dBin (gLt C.room) (dName 1) (dC (.int 1)))) (dTst (dBin (gEq C.room) (dCall C 11 (aCons (dName 0) (aCons (dC (.int 5)) aNil))) (dC (.int 0))))) sBreak sNil)
  (sSeq (sSet 7 (dBin gIx (dLst (aCons (dC (.int 1)) (aCons (dC (.int 1)) (aCons (dC (.int 1)) (aCons (dC (.int 2)) (aCons (dC (.int 3)) aNil)))))) (dCall C 11 (aCons (dName 0) (aCons (dC (.int 5)) aNil)))))
  (sSeq (sIf (dTst (dBin (gGt C.room) (dName 7) (dName 1))) (sSet 7 (dC (.int 1))) sNil)
  (sSeq (sSet 8 (dCall C 86 (aCons (dName 0) (aCons (dBin gFdiv (dName 1) (dName 7)) (aCons (dName 2) (aCons (dName 3) (aCons (dName 4) aNil)))))))
  (sSeq (sAppend 5 (dTup (aCons (dName 7) (aCons (dName 8) aNil))))
  (sSet 1 (dBin gSub (dName 1) (dBin gMul (dName 7) (dCall C 38 (aCons (dName 8) aNil)))))))))))
  (sRet (dBlt cTuple (rCons (dName 5) rNil)))))
def b__law_part_86 (C : Cs) : Sd := (sSeq (sSet 5 (dCall C 11 (aCons (dName 0) (aCons (dC (.int 6)) aNil))))
  (sSeq (sIf (tAnd' (dTst (dBin (gLt C.room) (dName 1) (dC (.int 2)))) (dTst (dBin (gGt C.room) (dName 5) (dC (.int 3))))) (sSet 5 (dCall C 11 (aCons (dName 0) (aCons (dC (.int 4)) aNil)))) sNil)
  (sSeq (sSet 6 (dBin gIx (dName 3) (dCall C 11 (aCons (dName 0) (aCons (dBlt cLen (rCons (dName 3) rNil)) aNil)))))
  (sSeq (sIf (tAnd' (dTst (dBin (gEq C.room) (dName 5) (dC (.int 0)))) (dTst (dBin (gGt C.room) (dBlt cLen (rCons (dName 4) rNil)) (dC (.int 0))))) (sSeq (sSet 7 (dBin gIx (dName 4) (dCall C 11 (aCons (dName 0) (aCons (dBlt cLen (rCons (dName 4) rNil)) aNil)))))
  (sRet (dTup (aCons (dBin gIx (dLst (aCons (dC (.str "name")) (aCons (dC (.str "mark")) aNil))) (dBlt cInt (rCons (dUn (gIsi [.int]) (dName 7)) rNil))) (aCons (dName 7) aNil))))) sNil)
  (sSeq (sIf (tAnd' (dTst (dBin (gLt C.room) (dName 5) (dC (.int 2)))) (dTst (dBin (gGt C.room) (dName 2) (dC (.int 0))))) (sRet (dTup (aCons (dC (.str "got")) (aCons (dBin gIx (dLst (aCons (dC (.int 0)) (aCons (dC (.int 0)) (aCons (dCall C 11 (aCons (dName 0) (aCons (dName 2) aNil))) aNil)))) (dCall C 11 (aCons (dName 0) (aCons (dC (.int 3)) aNil)))) aNil)))) sNil)
  (sSeq (sIf (tOr' (dTst (dBin (gEq C.room) (dName 5) (dC (.int 2)))) (dTst (dBin (gEq C.room) (dName 5) (dC (.int 4))))) (sRet (dTup (aCons (dC (.str "letter")) (aCons (dName 6) (aCons (dCall C 87 (aCons (dName 0) (aCons (dBin gSub (dName 1) (dC (.int 1))) (aCons (dName 2) (aCons (dName 3) (aCons (dName 4) aNil)))))) aNil))))) sNil)
  (sRet (dTup (aCons (dC (.str "wait")) (aCons (dName 6) (aCons (dCall C 87 (aCons (dName 0) (aCons (dBin gSub (dName 1) (dC (.int 1))) (aCons (dBin gAdd (dName 2) (dC (.int 1))) (aCons (dName 3) (aCons (dName 4) aNil)))))) aNil)))))))))))
def b__law_raise (C : Cs) : Sd := (sSeq (sSet 3 (dLst aNil))
  (sSeq (sFor (iSeq (dName 0)) (gT 2 (gsCons (gN 4) (gsCons (gN 5) gsNil))) (sSeq (sIf (tAnd' (dTst (dBin (gEq C.room) (dBin gIx (dName 5) (dC (.int 0))) (dC (.str "got")))) (dTst (dBin (gGe C.room) (dBin gIx (dName 5) (dC (.int 1))) (dName 2)))) (sSet 5 (dTup (aCons (dC (.str "got")) (aCons (dBin gAdd (dBin gIx (dName 5) (dC (.int 1))) (dName 1)) aNil)))) sNil)
  (sSeq (sIf (dTst (dBin (gEq C.room) (dBin gIx (dName 5) (dC (.int 0))) (dC (.str "letter")))) (sSet 5 (dTup (aCons (dC (.str "letter")) (aCons (dBin gIx (dName 5) (dC (.int 1))) (aCons (dCall C 88 (aCons (dBin gIx (dName 5) (dC (.int 2))) (aCons (dName 1) (aCons (dName 2) aNil)))) aNil))))) sNil)
  (sSeq (sIf (dTst (dBin (gEq C.room) (dBin gIx (dName 5) (dC (.int 0))) (dC (.str "wait")))) (sSet 5 (dTup (aCons (dC (.str "wait")) (aCons (dBin gIx (dName 5) (dC (.int 1))) (aCons (dCall C 88 (aCons (dBin gIx (dName 5) (dC (.int 2))) (aCons (dName 1) (aCons (dBin gAdd (dName 2) (dC (.int 1))) aNil)))) aNil))))) sNil)
  (sAppend 3 (dTup (aCons (dName 4) (aCons (dName 5) aNil))))))))
  (sRet (dBlt cTuple (rCons (dName 3) rNil)))))
def b__law_step (C : Cs) : Sd := (sSeq (sSet 2 (dBin gIx (dName 1) (dC (.int 1))))
  (sSeq (sIf (dTst (dBin (gGt C.room) (dBlt cLen (rCons (dName 2) rNil)) (dC (.int 0)))) (sSeq (sIf (tOr' (dTst (dBin (gLt C.room) (dBin gIx (dName 2) (dC (.int 0))) (dC (.int 0)))) (tOr' (dTst (dBin (gGe C.room) (dBin gIx (dName 2) (dC (.int 0))) (dBlt cLen (rCons (dName 0) rNil)))) (dTst (dBin (gEq C.room) (dBlt cLen (rCons (dBin gIx (dBin gIx (dName 0) (dBin gIx (dName 2) (dC (.int 0)))) (dC (.int 1))) rNil)) (dC (.int 2)))))) (sRet (dC .non)) sNil)
  (sSeq (sAsg (gT 2 (gsCons (gN 3) (gsCons (gN 4) gsNil))) (dBin gIx (dName 0) (dBin gIx (dName 2) (dC (.int 0)))))
  (sSeq (sSet 5 (dCall C 89 (aCons (dBin gIx (dName 4) (dC (.int 2))) (aCons (dBin gAdd (dTup (aCons (dBin gIx (dName 1) (dC (.int 0))) (aCons (dSl (dName 2) (some (dC (.int 1))) none) aNil))) (dSl (dName 1) (some (dC (.int 2))) none)) aNil))))
  (sSeq (sIf (dTst (dBin gIs (dName 5) (dC .non))) (sRet (dC .non)) sNil)
  (sRet (dBin gAdd (dBin gAdd (dSl (dName 0) none (some (dBin gIx (dName 2) (dC (.int 0))))) (dTup (aCons (dTup (aCons (dName 3) (aCons (dTup (aCons (dBin gIx (dName 4) (dC (.int 0))) (aCons (dBin gIx (dName 4) (dC (.int 1))) (aCons (dName 5) aNil)))) aNil))) aNil))) (dSl (dName 0) (some (dBin gAdd (dBin gIx (dName 2) (dC (.int 0))) (dC (.int 1)))) none))))))) sNil)
  (sSeq (sSet 6 (dBin gIx (dName 1) (dC (.int 2))))
  (sSeq (sIf (tOr' (dTst (dBin (gLt C.room) (dName 6) (dC (.int 0)))) (dTst (dBin (gGe C.room) (dName 6) (dBlt cLen (rCons (dName 0) rNil))))) (sRet (dC .non)) sNil)
  (sSeq (sAsg (gT 2 (gsCons (gN 3) (gsCons (gN 4) gsNil))) (dBin gIx (dName 0) (dName 6)))
  (sSeq (sIf (tOr' (dTst (dBin (gEq C.room) (dBin gIx (dName 1) (dC (.int 0))) (dC (.str "swap")))) (dTst (dBin (gEq C.room) (dBin gIx (dName 1) (dC (.int 0))) (dC (.str "join"))))) (sSeq (sIf (tOr' (dTst (dBin (gEq C.room) (dBin gAdd (dName 6) (dC (.int 1))) (dBlt cLen (rCons (dName 0) rNil)))) (tAnd' (dTst (dBin (gEq C.room) (dBin gIx (dName 1) (dC (.int 0))) (dC (.str "join")))) (dTst (dBin (gNe C.room) (dBin gIx (dBin gIx (dName 0) (dBin gAdd (dName 6) (dC (.int 1)))) (dC (.int 1))) (dName 4))))) (sRet (dC .non)) sNil)
  (sSeq (sIf (dTst (dBin (gEq C.room) (dBin gIx (dName 1) (dC (.int 0))) (dC (.str "swap")))) (sRet (dBin gAdd (dBin gAdd (dSl (dName 0) none (some (dName 6))) (dTup (aCons (dBin gIx (dName 0) (dBin gAdd (dName 6) (dC (.int 1)))) (aCons (dBin gIx (dName 0) (dName 6)) aNil)))) (dSl (dName 0) (some (dBin gAdd (dName 6) (dC (.int 2)))) none))) sNil)
  (sRet (dBin gAdd (dBin gAdd (dSl (dName 0) none (some (dName 6))) (dTup (aCons (dTup (aCons (dBin gAdd (dName 3) (dBin gIx (dBin gIx (dName 0) (dBin gAdd (dName 6) (dC (.int 1)))) (dC (.int 0)))) (aCons (dName 4) aNil))) aNil))) (dSl (dName 0) (some (dBin gAdd (dName 6) (dC (.int 2)))) none))))) sNil)
  (sSeq (sIf (dTst (dBin (gEq C.room) (dBin gIx (dName 1) (dC (.int 0))) (dC (.str "split")))) (sSeq (sIf (tOr' (dTst (dBin (gLt C.room) (dBin gIx (dName 1) (dC (.int 3))) (dC (.int 1)))) (dTst (dBin (gGe C.room) (dBin gIx (dName 1) (dC (.int 3))) (dName 3)))) (sRet (dC .non)) sNil)
  (sRet (dBin gAdd (dBin gAdd (dSl (dName 0) none (some (dName 6))) (dTup (aCons (dTup (aCons (dBin gIx (dName 1) (dC (.int 3))) (aCons (dName 4) aNil))) (aCons (dTup (aCons (dBin gSub (dName 3) (dBin gIx (dName 1) (dC (.int 3)))) (aCons (dName 4) aNil))) aNil)))) (dSl (dName 0) (some (dBin gAdd (dName 6) (dC (.int 1)))) none)))) sNil)
  (sSeq (sIf (dTst (dBin (gNe C.room) (dBin gIx (dName 4) (dC (.int 0))) (dC (.str "wait")))) (sRet (dC .non)) sNil)
  (sSeq (sIf (dTst (dBin (gEq C.room) (dBin gIx (dName 1) (dC (.int 0))) (dC (.str "unfold")))) (sSeq (sIf (tOr' (dTst (dBin (gLt C.room) (dBin gIx (dName 1) (dC (.int 3))) (dC (.int 2)))) (dTst (dBin (gGt C.room) (dBin gMod (dBlt cInt (rCons (dName 3) rNil)) (dBin gIx (dName 1) (dC (.int 3)))) (dC (.int 0))))) (sRet (dC .non)) sNil)
  (sSeq (sSet 5 (dBin gAdd (dBin gIx (dName 4) (dC (.int 2))) (dTup (aCons (dTup (aCons (dBin gSub (dBin gIx (dName 1) (dC (.int 3))) (dC (.int 1))) (aCons (dTup (aCons (dC (.str "wait")) (aCons (dBin gIx (dName 4) (dC (.int 1))) (aCons (dCall C 88 (aCons (dBin gIx (dName 4) (dC (.int 2))) (aCons (dC (.int 1)) (aCons (dC (.int 1)) aNil)))) aNil)))) aNil))) aNil))))
  (sRet (dBin gAdd (dBin gAdd (dSl (dName 0) none (some (dName 6))) (dTup (aCons (dTup (aCons (dBin gFdiv (dName 3) (dBin gIx (dName 1) (dC (.int 3)))) (aCons (dTup (aCons (dC (.str "wait")) (aCons (dBin gIx (dName 4) (dC (.int 1))) (aCons (dName 5) aNil)))) aNil))) aNil))) (dSl (dName 0) (some (dBin gAdd (dName 6) (dC (.int 1)))) none))))) sNil)
  (sSeq (sIf (dTst (dBin (gEq C.room) (dBlt cLen (rCons (dBin gIx (dName 4) (dC (.int 2))) rNil)) (dC (.int 0)))) (sRet (dC .non)) sNil)
  (sSeq (sSet 7 (dSl (dBin gIx (dName 4) (dC (.int 2))) none (some (dBin gSub (dBlt cLen (rCons (dBin gIx (dName 4) (dC (.int 2))) rNil)) (dC (.int 1))))))
  (sSeq (sAsg (gT 2 (gsCons (gN 8) (gsCons (gN 9) gsNil))) (dBin gIx (dBin gIx (dName 4) (dC (.int 2))) (dBin gSub (dBlt cLen (rCons (dBin gIx (dName 4) (dC (.int 2))) rNil)) (dC (.int 1)))))
  (sSeq (sIf (dTst (dBin (gNe C.room) (dName 9) (dTup (aCons (dC (.str "wait")) (aCons (dBin gIx (dName 4) (dC (.int 1))) (aCons (dCall C 88 (aCons (dName 7) (aCons (dC (.int 1)) (aCons (dC (.int 1)) aNil)))) aNil)))))) (sRet (dC .non)) sNil)
  (sRet (dBin gAdd (dBin gAdd (dSl (dName 0) none (some (dName 6))) (dTup (aCons (dTup (aCons (dBin gMul (dName 3) (dBin gAdd (dName 8) (dC (.int 1)))) (aCons (dTup (aCons (dC (.str "wait")) (aCons (dBin gIx (dName 4) (dC (.int 1))) (aCons (dName 7) aNil)))) aNil))) aNil))) (dSl (dName 0) (some (dBin gAdd (dName 6) (dC (.int 1)))) none))))))))))))))))
def b__law_rich (C : Cs) : Sd := (sSeq (sSet 1 (dFrz (dLst (aCons (dC (.str "x")) (aCons (dC (.str "y")) (aCons (dC (.int 0)) aNil))))))
  (sSeq (sSet 2 (dCall C 87 (aCons (dName 0) (aCons (dBin gAdd (dC (.int 1)) (dCall C 11 (aCons (dName 0) (aCons (dC (.int 3)) aNil)))) (aCons (dC (.int 2)) (aCons (dC (.str "ab")) (aCons (dName 1) aNil)))))))
  (sSeq (sSet 3 (dBin gIx (dLst (aCons (dC (.int 2)) (aCons (dC (.int 3)) (aCons (dC (.int 4)) (aCons (dC (.int 6)) aNil))))) (dCall C 11 (aCons (dName 0) (aCons (dC (.int 4)) aNil)))))
  (sSeq (sSet 4 (dBin gAdd (dCall C 87 (aCons (dName 0) (aCons (dCall C 11 (aCons (dName 0) (aCons (dC (.int 3)) aNil))) (aCons (dC (.int 1)) (aCons (dC (.str "ab")) (aCons (dName 1) aNil)))))) (dTup (aCons (dTup (aCons (dName 3) (aCons (dTup (aCons (dC (.str "wait")) (aCons (dC (.str "a")) (aCons (dName 2) aNil)))) aNil))) aNil))))
  (sSeq (sSet 5 (dCall C 87 (aCons (dName 0) (aCons (dCall C 11 (aCons (dName 0) (aCons (dC (.int 4)) aNil))) (aCons (dC (.int 0)) (aCons (dC (.str "ab")) (aCons (dName 1) aNil)))))))
  (sRet (dBin gAdd (dName 5) (dTup (aCons (dTup (aCons (dBin gAdd (dC (.int 1)) (dCall C 11 (aCons (dName 0) (aCons (dC (.int 2)) aNil)))) (aCons (dTup (aCons (dC (.str "wait")) (aCons (dBin gIx (dC (.str "ab")) (dCall C 11 (aCons (dName 0) (aCons (dC (.int 2)) aNil)))) (aCons (dName 4) aNil)))) aNil))) aNil)))))))))
def b__law_great_90 (C : Cs) : Sd := (sSeq (sSet 2 (dLst aNil))
  (sSeq (sFor (iSeq (dName 1)) (gT 2 (gsCons (gN 3) (gsCons (gN 4) gsNil))) (sSeq (sIf (dTst (dBin (gEq C.room) (dBlt cLen (rCons (dName 4) rNil)) (dC (.int 3)))) (sSet 4 (dTup (aCons (dBin gIx (dName 4) (dC (.int 0))) (aCons (dBin gIx (dName 4) (dC (.int 1))) (aCons (dCall C 90 (aCons (dName 0) (aCons (dBin gIx (dName 4) (dC (.int 2))) aNil))) aNil))))) sNil)
  (sAppend 2 (dTup (aCons (dBin gMul (dName 3) (dBin gIx (dLst (aCons (dC (.int 1)) (aCons (dC (.int 1)) (aCons (dC (.int 1)) (aCons (dBin gAdd (dBin gPow (dC (.int 10)) (dC (.int 9))) (dC (.int 7))) (aCons (dBin gPow (dC (.int 10)) (dC (.int 8))) aNil)))))) (dCall C 11 (aCons (dName 0) (aCons (dC (.int 5)) aNil))))) (aCons (dName 4) aNil))))))
  (sRet (dBlt cTuple (rCons (dName 2) rNil)))))
def b__law_some_step (C : Cs) : Sd := (sSeq (sSet 2 (dTup aNil))
  (sSeq (sSet 3 (dName 1))
  (sSeq (sFor (iRange rg1 (rCons (dC (.int 4)) rNil)) (gN 4) (sSeq (sSet 5 (dComp (iRange rg1 (rCons (dBlt cLen (rCons (dName 3) rNil)) rNil)) [6] (gN 6) (dTst (dBin (gEq C.room) (dBlt cLen (rCons (dBin gIx (dBin gIx (dName 3) (dName 6)) (dC (.int 1))) rNil)) (dC (.int 3)))) (dName 6)))
  (sSeq (sIf (tOr' (dTst (dBin (gEq C.room) (dBlt cLen (rCons (dName 5) rNil)) (dC (.int 0)))) (dTst (dBin (gEq C.room) (dCall C 11 (aCons (dName 0) (aCons (dC (.int 3)) aNil))) (dC (.int 0))))) sBreak sNil)
  (sSeq (sSet 7 (dBin gIx (dName 5) (dCall C 11 (aCons (dName 0) (aCons (dBlt cLen (rCons (dName 5) rNil)) aNil)))))
  (sSeq (sSet 2 (dBin gAdd (dName 2) (dTup (aCons (dName 7) aNil))))
  (sSet 3 (dBin gIx (dBin gIx (dBin gIx (dName 3) (dName 7)) (dC (.int 1))) (dC (.int 2)))))))))
  (sSeq (sSet 8 (dFrz (dLst aNil)))
  (sSeq (sFor (iRange rg1 (rCons (dBlt cLen (rCons (dName 3) rNil)) rNil)) (gN 7) (sSeq (sAsg (gT 2 (gsCons (gN 9) (gsCons (gN 10) gsNil))) (dBin gIx (dName 3) (dName 7)))
  (sSeq (sSet 8 (dFrz (dBin gAdd (dName 8) (dLst (aCons (dTup (aCons (dC (.str "swap")) (aCons (dTup aNil) (aCons (dName 7) aNil)))) (aCons (dTup (aCons (dC (.str "join")) (aCons (dTup aNil) (aCons (dName 7) aNil)))) (aCons (dTup (aCons (dC (.str "join")) (aCons (dTup aNil) (aCons (dName 7) aNil)))) (aCons (dTup (aCons (dC (.str "fold")) (aCons (dTup aNil) (aCons (dName 7) aNil)))) (aCons (dTup (aCons (dC (.str "fold")) (aCons (dTup aNil) (aCons (dName 7) aNil)))) aNil)))))))))
  (sSeq (sSet 8 (dFrz (dBin gAdd (dName 8) (dLst (aCons (dTup (aCons (dC (.str "split")) (aCons (dTup aNil) (aCons (dName 7) (aCons (dBin gAdd (dC (.int 1)) (dCall C 11 (aCons (dName 0) (aCons (dBlt cMin2 (rCons (dName 9) (rCons (dC (.int 5)) rNil))) aNil)))) aNil))))) aNil)))))
  (sSet 8 (dFrz (dBin gAdd (dName 8) (dComp (iSeq (dLst (aCons (dC (.int 2)) (aCons (dC (.int 3)) (aCons (dName 9) aNil))))) [6] (gN 6) (dTst (dBin (gEq C.room) (dBin gIx (dName 10) (dC (.int 0))) (dC (.str "wait")))) (dTup (aCons (dC (.str "unfold")) (aCons (dTup aNil) (aCons (dName 7) (aCons (dName 6) aNil)))))))))))))
  (sSeq (sSet 8 (dFrz (dComp (iSeq (dName 8)) [11] (gN 11) (dTst (dBin gIsNot (dCall C 89 (aCons (dName 3) (aCons (dName 11) aNil))) (dC .non))) (dName 11))))
  (sSeq (sIf (dTst (dBin (gEq C.room) (dBlt cLen (rCons (dName 8) rNil)) (dC (.int 0)))) (sRet (dC .non)) sNil)
  (sSeq (sSet 11 (dBin gIx (dName 8) (dCall C 11 (aCons (dName 0) (aCons (dBlt cLen (rCons (dName 8) rNil)) aNil)))))
  (sRet (dBin gAdd (dTup (aCons (dBin gIx (dName 11) (dC (.int 0))) (aCons (dName 2) aNil))) (dSl (dName 11) (some (dC (.int 2))) none)))))))))))
def b__law_walk (C : Cs) : Sd := (sSeq (sSet 3 (dLst aNil))
  (sSeq (sSet 4 (dLst (aCons (dName 1) aNil)))
  (sSeq (sFor (iRange rg1 (rCons (dName 2) rNil)) (gN 5) (sSeq (sSet 6 (dCall C 91 (aCons (dName 0) (aCons (dName 1) aNil))))
  (sIf (dTst (dBin gIsNot (dName 6) (dC .non))) (sSeq (sSet 1 (dCall C 89 (aCons (dName 1) (aCons (dName 6) aNil))))
  (sSeq (sAppend 3 (dName 6))
  (sAppend 4 (dName 1)))) sNil)))
  (sRet (dTup (aCons (dBlt cTuple (rCons (dName 3) rNil)) (aCons (dName 4) aNil)))))))
def b__law_undoing (C : Cs) : Sd := (sSeq (sSet 2 (dName 0))
  (sSeq (sFor (iSeq (dBin gIx (dName 1) (dC (.int 1)))) (gN 3) (sSet 2 (dBin gIx (dBin gIx (dBin gIx (dName 2) (dName 3)) (dC (.int 1))) (dC (.int 2)))))
  (sSeq (sSet 3 (dBin gIx (dName 1) (dC (.int 2))))
  (sSeq (sIf (dTst (dBin (gEq C.room) (dBin gIx (dName 1) (dC (.int 0))) (dC (.str "swap")))) (sRet (dName 1)) sNil)
  (sSeq (sIf (dTst (dBin (gEq C.room) (dBin gIx (dName 1) (dC (.int 0))) (dC (.str "join")))) (sRet (dTup (aCons (dC (.str "split")) (aCons (dBin gIx (dName 1) (dC (.int 1))) (aCons (dName 3) (aCons (dBin gIx (dBin gIx (dName 2) (dName 3)) (dC (.int 0))) aNil)))))) sNil)
  (sSeq (sIf (dTst (dBin (gEq C.room) (dBin gIx (dName 1) (dC (.int 0))) (dC (.str "split")))) (sRet (dTup (aCons (dC (.str "join")) (aCons (dBin gIx (dName 1) (dC (.int 1))) (aCons (dName 3) aNil))))) sNil)
  (sSeq (sIf (dTst (dBin (gEq C.room) (dBin gIx (dName 1) (dC (.int 0))) (dC (.str "unfold")))) (sRet (dTup (aCons (dC (.str "fold")) (aCons (dBin gIx (dName 1) (dC (.int 1))) (aCons (dName 3) aNil))))) sNil)
  (sSeq (sSet 4 (dBin gIx (dBin gIx (dBin gIx (dName 2) (dName 3)) (dC (.int 1))) (dC (.int 2))))
  (sRet (dTup (aCons (dC (.str "unfold")) (aCons (dBin gIx (dName 1) (dC (.int 1))) (aCons (dName 3) (aCons (dBin gAdd (dC (.int 1)) (dBin gIx (dBin gIx (dName 4) (dBin gSub (dBlt cLen (rCons (dName 4) rNil)) (dC (.int 1)))) (dC (.int 0)))) aNil))))))))))))))
def b__law_is_int (C : Cs) : Sd := (sRet (dAnd (dUn (gIsi [.int]) (dName 0)) (dUn gNot (dUn (gIsi [.bool]) (dName 0)))))
def b__law_is_word (C : Cs) : Sd := (sSeq (sIf (tOr' (tNot' (dTru (dUn (gIsi [.str]) (dName 0)))) (tOr' (dTst (dBin (gLt C.room) (dBlt cLen (rCons (dName 0) rNil)) (dC (.int 1)))) (dTst (dBin (gGt C.room) (dBlt cLen (rCons (dName 0) rNil)) (dName 1))))) (sRet (dC (.bl false))) sNil)
  (sRet (dBin (gEq C.room) (dBlt cLen (rCons (dComp (iTxt (dName 0)) [2] (gN 2) (tOr' (dTst (dBin (gLt C.room) (dName 2) (dC (.str "a")))) (dTst (dBin (gGt C.room) (dName 2) (dC (.str "z"))))) (dName 2)) rNil)) (dC (.int 0)))))
def b__law_is_part (C : Cs) : Sd := (sSeq (sIf (tOr' (tNot' (dTru (dUn (gIsi [.tuple]) (dName 0)))) (tOr' (dTst (dBin (gLt C.room) (dBlt cLen (rCons (dName 0) rNil)) (dC (.int 2)))) (tOr' (dTst (dBin (gGt C.room) (dBlt cLen (rCons (dName 0) rNil)) (dC (.int 3)))) (tNot' (dTru (dUn (gIsi [.str]) (dBin gIx (dName 0) (dC (.int 0))))))))) (sRet (dC (.bl false))) sNil)
  (sSeq (sIf (dTst (dBin (gEq C.room) (dBlt cLen (rCons (dName 0) rNil)) (dC (.int 3)))) (sSeq (sIf (tOr' (dTst (dBin (inD true C.room) (dBin gIx (dName 0) (dC (.int 0))) (dLst (aCons (dC (.str "letter")) (aCons (dC (.str "wait")) aNil))))) (tNot' (dTru (dCall C 93 (aCons (dBin gIx (dName 0) (dC (.int 1))) (aCons (dC (.int 1)) aNil)))))) (sRet (dC (.bl false))) sNil)
  (sRet (dCall C 94 (aCons (dBin gIx (dName 0) (dC (.int 2))) (aCons (dBin gAdd (dName 1) (dBlt cInt (rCons (dBin (gEq C.room) (dBin gIx (dName 0) (dC (.int 0))) (dC (.str "wait"))) rNil))) aNil))))) sNil)
  (sSeq (sIf (dTst (dBin (gEq C.room) (dBin gIx (dName 0) (dC (.int 0))) (dC (.str "name")))) (sRet (dCall C 93 (aCons (dBin gIx (dName 0) (dC (.int 1))) (aCons (dC (.int 8)) aNil)))) sNil)
  (sSeq (sIf (tOr' (tNot' (dTru (dCall C 92 (aCons (dBin gIx (dName 0) (dC (.int 1))) aNil)))) (dTst (dBin (gLt C.room) (dBin gIx (dName 0) (dC (.int 1))) (dC (.int 0))))) (sRet (dC (.bl false))) sNil)
  (sRet (dOr (dBin (gEq C.room) (dBin gIx (dName 0) (dC (.int 0))) (dC (.str "mark"))) (dAnd (dBin (gEq C.room) (dBin gIx (dName 0) (dC (.int 0))) (dC (.str "got"))) (dBin (gLt C.room) (dBin gIx (dName 0) (dC (.int 1))) (dName 1)))))))))
def b__law_is_plan (C : Cs) : Sd := (sSeq (sIf (tNot' (dTru (dUn (gIsi [.tuple]) (dName 0)))) (sRet (dC (.bl false))) sNil)
  (sSeq (sFor (iSeq (dName 0)) (gN 2) (sSeq (sIf (tOr' (tNot' (dTru (dUn (gIsi [.tuple]) (dName 2)))) (tOr' (dTst (dBin (gNe C.room) (dBlt cLen (rCons (dName 2) rNil)) (dC (.int 2)))) (tOr' (tNot' (dTru (dCall C 92 (aCons (dBin gIx (dName 2) (dC (.int 0))) aNil)))) (dTst (dBin (gLt C.room) (dBin gIx (dName 2) (dC (.int 0))) (dC (.int 1))))))) (sRet (dC (.bl false))) sNil)
  (sIf (tNot' (dTru (dCall C 95 (aCons (dBin gIx (dName 2) (dC (.int 1))) (aCons (dName 1) aNil))))) (sRet (dC (.bl false))) sNil)))
  (sRet (dC (.bl true)))))
def b_law_100 (C : Cs) : Sd := (sSeq (sSetW 1 (dCall C 22 (aCons (dName 0) aNil)))
  (sSeq (sSet 2 (dBin (gEq C.room) (dCall C 11 (aCons (dName 1) (aCons (dC (.int 4)) aNil))) (dC (.int 0))))
  (sSeq (sSet 3 (dCall C 98 (aCons (dName 1) aNil)))
  (sSeq (sIf (dTru (dName 2)) (sSet 3 (dCall C 90 (aCons (dName 1) (aCons (dName 3) aNil)))) sNil)
  (sSeq (sSet 4 (dCall C 47 (aCons (dName 3) aNil)))
  (sSeq (sFor (iRange rg1 (rCons (dBin gSub (dC (.int 8)) (dBin gMul (dC (.int 3)) (dBlt cInt (rCons (dName 2) rNil)))) rNil)) (gN 5) (sSeq (sSet 6 (dCall C 91 (aCons (dName 1) (aCons (dName 3) aNil))))
  (sIf (dTst (dBin gIsNot (dName 6) (dC .non))) (sSeq (sSet 7 (dCall C 89 (aCons (dName 3) (aCons (dName 6) aNil))))
  (sSeq (sSet 8 (dCall C 96 (aCons (dName 3) (aCons (dName 6) aNil))))
  (sSeq (sIf (tOr' (tNot' (dTru (dCall C 94 (aCons (dName 8) (aCons (dC (.int 0)) aNil))))) (tOr' (dTst (dBin (gNe C.room) (dName 8) (dName 7))) (dTst (dBin (gNe C.room) (dCall C 47 (aCons (dName 8) aNil)) (dName 4))))) (sRet (dC (.bl false))) sNil)
  (sSeq (sIf (tOr' (dTst (dBin (gNe C.room) (dCall C 96 (aCons (dName 8) (aCons (dCall C 97 (aCons (dName 3) (aCons (dName 6) aNil))) aNil))) (dName 3))) (dTst (dBin (gNe C.room) (dCall C 96 (aCons (dName 3) (aCons (dName 6) aNil))) (dName 7)))) (sRet (dC (.bl false))) sNil)
  (sSet 3 (dName 7)))))) sNil)))
  (sRet (dC (.bl true)))))))))
end Dl
namespace Dl
open PySem PySem.Spec PyProof.Rows L2 NdefX
def b_check_two (C : Cs) : Sd := (sSeq (sExpr (dCall C 31 (aCons (dName 0) aNil)))
  (sExpr (dCall C 31 (aCons (dName 1) aNil))))
def t_RANKS : List (Str × D) := [("name", .int 0), ("mark", .int 1), ("got", .int 2), ("letter", .int 3), ("wait", .int 4)]
def b_part_key (C : Cs) : Sd := (sSeq (sSet 1 (dIf (dTst (dBin (gEq C.room) (dBlt cLen (rCons (dName 0) rNil)) (dC (.int 3)))) (dCall C 101 (aCons (dBin gIx (dName 0) (dC (.int 2))) aNil)) (dTup aNil)))
  (sSeq (sSet 2 (dBin gAdd (dC (.int 1)) (dBlt cSum (rCons (dComp (iSeq (dName 1)) [3, 4] (gT 2 (gsCons (gN 3) (gsCons (gN 4) gsNil))) tYes' (dBin gMul (dName 4) (dBin gIx (dName 3) (dC (.int 0))))) rNil))))
  (sRet (dTup (aCons (dName 2) (aCons (dUn (gGetK t_RANKS) (dBin gIx (dName 0) (dC (.int 0)))) (aCons (dBin gIx (dName 0) (dC (.int 1))) (aCons (dName 1) aNil))))))))
def b_plan_key (C : Cs) : Sd := (sRet (dBlt cTuple (rCons (dComp (iSeq (dName 0)) [1, 2] (gT 2 (gsCons (gN 1) (gsCons (gN 2) gsNil))) tYes' (dTup (aCons (dCall C 102 (aCons (dName 2) aNil)) (aCons (dName 1) aNil)))) rNil)))
def b_sorted_items'clo (C : Cs) : Ex := (dCall C 102 (aCons (dBin gIx (dName 0) (dC (.int 1))) aNil))
def b_sorted_items (C : Cs) : Sd := (sSeq (sSet 1 (dLst aNil))
  (sSeq (sFor (iSeq (dSortKey C 104 (dBlt cList (rCons (dName 0) rNil)))) (gT 2 (gsCons (gN 2) (gsCons (gN 3) gsNil))) (sIf (tAnd' (dTst (dBin (gGt C.room) (dBlt cLen (rCons (dName 1) rNil)) (dC (.int 0)))) (dTst (dBin (gEq C.room) (dBin gIx (dBin gIx (dName 1) (dUn gNeg (dC (.int 1)))) (dC (.int 1))) (dName 3)))) (sSetIx 1 (dUn gNeg (dC (.int 1))) (dTup (aCons (dBin gAdd (dBin gIx (dBin gIx (dName 1) (dUn gNeg (dC (.int 1)))) (dC (.int 0))) (dName 2)) (aCons (dName 3) aNil)))) (sAppend 1 (dTup (aCons (dName 2) (aCons (dName 3) aNil))))))
  (sRet (dBlt cTuple (rCons (dName 1) rNil)))))
def b_folded (C : Cs) : Sd := (sSeq (sFor (iEnumD (dName 1)) (gT 2 (gsCons (gN 2) (gsCons (gT 2 (gsCons (gN 3) (gsCons (gN 4) gsNil))) gsNil))) (sIf (tAnd' (dTst (dBin (gEq C.room) (dBin gIx (dName 4) (dC (.int 0))) (dC (.str "wait")))) (dTst (dBin (gEq C.room) (dBin gIx (dName 4) (dC (.int 1))) (dName 0)))) (sSeq (sSet 5 (dBin gAdd (dSl (dName 1) none (some (dName 2))) (dSl (dName 1) (some (dBin gAdd (dName 2) (dC (.int 1)))) none)))
  (sIf (dTst (dBin (gEq C.room) (dBin gIx (dName 4) (dC (.int 2))) (dCall C 57 (aCons (dName 5) (aCons (dC (.int 1)) (aCons (dC (.int 1)) aNil)))))) (sRet (dTup (aCons (dBin gAdd (dName 3) (dC (.int 1))) (aCons (dTup (aCons (dC (.str "wait")) (aCons (dName 0) (aCons (dName 5) aNil)))) aNil)))) sNil)) sNil))
  (sRet (dTup (aCons (dC (.int 1)) (aCons (dTup (aCons (dC (.str "wait")) (aCons (dName 0) (aCons (dName 1) aNil)))) aNil)))))
def b_plain_of (C : Cs) : Sd := (sSeq (sSet 1 (dLst aNil))
  (sSeq (sFor (iSeq (dName 0)) (gT 2 (gsCons (gN 2) (gsCons (gN 3) gsNil))) (sIf (dTst (dBin (gEq C.room) (dBin gIx (dName 3) (dC (.int 0))) (dC (.str "letter")))) (sAppend 1 (dTup (aCons (dName 2) (aCons (dTup (aCons (dC (.str "letter")) (aCons (dBin gIx (dName 3) (dC (.int 1))) (aCons (dCall C 106 (aCons (dBin gIx (dName 3) (dC (.int 2))) aNil)) aNil)))) aNil)))) (sIf (dTst (dBin (gEq C.room) (dBin gIx (dName 3) (dC (.int 0))) (dC (.str "wait")))) (sSeq (sAsg (gT 2 (gsCons (gN 4) (gsCons (gN 5) gsNil))) (dCall C 107 (aCons (dBin gIx (dName 3) (dC (.int 1))) (aCons (dCall C 106 (aCons (dBin gIx (dName 3) (dC (.int 2))) aNil)) aNil))))
  (sAppend 1 (dTup (aCons (dBin gMul (dName 2) (dName 4)) (aCons (dName 5) aNil))))) (sAppend 1 (dTup (aCons (dName 2) (aCons (dName 3) aNil)))))))
  (sFrz 1 (sRet (dCall C 105 (aCons (dName 1) aNil))))))
def b_plain (C : Cs) : Sd := (sSeq (sExpr (dCall C 31 (aCons (dName 0) aNil)))
  (sRet (dCall C 106 (aCons (dName 0) aNil))))
def b_alike (C : Cs) : Sd := (sSeq (sExpr (dCall C 60 (aCons (dName 0) (aCons (dName 1) aNil))))
  (sRet (dBin (gEq C.room) (dCall C 106 (aCons (dName 0) aNil)) (dCall C 106 (aCons (dName 1) aNil)))))
def b_is_plain (C : Cs) : Sd := (sRet (dAnd (dCall C 25 (aCons (dName 0) (aCons (dC (.int 0)) aNil))) (dBin (gEq C.room) (dCall C 106 (aCons (dName 0) aNil)) (dName 0))))
def b__law_key (C : Cs) : Sd := (sSeq (sSet 1 (dIndexS (dLst (aCons (dC (.str "name")) (aCons (dC (.str "mark")) (aCons (dC (.str "got")) (aCons (dC (.str "letter")) (aCons (dC (.str "wait")) aNil)))))) (dBin gIx (dName 0) (dC (.int 0)))))
  (sSeq (sSet 2 (dTup aNil))
  (sSeq (sIf (dTst (dBin (gEq C.room) (dBlt cLen (rCons (dName 0) rNil)) (dC (.int 3)))) (sSet 2 (dBlt cTuple (rCons (dComp (iSeq (dBin gIx (dName 0) (dC (.int 2)))) [3, 4] (gT 2 (gsCons (gN 3) (gsCons (gN 4) gsNil))) tYes' (dTup (aCons (dCall C 108 (aCons (dName 4) aNil)) (aCons (dName 3) aNil)))) rNil))) sNil)
  (sRet (dTup (aCons (dCall C 38 (aCons (dName 0) aNil)) (aCons (dName 1) (aCons (dBin gIx (dName 0) (dC (.int 1))) (aCons (dName 2) aNil)))))))))
def b__law_joined'clo (C : Cs) : Ex := (dCall C 108 (aCons (dBin gIx (dName 0) (dC (.int 1))) aNil))
def b__law_joined (C : Cs) : Sd := (sSeq (sSet 1 (dLst aNil))
  (sSeq (sFor (iSeq (dSortKey C 110 (dName 0))) (gT 2 (gsCons (gN 2) (gsCons (gN 3) gsNil))) (sIf (tAnd' (dTst (dBin (gGt C.room) (dBlt cLen (rCons (dName 1) rNil)) (dC (.int 0)))) (dTst (dBin (gEq C.room) (dBin gIx (dBin gIx (dName 1) (dUn gNeg (dC (.int 1)))) (dC (.int 1))) (dName 3)))) (sSetIx 1 (dUn gNeg (dC (.int 1))) (dTup (aCons (dBin gAdd (dBin gIx (dBin gIx (dName 1) (dUn gNeg (dC (.int 1)))) (dC (.int 0))) (dName 2)) (aCons (dName 3) aNil)))) (sAppend 1 (dTup (aCons (dName 2) (aCons (dName 3) aNil))))))
  (sRet (dBlt cTuple (rCons (dName 1) rNil)))))
def b__law_form (C : Cs) : Sd := (sSeq (sSet 1 (dLst aNil))
  (sSeq (sFor (iSeq (dName 0)) (gT 2 (gsCons (gN 2) (gsCons (gN 3) gsNil))) (sSeq (sIf (dTst (dBin (gEq C.room) (dBin gIx (dName 3) (dC (.int 0))) (dC (.str "letter")))) (sSet 3 (dTup (aCons (dC (.str "letter")) (aCons (dBin gIx (dName 3) (dC (.int 1))) (aCons (dCall C 112 (aCons (dBin gIx (dName 3) (dC (.int 2))) aNil)) aNil))))) sNil)
  (sSeq (sIf (dTst (dBin (gEq C.room) (dBin gIx (dName 3) (dC (.int 0))) (dC (.str "wait")))) (sSeq (sSet 4 (dCall C 112 (aCons (dBin gIx (dName 3) (dC (.int 2))) aNil)))
  (sSeq (sFor (iSeq (dName 4)) (gT 2 (gsCons (gN 5) (gsCons (gN 6) gsNil))) (sSeq (sSet 7 (dBlt cTuple (rCons (dComp (iSeq (dName 4)) [8] (gN 8) (dTst (dBin (gNe C.room) (dBin gIx (dName 8) (dC (.int 1))) (dName 6))) (dName 8)) rNil)))
  (sIf (tAnd' (dTst (dBin (gEq C.room) (dBin gIx (dName 6) (dC (.int 0))) (dC (.str "wait")))) (tAnd' (dTst (dBin (gEq C.room) (dBin gIx (dName 6) (dC (.int 1))) (dBin gIx (dName 3) (dC (.int 1))))) (dTst (dBin (gEq C.room) (dBin gIx (dName 6) (dC (.int 2))) (dCall C 88 (aCons (dName 7) (aCons (dC (.int 1)) (aCons (dC (.int 1)) aNil)))))))) (sSeq (sSet 4 (dName 7))
  (sSeq (sSet 2 (dBin gMul (dName 2) (dBin gAdd (dName 5) (dC (.int 1)))))
  sBreak)) sNil)))
  (sSet 3 (dTup (aCons (dC (.str "wait")) (aCons (dBin gIx (dName 3) (dC (.int 1))) (aCons (dName 4) aNil))))))) sNil)
  (sAppend 1 (dTup (aCons (dName 2) (aCons (dName 3) aNil)))))))
  (sFrz 1 (sRet (dCall C 111 (aCons (dName 1) aNil))))))
def b__law_copied (C : Cs) : Sd := (sSeq (sIf (dTst (dBin (gEq C.room) (dName 2) (dC (.int 1)))) (sRet (dName 1)) sNil)
  (sRet (dBin gAdd (dName 1) (dTup (aCons (dTup (aCons (dBin gSub (dName 2) (dC (.int 1))) (aCons (dTup (aCons (dC (.str "wait")) (aCons (dName 0) (aCons (dCall C 88 (aCons (dName 1) (aCons (dC (.int 1)) (aCons (dC (.int 1)) aNil)))) aNil)))) aNil))) aNil)))))
def b__law_spread (C : Cs) : Sd := (sSeq (sSet 3 (dLst aNil))
  (sSeq (sFor (iSeq (dName 1)) (gT 2 (gsCons (gN 4) (gsCons (gN 5) gsNil))) (sSeq (sIf (dTst (dBin (gEq C.room) (dBlt cLen (rCons (dName 5) rNil)) (dC (.int 3)))) (sSet 5 (dTup (aCons (dBin gIx (dName 5) (dC (.int 0))) (aCons (dBin gIx (dName 5) (dC (.int 1))) (aCons (dCall C 114 (aCons (dName 0) (aCons (dBin gIx (dName 5) (dC (.int 2))) (aCons (dName 2) aNil)))) aNil))))) sNil)
  (sSeq (sIf (tAnd' (dTst (dBin (gEq C.room) (dBin gIx (dName 5) (dC (.int 0))) (dC (.str "wait")))) (tAnd' (dTst (dBin (gGt C.room) (dName 4) (dC (.int 1)))) (dTst (dBin (gEq C.room) (dCall C 11 (aCons (dName 0) (aCons (dC (.int 2)) aNil))) (dC (.int 0)))))) (sSeq (sSet 6 (dBin gIx (dLst (aCons (dName 4) (aCons (dC (.int 2)) (aCons (dC (.int 3)) aNil)))) (dCall C 11 (aCons (dName 0) (aCons (dC (.int 3)) aNil)))))
  (sIf (dTst (dBin (gEq C.room) (dBin gMod (dBlt cInt (rCons (dName 4) rNil)) (dName 6)) (dC (.int 0)))) (sSeq (sSet 5 (dTup (aCons (dC (.str "wait")) (aCons (dBin gIx (dName 5) (dC (.int 1))) (aCons (dCall C 113 (aCons (dBin gIx (dName 5) (dC (.int 1))) (aCons (dBin gIx (dName 5) (dC (.int 2))) (aCons (dName 6) aNil)))) aNil)))))
  (sSet 4 (dBin gFdiv (dName 4) (dName 6)))) sNil)) sNil)
  (sSeq (sIf (tAnd' (dTst (dBin (gGt C.room) (dName 4) (dC (.int 1)))) (dTst (dBin (gEq C.room) (dCall C 11 (aCons (dName 0) (aCons (dC (.int 2)) aNil))) (dC (.int 0))))) (sSeq (sSet 7 (dBin gAdd (dC (.int 1)) (dCall C 11 (aCons (dName 0) (aCons (dBlt cMin2 (rCons (dBin gSub (dName 4) (dC (.int 1))) (rCons (dC (.int 50)) rNil))) aNil)))))
  (sSeq (sAppend 3 (dTup (aCons (dName 7) (aCons (dName 5) aNil))))
  (sSet 4 (dBin gSub (dName 4) (dName 7))))) sNil)
  (sAppend 3 (dTup (aCons (dName 4) (aCons (dName 5) aNil))))))))
  (sSeq (sSet 8 (dLst aNil))
  (sSeq (sFor (iRange rg1 (rCons (dBlt cLen (rCons (dName 3) rNil)) rNil)) (gN 9) (sAppPop 8 3 (dCall C 11 (aCons (dName 0) (aCons (dBlt cLen (rCons (dName 3) rNil)) aNil)))))
  (sRet (dBlt cTuple (rCons (dName 8) rNil)))))))
def b_law_118 (C : Cs) : Sd := (sSeq (sSetW 1 (dCall C 22 (aCons (dName 0) aNil)))
  (sSeq (sSet 2 (dBin (gEq C.room) (dCall C 11 (aCons (dName 1) (aCons (dC (.int 6)) aNil))) (dC (.int 0))))
  (sSeq (sFor (iRange rg1 (rCons (dC (.int 3)) rNil)) (gN 3) (sSeq (sSet 4 (dCall C 40 (aCons (dName 1) (aCons (dBin gAdd (dC (.int 1)) (dCall C 11 (aCons (dName 1) (aCons (dC (.int 14)) aNil)))) (aCons (dC (.int 0)) (aCons (dC (.str "abc")) (aCons (dLst (aCons (dC (.str "x")) (aCons (dC (.str "y")) aNil))) aNil)))))))
  (sSeq (sIf (dTru (dName 2)) (sSet 4 (dBin gAdd (dName 4) (dTup (aCons (dTup (aCons (dBin gPow (dC (.int 10)) (dC (.int 30))) (aCons (dTup (aCons (dC (.str "wait")) (aCons (dC (.str "a")) (aCons (dTup (aCons (dTup (aCons (dC (.int 1)) (aCons (dTup (aCons (dC (.str "got")) (aCons (dC (.int 0)) aNil))) aNil))) aNil)) aNil)))) aNil))) (aCons (dTup (aCons (dBin gMul (dC (.int 6)) (dBin gPow (dC (.int 10)) (dC (.int 29)))) (aCons (dTup (aCons (dC (.str "letter")) (aCons (dC (.str "b")) (aCons (dTup aNil) aNil)))) aNil))) aNil))))) sNil)
  (sSeq (sSet 5 (dCall C 112 (aCons (dName 4) aNil)))
  (sSeq (sSet 6 (dCall C 116 (aCons (dName 4) aNil)))
  (sSeq (sIf (tOr' (dTst (dBin (gNe C.room) (dName 6) (dName 5))) (tOr' (tNot' (dTru (dCall C 48 (aCons (dName 6) aNil)))) (tOr' (tNot' (dTru (dCall C 117 (aCons (dName 6) aNil)))) (dTst (dBin (gNe C.room) (dCall C 116 (aCons (dName 6) aNil)) (dName 6)))))) (sRet (dC (.bl false))) sNil)
  (sSeq (sSet 7 (dCall C 114 (aCons (dName 1) (aCons (dName 5) (aCons (dC (.int 1)) aNil)))))
  (sSeq (sIf (tOr' (tNot' (dTru (dCall C 48 (aCons (dName 7) aNil)))) (tOr' (dTst (dBin (gNe C.room) (dCall C 116 (aCons (dName 7) aNil)) (dName 5))) (tOr' (dTst (dBin gIsNot (dCall C 115 (aCons (dName 4) (aCons (dName 7) aNil))) (dC (.bl true)))) (dTst (dBin (gNe C.room) (dCall C 47 (aCons (dName 7) aNil)) (dCall C 47 (aCons (dName 4) aNil))))))) (sRet (dC (.bl false))) sNil)
  (sSeq (sSet 8 (dCall C 114 (aCons (dName 1) (aCons (dName 7) (aCons (dC (.int 1)) aNil)))))
  (sIf (tOr' (dTst (dBin (gNe C.room) (dCall C 116 (aCons (dName 8) aNil)) (dName 5))) (dTst (dBin gIsNot (dCall C 115 (aCons (dName 8) (aCons (dName 7) aNil))) (dC (.bl true))))) (sRet (dC (.bl false))) sNil))))))))))
  (sRet (dAnd (dBin (gEq C.room) (dCall C 116 (aCons (dTup aNil) aNil)) (dTup aNil)) (dBin gIs (dCall C 115 (aCons (dTup aNil) (aCons (dTup aNil) aNil))) (dC (.bl true))))))))
end Dl
namespace Dl
open PySem PySem.Spec PyProof.Rows L2 NdefX
def b_beside (C : Cs) : Sd := (sSeq (sExpr (dCall C 60 (aCons (dName 0) (aCons (dName 1) aNil))))
  (sRet (dBin gAdd (dName 0) (dName 1))))
def b__law_kept (C : Cs) : Sd := (sSeq (sSet 4 (dCall C 40 (aCons (dName 0) (aCons (dBin gAdd (dC (.int 1)) (dCall C 11 (aCons (dName 0) (aCons (dC (.int 6)) aNil)))) (aCons (dC (.int 0)) (aCons (dC (.str "abc")) (aCons (dLst (aCons (dC (.str "x")) (aCons (dC (.str "y")) aNil))) aNil)))))))
  (sSeq (sIf (dTst (dBin (gNe C.room) (dCall C 115 (aCons (dCall C 66 (aCons (dName 1) (aCons (dName 4) aNil))) (aCons (dCall C 66 (aCons (dName 4) (aCons (dName 2) aNil))) aNil))) (dName 3))) (sRet (dC (.bl false))) sNil)
  (sSeq (sIf (tOr' (dTst (dBin (gNe C.room) (dCall C 115 (aCons (dCall C 45 (aCons (dC (.str "a")) (aCons (dName 1) aNil))) (aCons (dCall C 45 (aCons (dC (.str "a")) (aCons (dName 2) aNil))) aNil))) (dName 3))) (dTst (dBin gIs (dCall C 115 (aCons (dCall C 45 (aCons (dC (.str "a")) (aCons (dName 1) aNil))) (aCons (dCall C 45 (aCons (dC (.str "b")) (aCons (dName 2) aNil))) aNil))) (dC (.bl true))))) (sRet (dC (.bl false))) sNil)
  (sSeq (sIf (dTst (dBin (gNe C.room) (dCall C 115 (aCons (dCall C 44 (aCons (dC (.str "b")) (aCons (dC (.str "x")) (aCons (dName 1) aNil)))) (aCons (dCall C 44 (aCons (dC (.str "b")) (aCons (dC (.str "x")) (aCons (dName 2) aNil)))) aNil))) (dName 3))) (sRet (dC (.bl false))) sNil)
  (sSeq (sSet 5 (dTup (aCons (dTup (aCons (dC (.int 1)) (aCons (dTup (aCons (dC (.str "name")) (aCons (dC (.str "fresh")) aNil))) aNil))) aNil)))
  (sSeq (sIf (dTst (dBin (gNe C.room) (dCall C 115 (aCons (dCall C 73 (aCons (dName 1) (aCons (dC (.str "x")) (aCons (dName 5) aNil)))) (aCons (dCall C 73 (aCons (dName 2) (aCons (dC (.str "x")) (aCons (dName 5) aNil)))) aNil))) (dName 3))) (sRet (dC (.bl false))) sNil)
  (sRet (dBin (gEq C.room) (dCall C 115 (aCons (dCall C 44 (aCons (dC (.str "a")) (aCons (dC (.str "x")) (aCons (dCall C 66 (aCons (dName 1) (aCons (dName 4) aNil))) aNil)))) (aCons (dCall C 44 (aCons (dC (.str "a")) (aCons (dC (.str "x")) (aCons (dCall C 66 (aCons (dName 4) (aCons (dName 2) aNil))) aNil)))) aNil))) (dName 3)))))))))
def b_law_120 (C : Cs) : Sd := (sSeq (sSetW 1 (dCall C 22 (aCons (dName 0) aNil)))
  (sSeq (sSet 2 (dCall C 40 (aCons (dName 1) (aCons (dBin gAdd (dC (.int 1)) (dCall C 11 (aCons (dName 1) (aCons (dC (.int 7)) aNil)))) (aCons (dC (.int 0)) (aCons (dC (.str "ab")) (aCons (dLst (aCons (dC (.str "x")) (aCons (dC (.str "y")) aNil))) aNil)))))))
  (sSeq (sSet 3 (dCall C 114 (aCons (dName 1) (aCons (dCall C 112 (aCons (dName 2) aNil)) (aCons (dC (.int 1)) aNil)))))
  (sSeq (sSet 4 (dCall C 114 (aCons (dName 1) (aCons (dName 3) (aCons (dC (.int 1)) aNil)))))
  (sSeq (sIf (tOr' (dTst (dBin gIsNot (dCall C 115 (aCons (dName 2) (aCons (dName 2) aNil))) (dC (.bl true)))) (tOr' (dTst (dBin gIsNot (dCall C 115 (aCons (dName 2) (aCons (dName 3) aNil))) (dC (.bl true)))) (dTst (dBin gIsNot (dCall C 115 (aCons (dName 3) (aCons (dName 2) aNil))) (dC (.bl true)))))) (sRet (dC (.bl false))) sNil)
  (sSeq (sIf (tOr' (dTst (dBin gIsNot (dCall C 115 (aCons (dName 2) (aCons (dName 4) aNil))) (dC (.bl true)))) (tNot' (dTru (dCall C 119 (aCons (dName 1) (aCons (dName 2) (aCons (dName 3) (aCons (dC (.bl true)) aNil)))))))) (sRet (dC (.bl false))) sNil)
  (sSeq (sSet 5 (dCall C 40 (aCons (dName 1) (aCons (dBin gAdd (dC (.int 1)) (dCall C 11 (aCons (dName 1) (aCons (dC (.int 5)) aNil)))) (aCons (dC (.int 0)) (aCons (dC (.str "bc")) (aCons (dLst (aCons (dC (.str "y")) (aCons (dC (.str "z")) aNil))) aNil)))))))
  (sSeq (sIf (dTst (dBin gIsNot (dCall C 115 (aCons (dCall C 73 (aCons (dName 2) (aCons (dC (.str "x")) (aCons (dName 5) aNil)))) (aCons (dCall C 73 (aCons (dName 4) (aCons (dC (.str "x")) (aCons (dName 5) aNil)))) aNil))) (dC (.bl true)))) (sRet (dC (.bl false))) sNil)
  (sSeq (sSet 6 (dCall C 40 (aCons (dName 1) (aCons (dBin gAdd (dC (.int 1)) (dCall C 11 (aCons (dName 1) (aCons (dC (.int 7)) aNil)))) (aCons (dC (.int 0)) (aCons (dC (.str "ab")) (aCons (dLst (aCons (dC (.str "x")) (aCons (dC (.str "z")) aNil))) aNil)))))))
  (sSeq (sIf (dTst (dBin gIsNot (dCall C 115 (aCons (dCall C 73 (aCons (dName 6) (aCons (dC (.str "x")) (aCons (dName 2) aNil)))) (aCons (dCall C 73 (aCons (dName 6) (aCons (dC (.str "x")) (aCons (dName 3) aNil)))) aNil))) (dC (.bl true)))) (sRet (dC (.bl false))) sNil)
  (sSeq (sSet 7 (dCall C 73 (aCons (dName 2) (aCons (dC (.str "y")) (aCons (dTup (aCons (dTup (aCons (dC (.int 1)) (aCons (dTup (aCons (dC (.str "mark")) (aCons (dC (.int 2)) aNil))) aNil))) aNil)) aNil)))))
  (sSeq (sIf (dTst (dBin gIsNot (dCall C 115 (aCons (dCall C 65 (aCons (dName 7) (aCons (dC (.int 2)) (aCons (dName 5) aNil)))) (aCons (dCall C 73 (aCons (dName 3) (aCons (dC (.str "y")) (aCons (dName 5) aNil)))) aNil))) (dC (.bl true)))) (sRet (dC (.bl false))) sNil)
  (sSeq (sSet 8 (dCall C 40 (aCons (dName 1) (aCons (dCall C 41 (aCons (dName 2) aNil)) (aCons (dC (.int 0)) (aCons (dC (.str "ab")) (aCons (dLst (aCons (dC (.str "x")) (aCons (dC (.str "y")) aNil))) aNil)))))))
  (sSeq (sSet 9 (dBin (gEq C.room) (dCall C 112 (aCons (dName 8) aNil)) (dCall C 112 (aCons (dName 2) aNil))))
  (sRet (dAnd (dBin (gEq C.room) (dCall C 115 (aCons (dName 2) (aCons (dName 8) aNil))) (dName 9)) (dCall C 119 (aCons (dName 1) (aCons (dName 2) (aCons (dName 8) (aCons (dName 9) aNil)))))))))))))))))))))
end Dl
/-! Pl1: plans as an inductive type; the program's tests of plans. -/
namespace Dl
open PySem PySem.Spec PyProof.Rows L2 NdefX
mutual
inductive Pa where
  | name (x : Str) | mark (n : Nat) | got (n : Nat) | letter (x : Str) (b : Pl) | wait (x : Str) (b : Pl)
inductive Pl where
  | nil | cons (c : Nat) (p : Pa) (r : Pl)
end
mutual
def Pa.d : Pa → D
  | .name x => .tup [.str "name", .str x]
  | .mark n => .tup [.str "mark", .int n]
  | .got n => .tup [.str "got", .int n]
  | .letter x b => .tup [.str "letter", .str x, .tup b.ds]
  | .wait x b => .tup [.str "wait", .str x, .tup b.ds]
def Pl.ds : Pl → List D
  | .nil => []
  | .cons c p r => .tup [.int c, p.d] :: r.ds
end
abbrev Pl.d (p : Pl) : D := .tup p.ds
mutual
/-- how deep letters and waits stand in one another -/
def Pa.dep : Pa → Nat
  | .letter _ b => b.dep + 1
  | .wait _ b => b.dep + 1
  | _ => 0
def Pl.dep : Pl → Nat
  | .nil => 0
  | .cons _ p r => max p.dep r.dep
end
def smallS : Str := "abcdefghijklmnopqrstuvwxyz"
def wordB (x : Str) : Bool := decide (1 ≤ x.length) && decide (x.length ≤ 8) && x.cps.toList.all (fun c => decide (c ∈ smallS.cps.toList))
def doorB (x : Str) : Bool := wordB x && decide (x.length = 1)
mutual
def Pa.ok : Pa → Nat → Bool
  | .name x, _ => wordB x
  | .mark _, _ => true
  | .got n, k => decide (n < k)
  | .letter x b, k => doorB x && b.ok k
  | .wait x b, k => doorB x && b.ok (k + 1)
def Pl.ok : Pl → Nat → Bool
  | .nil, _ => true
  | .cons c p r, k => decide (1 ≤ c) && p.ok k && r.ok k
end
/-! equality of data -/
section
variable {a b : D} {l k : List D} {s t : Str} {i j : Int}
@[simp] theorem eqt_cc : (D.tup (a :: l)).eq (.tup (b :: k)) = (a.eq b && (D.tup l).eq (.tup k)) := rfl
@[simp] theorem eqt_nn : (D.tup []).eq (.tup []) = true := rfl
@[simp] theorem eqt_nc : (D.tup []).eq (.tup (b :: k)) = false := rfl
@[simp] theorem eqt_cn : (D.tup (a :: l)).eq (.tup []) = false := rfl
@[simp] theorem eq_ss : (D.str s).eq (.str t) = decide (s = t) := by rfl
@[simp] theorem eq_ii : (D.int i).eq (.int j) = decide (i = j) := by rfl
@[simp] theorem eq_is : (D.int i).eq (.str t) = false := rfl
@[simp] theorem eq_si : (D.str t).eq (.int i) = false := rfl
@[simp] theorem eq_it : (D.int i).eq (.tup k) = false := rfl
@[simp] theorem eq_st : (D.str t).eq (.tup k) = false := rfl
@[simp] theorem eq_ti : (D.tup k).eq (.int i) = false := rfl
@[simp] theorem eq_ts : (D.tup k).eq (.str t) = false := rfl
@[simp] theorem dept_c : (D.tup (a :: l)).dep = max (a.dep + 1) (D.tup l).dep := by
  show max a.py.depth (PyData.depthAll (D.pyAll l)) + 1 = max (a.py.depth + 1) (PyData.depthAll (D.pyAll l) + 1)
  omega
@[simp] theorem dept_n : (D.tup []).dep = 1 := rfl
end
mutual
theorem D.eq_refl : ∀ d : D, d.eq d = true
  | .non => rfl
  | .bl b => by rw [eq_b]; simp
  | .int i => by simp
  | .str s => by simp
  | .lst l => D.eq_reflL l
  | .tup l => D.eq_reflL l
theorem D.eq_reflL : ∀ l : List D, PyData.eqvAll (D.pyAll l) (D.pyAll l) = true
  | [] => rfl
  | d :: l => by
    show (PyData.eqv d.py d.py && PyData.eqvAll (D.pyAll l) (D.pyAll l)) = true
    rw [D.eq_reflL l, Bool.and_true]
    exact D.eq_refl d
end
theorem gEq_self {rm : Nat} {d : D} (h : d.dep ≤ rm) : gEq rm d d = some (.dat (.bl true)) := by
  unfold gEq
  rw [if_pos (by omega), D.eq_refl]
theorem gNe_self {rm : Nat} {d : D} (h : d.dep ≤ rm) : gNe rm d d = some (.dat (.bl false)) := by
  unfold gNe
  rw [if_pos (by omega), D.eq_refl]
  rfl
theorem gEq_t {rm : Nat} {k l : List D} (h : (D.tup l).dep ≤ rm) : gEq rm (.tup k) (.tup l) = some (.dat (.bl ((D.tup k).eq (.tup l)))) := by
  unfold gEq
  rw [if_pos (by omega)]
mutual
theorem Pa.dep_le : ∀ p : Pa, p.d.dep ≤ 3 * p.dep + 2
  | .name x => by simp [Pa.d]
  | .mark n => by simp [Pa.d]
  | .got n => by simp [Pa.d]
  | .letter x b => by have := Pl.dep_le b; simp only [Pa.d, Pa.dep, dept_c, dept_n, dep_s, Pl.d] at *; omega
  | .wait x b => by have := Pl.dep_le b; simp only [Pa.d, Pa.dep, dept_c, dept_n, dep_s, Pl.d] at *; omega
theorem Pl.dep_le : ∀ p : Pl, p.d.dep ≤ 3 * p.dep + 4
  | .nil => by simp [Pl.d, Pl.ds]
  | .cons c p r => by have h1 := Pa.dep_le p; have h2 := Pl.dep_le r; simp only [Pl.d, Pl.ds, Pl.dep, dept_c, dept_n, dep_i] at *; omega
end
theorem len2 {a b : D} : ([a, b] : List D).length = 2 := rfl
theorem at_0 {α : Type} {a : α} {l : List α} : atI (a :: l) 0 = some a := by
  have := atI_get (l := a :: l) (k := 0) (by simp)
  simpa using this
theorem at_1 {α : Type} {a b : α} {l : List α} : atI (a :: b :: l) 1 = some b := by
  have := atI_get (l := a :: b :: l) (k := 1) (by simp)
  simpa using this
theorem at_2 {α : Type} {a b c : α} {l : List α} : atI (a :: b :: c :: l) 2 = some c := by
  have := atI_get (l := a :: b :: c :: l) (k := 2) (by simp)
  simpa using this
/-! ### the program's tests -/
def isI : D → Bool
  | .int _ => true
  | _ => false
def sgnF : D → D
  | .str z => .bl (decide (z.cps.toList.headD 0 ∈ smallS.cps.toList))
  | _ => .non
/-- the tests stand in the table -/
structure HasC (tbl : Nat → Option DefB) : Prop where
  t1 : tbl 1 = some ⟨1, 1, b_is_integer⟩
  t2 : tbl 2 = some ⟨3, 3, b_is_within⟩
  t4 : tbl 4 = some ⟨1, 1, b_is_pair⟩
  t27 : tbl 27 = some ⟨1, 1, b_is_triple⟩
  t24 : tbl 24 = some ⟨1, 2, b_is_word⟩
  t26 : tbl 26 = some ⟨1, 1, b_is_door⟩
  t28 : tbl 28 = some ⟨2, 2, b_is_part⟩
  t25 : tbl 25 = some ⟨2, 3, b_is_plan_in⟩
theorem succ_of {n k : Nat} (h : k + 1 ≤ n) : ∃ m, n = m + 1 ∧ k ≤ m := ⟨n - 1, by omega, by omega⟩
section
variable {tbl : Nat → Option DefB} (T : HasC tbl)
include T
theorem c_integer {n : Nat} (hn : 1 ≤ n) (d : D) (w : World) : (Den tbl n).call 1 [.dat d] w = .ok (.dat (.bl (isI d))) w := by
  obtain ⟨m, rfl, _⟩ := succ_of (k := 0) hn
  rw [den_succ T.t1]
  cases d <;> simp [runB, initE, toSl, b_is_integer, D.isTy, isI]
theorem c_within {n : Nat} (hn : 2 ≤ n) (i l m : Int) (w : World) : (Den tbl n).call 2 [.dat (.int i), .dat (.int l), .dat (.int m)] w = .ok (.dat (.bl (decide (l ≤ i) && decide (i ≤ m)))) w := by
  obtain ⟨k, rfl, hk⟩ := succ_of (k := 1) hn
  rw [den_succ T.t2]
  have h := c_integer T hk
  by_cases h1 : l ≤ i <;> simp [runB, initE, toSl, b_is_within, h _ _, isI, h1]
theorem c_pair {n : Nat} (hn : 1 ≤ n) (l : List D) (w : World) : (Den tbl n).call 4 [.dat (.tup l)] w = .ok (.dat (.bl (decide (l.length = 2)))) w := by
  obtain ⟨m, rfl, _⟩ := succ_of (k := 0) hn
  rw [den_succ T.t4]
  simp [runB, initE, toSl, b_is_pair, D.isTy]
  omega
theorem c_triple {n : Nat} (hn : 1 ≤ n) (l : List D) (w : World) : (Den tbl n).call 27 [.dat (.tup l)] w = .ok (.dat (.bl (decide (l.length = 3)))) w := by
  obtain ⟨m, rfl, _⟩ := succ_of (k := 0) hn
  rw [den_succ T.t27]
  simp [runB, initE, toSl, b_is_triple, D.isTy]
  omega
theorem c_word {n : Nat} (hn : 1 ≤ n) (x : Str) (w : World) : (Den tbl n).call 24 [.dat (.str x)] w = .ok (.dat (.bl (wordB x))) w := by
  obtain ⟨m, rfl, _⟩ := succ_of (k := 0) hn
  rw [den_succ T.t24]
  have g := compGo_map (i := 1) (e := dBin (inD false (Den tbl m).room) (dName 1) (dC (.str "abcdefghijklmnopqrstuvwxyz"))) (env := [.dat (.str x), .un]) (w := w) (f := sgnF) (l := chs x) (fun d hd => by
    obtain ⟨c, _, rfl⟩ := List.mem_map.mp hd
    simp [inD, smallS, sgnF])
  have ha : cAll [.lst ((chs x).map sgnF)] = some (.dat (.bl (x.cps.toList.all fun c => decide (c ∈ smallS.cps.toList)))) := by
    rw [cAll_l]
    unfold chs
    rw [List.map_map]
    show (bolsOf (x.cps.toList.map fun c => D.bl (decide (c ∈ smallS.cps.toList)))).map _ = _
    rw [bolsOf_mapF]
    simp
  by_cases h1 : 1 ≤ x.length
  · by_cases h2 : x.length ≤ 8
    · have e1 : (1 : Int) ≤ x.length := by omega
      have e2 : (x.length : Int) ≤ 8 := by omega
      simp [runB, initE, toSl, b_is_word, D.isTy, iTxt, e1, e2, h1, h2, g, -cAll_l, ha, wordB]
    · have e1 : (1 : Int) ≤ x.length := by omega
      have e2 : ¬ (x.length : Int) ≤ 8 := by omega
      simp [runB, initE, toSl, b_is_word, D.isTy, e1, e2, h1, h2, wordB]
  · have e1 : ¬ (1 : Int) ≤ x.length := by omega
    simp [runB, initE, toSl, b_is_word, D.isTy, e1, h1, wordB]
theorem c_door {n : Nat} (hn : 2 ≤ n) (x : Str) (w : World) : (Den tbl n).call 26 [.dat (.str x)] w = .ok (.dat (.bl (doorB x))) w := by
  obtain ⟨k, rfl, hk⟩ := succ_of (k := 1) hn
  rw [den_succ T.t26]
  have h := c_word T hk
  by_cases h1 : wordB x = true
  · simp [runB, initE, toSl, b_is_door, h _ _, h1, doorB]
    omega
  · simp [runB, initE, toSl, b_is_door, h _ _, h1, doorB]
end
end Dl
/-! Pl2: is_plan_in. -/
namespace Dl
open PySem PySem.Spec PyProof.Rows L2 NdefX
theorem ne_1 : ¬ Str.ofString "mark" = Str.ofString "name" := by decide +kernel
theorem ne_2 : ¬ Str.ofString "got" = Str.ofString "name" := by decide +kernel
theorem ne_3 : ¬ Str.ofString "got" = Str.ofString "mark" := by decide +kernel
theorem ne_4 : ¬ Str.ofString "letter" = Str.ofString "wait" := by decide +kernel
theorem ne_5 : ¬ Str.ofString "wait" = Str.ofString "letter" := by decide +kernel
theorem ne_6 : ¬ Str.ofString "name" = Str.ofString "letter" := by decide +kernel
theorem ne_7 : ¬ Str.ofString "name" = Str.ofString "wait" := by decide +kernel
theorem ne_8 : ¬ Str.ofString "mark" = Str.ofString "letter" := by decide +kernel
theorem ne_9 : ¬ Str.ofString "mark" = Str.ofString "wait" := by decide +kernel
theorem ne_10 : ¬ Str.ofString "got" = Str.ofString "letter" := by decide +kernel
theorem ne_11 : ¬ Str.ofString "got" = Str.ofString "wait" := by decide +kernel
theorem ne_12 : ¬ Str.ofString "letter" = Str.ofString "name" := by decide +kernel
theorem ne_13 : ¬ Str.ofString "wait" = Str.ofString "name" := by decide +kernel
theorem ne_14 : ¬ Str.ofString "name" = Str.ofString "got" := by decide +kernel
theorem ne_15 : ¬ Str.ofString "mark" = Str.ofString "got" := by decide +kernel
theorem ne_16 : ¬ Str.ofString "letter" = Str.ofString "got" := by decide +kernel
theorem ne_17 : ¬ Str.ofString "wait" = Str.ofString "got" := by decide +kernel
theorem ne_18 : ¬ Str.ofString "name" = Str.ofString "mark" := by decide +kernel
theorem ne_19 : ¬ Str.ofString "letter" = Str.ofString "mark" := by decide +kernel
theorem ne_20 : ¬ Str.ofString "wait" = Str.ofString "mark" := by decide +kernel
/-- a data part is a tuple -/
def Pa.l : Pa → List D
  | .name x => [.str "name", .str x]
  | .mark n => [.str "mark", .int n]
  | .got n => [.str "got", .int n]
  | .letter x b => [.str "letter", .str x, .tup b.ds]
  | .wait x b => [.str "wait", .str x, .tup b.ds]
theorem Pa.d_l (p : Pa) : p.d = .tup p.l := by cases p <;> rfl
theorem notin2 {rm : Nat} (h : 1 ≤ rm) {z a b : Str} : inD true rm (.str z) (.tup [.str a, .str b]) = some (.dat (.bl (!(decide (a = z) || decide (b = z))))) := by
  have e : 1 + min (depAll [.str a, .str b]) (D.str z).dep ≤ rm := by
    rw [dep_s]
    omega
  show (if 1 + min (depAll [.str a, .str b]) (D.str z).dep ≤ rm then some (RV.dat (.bl (true ^^ [D.str a, D.str b].any fun y => y.eq (.str z)))) else none) = _
  rw [if_pos e]
  simp
section
variable {tbl : Nat → Option DefB} (T : HasC tbl)
include T
abbrev inBody (C : Cs) : Sd := (sIf (tOr' (tNot' (dTru (dCall C 4 (aCons (dName 2) aNil)))) (tOr' (tNot' (dTru (dCall C 1 (aCons (dBin gIx (dName 2) (dC (.int 0))) aNil)))) (tOr' (dTst (dBin (gLt C.room) (dBin gIx (dName 2) (dC (.int 0))) (dC (.int 1)))) (tNot' (dTru (dCall C 28 (aCons (dBin gIx (dName 2) (dC (.int 1))) (aCons (dName 1) aNil)))))))) (sRet (dC (.bl false))) sNil)
omit T in
theorem plan_in_of {m : Nat} {p : Pl} {k : Nat} {w : World}
    (h : if p.ok k = true then ∃ s', forGo (gN 2) (inBody (Den tbl m)) p.ds [.dat p.d, .dat (.int k), .un] w = .ok (.nx [.dat p.d, .dat (.int k), s']) w else forGo (gN 2) (inBody (Den tbl m)) p.ds [.dat p.d, .dat (.int k), .un] w = .ok (.rt (.dat (.bl false))) w) :
    runB ⟨2, 3, b_is_plan_in⟩ (Den tbl m) [.dat p.d, .dat (.int k)] w = .ok (.dat (.bl (p.ok k))) w := by
  by_cases hp : p.ok k = true
  · rw [if_pos hp] at h
    obtain ⟨s', e⟩ := h
    simp only [Pl.d] at e
    simp [runB, initE, toSl, b_is_plan_in, D.isTy, e, hp]
  · rw [if_neg hp] at h
    simp only [Pl.d] at h
    simp [runB, initE, toSl, b_is_plan_in, D.isTy, h, hp]
mutual
theorem c_part : ∀ (p : Pa) (k n : Nat) (w : World), 2 * p.dep + 3 ≤ n → (Den tbl n).call 28 [.dat p.d, .dat (.int k)] w = .ok (.dat (.bl (p.ok k))) w
  | .name x, k, n, w, hn => by
    obtain ⟨m, rfl, hm⟩ := succ_of (k := 2) (n := n) (by simp only [Pa.dep] at hn; omega)
    rw [den_succ T.t28]
    simp [runB, initE, toSl, b_is_part, Pa.d, Pa.ok, c_pair T (show 1 ≤ m by omega), at_0, at_1, c_word T (show 1 ≤ m by omega)]
  | .mark j, k, n, w, hn => by
    obtain ⟨m, rfl, hm⟩ := succ_of (k := 2) (n := n) (by simp only [Pa.dep] at hn; omega)
    rw [den_succ T.t28]
    simp [runB, initE, toSl, b_is_part, Pa.d, Pa.ok, c_pair T (show 1 ≤ m by omega), at_0, at_1, c_integer T (show 1 ≤ m by omega), isI, ne_1]
  | .got j, k, n, w, hn => by
    obtain ⟨m, rfl, hm⟩ := succ_of (k := 2) (n := n) (by simp only [Pa.dep] at hn; omega)
    rw [den_succ T.t28]
    simp [runB, initE, toSl, b_is_part, Pa.d, Pa.ok, c_pair T (show 1 ≤ m by omega), at_0, at_1, c_within T (show 2 ≤ m by omega), ne_2, ne_3]
    omega
  | .letter x b, k, n, w, hn => by
    simp only [Pa.dep] at hn
    obtain ⟨m, rfl, hm⟩ := succ_of (k := 2) (n := n) (by omega)
    obtain ⟨m', rfl, hm'⟩ := succ_of (k := 1) (n := m) (by omega)
    rw [den_succ T.t28]
    have hb : (Den tbl (m' + 1)).call 25 [.dat b.d, .dat (.int k)] w = .ok (.dat (.bl (b.ok k))) w := by
      rw [den_succ T.t25]
      exact plan_in_of (c_inLoop b b.d k m' w .un (by omega))
    simp only [Pl.d] at hb
    have hr := fun (z a b : Str) => notin2 (rm := (Den tbl (m' + 1)).room) (z := z) (a := a) (b := b) (by rw [den_room]; omega)
    by_cases hx : doorB x = true
    · simp [runB, initE, toSl, b_is_part, Pa.d, Pa.ok, c_pair T (show 1 ≤ m' + 1 by omega), c_triple T (show 1 ≤ m' + 1 by omega), at_0, at_1, at_2, c_door T (show 2 ≤ m' + 1 by omega), hx, hb, hr, ne_4]
    · simp [runB, initE, toSl, b_is_part, Pa.d, Pa.ok, c_pair T (show 1 ≤ m' + 1 by omega), c_triple T (show 1 ≤ m' + 1 by omega), at_0, at_1, at_2, c_door T (show 2 ≤ m' + 1 by omega), hx, hr]
  | .wait x b, k, n, w, hn => by
    simp only [Pa.dep] at hn
    obtain ⟨m, rfl, hm⟩ := succ_of (k := 2) (n := n) (by omega)
    obtain ⟨m', rfl, hm'⟩ := succ_of (k := 1) (n := m) (by omega)
    rw [den_succ T.t28]
    have hb : (Den tbl (m' + 1)).call 25 [.dat b.d, .dat (.int ((k + 1 : Nat)))] w = .ok (.dat (.bl (b.ok (k + 1)))) w := by
      rw [den_succ T.t25]
      exact plan_in_of (c_inLoop b b.d (k + 1) m' w .un (by omega))
    simp only [Pl.d, Int.natCast_add, Int.cast_ofNat_Int] at hb
    have hr := fun (z a b : Str) => notin2 (rm := (Den tbl (m' + 1)).room) (z := z) (a := a) (b := b) (by rw [den_room]; omega)
    by_cases hx : doorB x = true
    · simp [runB, initE, toSl, b_is_part, Pa.d, Pa.ok, c_pair T (show 1 ≤ m' + 1 by omega), c_triple T (show 1 ≤ m' + 1 by omega), at_0, at_1, at_2, c_door T (show 2 ≤ m' + 1 by omega), hx, hb, hr]
    · simp [runB, initE, toSl, b_is_part, Pa.d, Pa.ok, c_pair T (show 1 ≤ m' + 1 by omega), c_triple T (show 1 ≤ m' + 1 by omega), at_0, at_1, at_2, c_door T (show 2 ≤ m' + 1 by omega), hx, hr]
theorem c_inLoop : ∀ (r : Pl) (P : D) (k m : Nat) (w : World) (s : Sl), 2 * r.dep + 3 ≤ m →
    if r.ok k = true then ∃ s', forGo (gN 2) (inBody (Den tbl m)) r.ds [.dat P, .dat (.int k), s] w = .ok (.nx [.dat P, .dat (.int k), s']) w else forGo (gN 2) (inBody (Den tbl m)) r.ds [.dat P, .dat (.int k), s] w = .ok (.rt (.dat (.bl false))) w
  | .nil, P, k, m, w, s, hm => by
    rw [if_pos (show Pl.nil.ok k = true by simp [Pl.ok])]
    exact ⟨s, by simp [Pl.ds]⟩
  | .cons c p r, P, k, m, w, s, hm => by
    simp only [Pl.dep] at hm
    have h1 := c_part p k m w (by omega)
    have h2 := c_inLoop r P k m w (.dat (.tup [.int c, p.d])) (by omega)
    have e : ∀ w, (Den tbl m).call 4 [.dat (.tup [.int c, p.d])] w = .ok (.dat (.bl true)) w := fun w => by rw [c_pair T (by omega)]; rfl
    simp only [Pl.ds, Pl.ok]
    by_cases hc : 1 ≤ c
    · have hc' : ¬ ((c : Int) < 1) := by omega
      by_cases hp : p.ok k = true
      · simp only [hc, hp, decide_true, Bool.true_and]
        simp [for_cons, e, at_0, at_1, c_integer T (show 1 ≤ m by omega), isI, hc', h1, hp]
        simpa using h2
      · simp [for_cons, e, at_0, at_1, c_integer T (show 1 ≤ m by omega), isI, hc', h1, hp]
    · have hc' : ((c : Int) < 1) := by omega
      simp [for_cons, e, at_0, at_1, c_integer T (show 1 ≤ m by omega), isI, hc, hc']
end
theorem c_plan_in (p : Pl) (k n : Nat) (w : World) (hn : 2 * p.dep + 4 ≤ n) : (Den tbl n).call 25 [.dat p.d, .dat (.int k)] w = .ok (.dat (.bl (p.ok k))) w := by
  obtain ⟨m, rfl, hm⟩ := succ_of (k := 2 * p.dep + 3) hn
  rw [den_succ T.t25]
  exact plan_in_of (c_inLoop T p p.d k m w .un hm)
end
end Dl
/-! Pl3: sizes; parts within; labels. -/
namespace Dl
open PySem PySem.Spec PyProof.Rows L2 NdefX
/-- numbers below this one are multiplied without an end -/
@[irreducible] def limN : Nat := 2 ^ 400000
theorem mulOk_nat {i j : Nat} (hi : i < limN) (hj : j < limN) : mulOk i j = true := by
  have k : ∀ n : Nat, n < limN → n.log2 < 400000 := fun n h => by
    unfold limN at h
    by_cases h0 : n = 0
    · subst h0; exact (by decide : (Nat.log2 0) < 400000)
    · exact (Nat.log2_lt h0).mpr h
  have h1 := k i hi
  have h2 := k j hj
  unfold mulOk
  rw [Bool.or_eq_true]
  right
  simp only [Int.natAbs_natCast, decide_eq_true_eq]
  omega
theorem go_cons {g : Tgt} {tt : Tst} {e : Ex} {env : Ev} {d : D} {ds : List D} {w : World} : compGo g tt e env (d :: ds) w = (match g d env with
    | none => .stuck
    | some env1 => (noX (tt env1 w)).bind fun b w1 => if b = true then (noX (e env1 w1)).bind fun r w2 => (match r.st with
        | some x => (compGo g tt e env ds w2).bind fun xs w3 => .ok (x :: xs) w3
        | none => .stuck)
      else compGo g tt e env ds w1) := rfl
theorem intsOf_ints (l : List Int) : intsOf (l.map .int) = some l := by
  induction l with
  | nil => rfl
  | cons i l ih => simp [intsOf, ih]
mutual
def Pa.size : Pa → Nat
  | .letter _ b => b.size + 1
  | .wait _ b => b.size + 1
  | _ => 1
def Pl.size : Pl → Nat
  | .nil => 0
  | .cons c p r => c * p.size + r.size
end
def Pl.szs : Pl → List Int
  | .nil => []
  | .cons c p r => ((c : Int) * (p.size : Int)) :: r.szs
theorem szs_sum : ∀ p : Pl, p.szs.sum = (p.size : Int)
  | .nil => rfl
  | .cons c p r => by
    rw [Pl.szs, List.sum_cons, szs_sum r, Pl.size]
    push_cast
    rfl
mutual
/-- no product beyond the limit -/
def Pa.lim : Pa → Prop
  | .letter _ b => b.lim
  | .wait _ b => b.lim
  | _ => True
def Pl.lim : Pl → Prop
  | .nil => True
  | .cons c p r => c < limN ∧ p.size < limN ∧ p.lim ∧ r.lim
end
structure HasS (tbl : Nat → Option DefB) : Prop where
  t29 : tbl 29 = some ⟨1, 3, b_size_of⟩
  t30 : tbl 30 = some ⟨1, 1, b_part_size⟩
theorem sum_szs (p : Pl) : cSum [.lst (p.szs.map .int)] = some (.dat (.int p.size)) := by
  rw [cSum_l, intsOf_ints, ← szs_sum]
  rfl
section
variable {tbl : Nat → Option DefB} (T : HasS tbl)
include T
mutual
theorem c_psize : ∀ (p : Pa) (n : Nat) (w : World), 2 * p.dep + 1 ≤ n → p.lim → (Den tbl n).call 30 [.dat p.d] w = .ok (.dat (.int p.size)) w
  | .name x, n, w, hn, hl => by
    obtain ⟨m, rfl, hm⟩ := succ_of (k := 0) (n := n) (by simp only [Pa.dep] at hn; omega)
    rw [den_succ T.t30]
    simp [runB, initE, toSl, b_part_size, Pa.d, Pa.size]
  | .mark j, n, w, hn, hl => by
    obtain ⟨m, rfl, hm⟩ := succ_of (k := 0) (n := n) (by simp only [Pa.dep] at hn; omega)
    rw [den_succ T.t30]
    simp [runB, initE, toSl, b_part_size, Pa.d, Pa.size]
  | .got j, n, w, hn, hl => by
    obtain ⟨m, rfl, hm⟩ := succ_of (k := 0) (n := n) (by simp only [Pa.dep] at hn; omega)
    rw [den_succ T.t30]
    simp [runB, initE, toSl, b_part_size, Pa.d, Pa.size]
  | .letter x b, n, w, hn, hl => by
    simp only [Pa.dep] at hn
    obtain ⟨m, rfl, hm⟩ := succ_of (k := 1) (n := n) (by omega)
    obtain ⟨m', rfl, hm'⟩ := succ_of (k := 0) (n := m) (by omega)
    rw [den_succ T.t30]
    have hb : (Den tbl (m' + 1)).call 29 [.dat (.tup b.ds)] w = .ok (.dat (.int b.size)) w := by
      rw [den_succ T.t29]
      have g := c_szLoop b (.tup b.ds) m' w (by omega) hl
      have hs := sum_szs b
      simp [runB, initE, toSl, b_size_of, g, -cSum_l, hs]
    simp [runB, initE, toSl, b_part_size, Pa.d, Pa.size, at_2, hb]
    omega
  | .wait x b, n, w, hn, hl => by
    simp only [Pa.dep] at hn
    obtain ⟨m, rfl, hm⟩ := succ_of (k := 1) (n := n) (by omega)
    obtain ⟨m', rfl, hm'⟩ := succ_of (k := 0) (n := m) (by omega)
    rw [den_succ T.t30]
    have hb : (Den tbl (m' + 1)).call 29 [.dat (.tup b.ds)] w = .ok (.dat (.int b.size)) w := by
      rw [den_succ T.t29]
      have g := c_szLoop b (.tup b.ds) m' w (by omega) hl
      have hs := sum_szs b
      simp [runB, initE, toSl, b_size_of, g, -cSum_l, hs]
    simp [runB, initE, toSl, b_part_size, Pa.d, Pa.size, at_2, hb]
    omega
theorem c_szLoop : ∀ (r : Pl) (P : D) (m : Nat) (w : World), 2 * r.dep + 1 ≤ m → r.lim →
    compGo (gT 2 (gsCons (gN 1) (gsCons (gN 2) gsNil))) tYes' (dBin gMul (dName 1) (dCall (Den tbl m) 30 (aCons (dName 2) aNil))) [.dat P, .un, .un] r.ds w = .ok (r.szs.map .int) w
  | .nil, P, m, w, hm, hl => rfl
  | .cons c p r, P, m, w, hm, hl => by
    simp only [Pl.dep] at hm
    obtain ⟨l1, l2, l3, l4⟩ := hl
    have h1 := c_psize p m w (by omega) l3
    have h2 := c_szLoop r P m w (by omega) l4
    have mo : mulOk (c : Int) (p.size : Int) = true := mulOk_nat l1 l2
    simp [Pl.ds, go_cons, h1, mo, h2, Pl.szs]
end
theorem c_sizeOf (p : Pl) (n : Nat) (w : World) (hn : 2 * p.dep + 2 ≤ n) (hl : p.lim) : (Den tbl n).call 29 [.dat p.d] w = .ok (.dat (.int p.size)) w := by
  obtain ⟨m, rfl, hm⟩ := succ_of (k := 2 * p.dep + 1) hn
  rw [den_succ T.t29]
  have g := c_szLoop T p (.tup p.ds) m w (by omega) hl
  have hs := sum_szs p
  simp [runB, initE, toSl, b_size_of, g, -cSum_l, hs]
end
/-! ### parts within -/
mutual
def Pa.within : Pa → List Pa
  | .letter _ b => b.within
  | .wait _ b => b.within
  | _ => []
def Pl.within : Pl → List Pa
  | .nil => []
  | .cons _ p r => p :: (p.within ++ r.within)
end
structure HasW (tbl : Nat → Option DefB) : Prop where
  t32 : tbl 32 = some ⟨1, 4, b_parts_within⟩
abbrev pwBody (C : Cs) : Sd := (sSeq (sAppend 1 (dName 3))
  (sIf (dTst (dBin (gEq C.room) (dBlt cLen (rCons (dName 3) rNil)) (dC (.int 3)))) (sExtend 1 (dCall C 32 (aCons (dBin gIx (dName 3) (dC (.int 2))) aNil))) sNil))
@[simp] theorem sExtend_ap {i : Nat} {e : Ex} {env : Ev} {w : World} : sExtend i e env w = (match env[i]? with
  | some (.own l) => (e env w).bind fun r w1 => (match r with
    | .fresh zs => if l.length + zs.length ≤ 16777216 then .ok (.nx (env.set i (.own (l ++ zs)))) w1 else .stuck
    | _ => .stuck)
  | _ => .stuck) := rfl
section
variable {tbl : Nat → Option DefB} (T : HasW tbl)
include T
theorem c_pwLoop : ∀ (r : Pl) (P : D) (m : Nat) (w : World) (acc : List D) (s2 s3 : Sl), r.dep ≤ m → acc.length + r.within.length < 16777216 →
    ∃ s2' s3', forGo (gT 2 (gsCons (gN 2) (gsCons (gN 3) gsNil))) (pwBody (Den tbl m)) r.ds [.dat P, .own acc, s2, s3] w = .ok (.nx [.dat P, .own (acc ++ r.within.map Pa.d), s2', s3']) w
  | .nil, P, m, w, acc, s2, s3, hm, hz => ⟨s2, s3, by simp [Pl.ds, Pl.within]⟩
  | .cons c p r, P, m, w, acc, s2, s3, hm, hz => by
    simp only [Pl.dep] at hm
    simp only [Pl.within, List.length_cons, List.length_append] at hz
    have leaf : p.within = [] → p.l.length = 2 → ∃ s2' s3', forGo (gT 2 (gsCons (gN 2) (gsCons (gN 3) gsNil))) (pwBody (Den tbl m)) (Pl.cons c p r).ds [.dat P, .own acc, s2, s3] w = .ok (.nx [.dat P, .own (acc ++ (Pl.cons c p r).within.map Pa.d), s2', s3']) w := fun e0 e1 => by
      obtain ⟨s2', s3', e⟩ := c_pwLoop r P m w (acc ++ [p.d]) (.dat (.int c)) (.dat p.d) (by omega) (by simp; omega)
      refine ⟨s2', s3', ?_⟩
      have h1 : acc.length < 16777216 := by omega
      simp only [Pa.d_l] at e ⊢
      simp [Pl.ds, for_cons, Pa.d_l, h1, e1, e, Pl.within, e0]
    have node : ∀ b : Pl, b.dep + 1 ≤ m → p.within = b.within → p.l.length = 3 → atI p.l 2 = some (.tup b.ds) → (∃ s2' s3', forGo (gT 2 (gsCons (gN 2) (gsCons (gN 3) gsNil))) (pwBody (Den tbl (m - 1))) b.ds [.dat (.tup b.ds), .own [], .un, .un] w = .ok (.nx [.dat (.tup b.ds), .own ([] ++ b.within.map Pa.d), s2', s3']) w) →
        ∃ s2' s3', forGo (gT 2 (gsCons (gN 2) (gsCons (gN 3) gsNil))) (pwBody (Den tbl m)) (Pl.cons c p r).ds [.dat P, .own acc, s2, s3] w = .ok (.nx [.dat P, .own (acc ++ (Pl.cons c p r).within.map Pa.d), s2', s3']) w := fun b hb e0 e1 e2 hl => by
      obtain ⟨m', rfl, hm'⟩ := succ_of (k := b.dep) (n := m) (by omega)
      obtain ⟨t2, t3, hl⟩ := hl
      have hc : (Den tbl (m' + 1)).call 32 [.dat (.tup b.ds)] w = .ok (.fresh (b.within.map Pa.d)) w := by
        rw [den_succ T.t32]
        simp only [Nat.add_sub_cancel, List.nil_append] at hl
        simp [runB, initE, toSl, b_parts_within, hl]
      obtain ⟨s2', s3', e⟩ := c_pwLoop r P (m' + 1) w (acc ++ [p.d] ++ b.within.map Pa.d) (.dat (.int c)) (.dat p.d) (by omega) (by simp [← e0]; omega)
      refine ⟨s2', s3', ?_⟩
      have h1 : acc.length < 16777216 := by omega
      have h2 : acc.length + 1 + b.within.length ≤ 16777216 := by rw [← e0]; omega
      simp only [Pa.d_l, List.append_assoc, List.singleton_append, List.cons_append, List.nil_append] at e ⊢
      simp [Pl.ds, for_cons, Pa.d_l, h1, e1, e2, hc, h2, e, Pl.within, e0]
    cases p with
    | name x => exact leaf rfl rfl
    | mark x => exact leaf rfl rfl
    | got x => exact leaf rfl rfl
    | letter x b => exact node b (by simp only [Pa.dep] at hm; omega) rfl rfl at_2 (c_pwLoop b (.tup b.ds) (m - 1) w [] .un .un (by simp only [Pa.dep] at hm; omega) (by simp only [Pa.within] at hz; simp; omega))
    | wait x b => exact node b (by simp only [Pa.dep] at hm; omega) rfl rfl at_2 (c_pwLoop b (.tup b.ds) (m - 1) w [] .un .un (by simp only [Pa.dep] at hm; omega) (by simp only [Pa.within] at hz; simp; omega))
theorem c_within' (p : Pl) (n : Nat) (w : World) (hn : p.dep + 1 ≤ n) (hz : p.within.length < 16777216) : (Den tbl n).call 32 [.dat p.d] w = .ok (.fresh (p.within.map Pa.d)) w := by
  obtain ⟨m, rfl, hm⟩ := succ_of (k := p.dep) hn
  rw [den_succ T.t32]
  obtain ⟨t2, t3, hl⟩ := c_pwLoop T p (.tup p.ds) m w [] .un .un (by omega) (by simpa using hz)
  simp only [List.nil_append] at hl
  simp [runB, initE, toSl, b_parts_within, hl]
end
end Dl
/-! Pl4: mapped with a closure. -/
namespace Dl
open PySem PySem.Spec PyProof.Rows L2 NdefX
def Pl.app : Pl → Pl → Pl
  | .nil, q => q
  | .cons c p r, q => .cons c p (r.app q)
def Pl.times (c : Nat) : Pl → Pl
  | .nil => .nil
  | .cons n p r => .cons (c * n) p (r.times c)
mutual
/-- what a part of which c stand there becomes -/
def Pa.mapA (f : Pa → Nat → Pl) (k c : Nat) : Pa → Pl
  | .letter x b => .cons c (.letter x (b.mapA f k)) .nil
  | .wait x b => .cons c (.wait x (b.mapA f (k + 1))) .nil
  | .name x => (f (.name x) k).times c
  | .mark n => (f (.mark n) k).times c
  | .got n => (f (.got n) k).times c
def Pl.mapA (f : Pa → Nat → Pl) (k : Nat) : Pl → Pl
  | .nil => .nil
  | .cons c p r => (p.mapA f k c).app (r.mapA f k)
end
theorem app_ds : ∀ p q : Pl, (p.app q).ds = p.ds ++ q.ds
  | .nil, q => rfl
  | .cons c p r, q => by simp [Pl.app, Pl.ds, app_ds r q]
theorem app_within : ∀ p q : Pl, (p.app q).within = p.within ++ q.within
  | .nil, q => rfl
  | .cons c p r, q => by simp [Pl.app, Pl.within, app_within r q]
theorem times_within {c : Nat} : ∀ p : Pl, (p.times c).within = p.within
  | .nil => rfl
  | .cons n p r => by simp [Pl.times, Pl.within, times_within r]
theorem len_within : ∀ p : Pl, p.ds.length ≤ p.within.length
  | .nil => Nat.le_refl _
  | .cons n p r => by have := len_within r; simp [Pl.ds, Pl.within]; omega
theorem times_len {c : Nat} : ∀ p : Pl, (p.times c).ds.length = p.ds.length
  | .nil => rfl
  | .cons n p r => by simp [Pl.times, Pl.ds, times_len r]
/-- the counts of a plan's items -/
def Pl.cl : Pl → Prop
  | .nil => True
  | .cons n _ r => n < limN ∧ r.cl
def Pa.leaf : Pa → Bool
  | .letter _ _ => false
  | .wait _ _ => false
  | _ => true
mutual
def Pa.cls : Pa → Prop
  | .letter _ b => b.cls
  | .wait _ b => b.cls
  | _ => True
/-- all counts below the limit -/
def Pl.cls : Pl → Prop
  | .nil => True
  | .cons c p r => c < limN ∧ p.cls ∧ r.cls
end
structure HasM (tbl : Nat → Option DefB) : Prop where
  t34 : tbl 34 = some ⟨3, 8, b_mapped⟩
theorem times_go {c : Nat} {w : World} {a0 a1 a2 a3 a5 : Sl} (hc : c < limN) : ∀ q : Pl, q.cl →
    compGo (gT 2 (gsCons (gN 6) (gsCons (gN 7) gsNil))) tYes' (dTup (aCons (dBin gMul (dName 4) (dName 6)) (aCons (dName 7) aNil))) [a0, a1, a2, a3, .dat (.int c), a5, .un, .un] q.ds w = .ok (q.times c).ds w
  | .nil, _ => rfl
  | .cons n p r, h => by
    have ih := times_go hc r h.2 (w := w) (a0 := a0) (a1 := a1) (a2 := a2) (a3 := a3) (a5 := a5)
    have mo : mulOk (c : Int) (n : Int) = true := mulOk_nat hc h.1
    simp [Pl.ds, go_cons, mo, ih, Pl.times]
abbrev mpBody (C : Cs) : Sd := (sIf (dTst (dBin (gEq C.room) (dBin gIx (dName 5) (dC (.int 0))) (dC (.str "letter")))) (sAppend 3 (dTup (aCons (dName 4) (aCons (dTup (aCons (dC (.str "letter")) (aCons (dBin gIx (dName 5) (dC (.int 1))) (aCons (dCall C 34 (aCons (dBin gIx (dName 5) (dC (.int 2))) (aCons (dName 1) (aCons (dName 2) aNil)))) aNil)))) aNil)))) (sIf (dTst (dBin (gEq C.room) (dBin gIx (dName 5) (dC (.int 0))) (dC (.str "wait")))) (sAppend 3 (dTup (aCons (dName 4) (aCons (dTup (aCons (dC (.str "wait")) (aCons (dBin gIx (dName 5) (dC (.int 1))) (aCons (dCall C 34 (aCons (dBin gIx (dName 5) (dC (.int 2))) (aCons (dBin gAdd (dName 1) (dC (.int 1))) (aCons (dName 2) aNil)))) aNil)))) aNil)))) (sExtend 3 (dComp (iSeq (dAct C 2 (aCons (dName 5) (aCons (dName 1) aNil)))) [6, 7] (gT 2 (gsCons (gN 6) (gsCons (gN 7) gsNil))) tYes' (dTup (aCons (dBin gMul (dName 4) (dName 6)) (aCons (dName 7) aNil)))))))
/-- what a closure answers for names, marks and gots -/
def ActOk (tbl : Nat → Option DefB) (L i : Nat) (caps : List D) (w : World) (f : Pa → Nat → Pl) : Prop :=
  ∀ (p : Pa) (k n : Nat), p.leaf = true → L ≤ n → (Den tbl n).call i ([.dat p.d, .dat (.int k)] ++ caps.map .dat) w = .ok (.dat (f p k).d) w
section
variable {tbl : Nat → Option DefB} (T : HasM tbl) {L i : Nat} {caps : List D} {w : World} {f : Pa → Nat → Pl} (hw : allL w = true) (hf : ActOk tbl L i caps w f) (hc : ∀ p k, p.leaf = true → (f p k).cl)
include T hw hf hc
abbrev clW (w : World) (i : Nat) (caps : List D) : World := w ++ [.clo i caps]
theorem c_mpLoop : ∀ (r : Pl) (P : D) (k m : Nat) (acc : List D) (s4 s5 s6 s7 : Sl), r.dep + L ≤ m → r.cls → acc.length + (r.mapA f k).within.length < 16777216 →
    ∃ s4' s5' s6' s7', forGo (gT 2 (gsCons (gN 4) (gsCons (gN 5) gsNil))) (mpBody (Den tbl m)) r.ds [.dat P, .dat (.int k), .wref w.length, .own acc, s4, s5, s6, s7] (clW w i caps) = .ok (.nx [.dat P, .dat (.int k), .wref w.length, .own (acc ++ (r.mapA f k).ds), s4', s5', s6', s7']) (clW w i caps)
  | .nil, P, k, m, acc, s4, s5, s6, s7, hm, hr, hz => ⟨s4, s5, s6, s7, by simp [Pl.ds, Pl.mapA]⟩
  | .cons c p r, P, k, m, acc, s4, s5, s6, s7, hm, hr, hz => by
    simp only [Pl.dep] at hm
    obtain ⟨hr1, hr2, hr3⟩ := hr
    simp only [Pl.mapA, app_within, List.length_append] at hz
    have leaf : p.leaf = true → p.mapA f k c = (f p k).times c → (∃ z, atI p.l 0 = some (.str z) ∧ ¬ z = Str.ofString "letter" ∧ ¬ z = Str.ofString "wait") → ∃ s4' s5' s6' s7', forGo (gT 2 (gsCons (gN 4) (gsCons (gN 5) gsNil))) (mpBody (Den tbl m)) (Pl.cons c p r).ds [.dat P, .dat (.int k), .wref w.length, .own acc, s4, s5, s6, s7] (clW w i caps) = .ok (.nx [.dat P, .dat (.int k), .wref w.length, .own (acc ++ ((Pl.cons c p r).mapA f k).ds), s4', s5', s6', s7']) (clW w i caps) := fun e0 e1 ⟨z, e2, e3, e4⟩ => by
      have hl1 := len_within ((f p k).times c)
      rw [e1] at hz
      obtain ⟨s4', s5', s6', s7', e⟩ := c_mpLoop r P k m (acc ++ ((f p k).times c).ds) (.dat (.int c)) (.dat p.d) s6 s7 (by omega) hr3 (by simp; omega)
      refine ⟨s4', s5', s6', s7', ?_⟩
      have h1 := hf p k m e0 (by omega)
      have h2 := times_go (w := clW w i caps) (a0 := .dat P) (a1 := .dat (.int k)) (a2 := .wref w.length) (a3 := .own acc) (a5 := .dat p.d) hr1 (f p k) (hc p k e0)
      have h3 : acc.length + ((f p k).times c).ds.length ≤ 16777216 := by omega
      have ha : dAct (Den tbl m) 2 (aCons (dName 5) (aCons (dName 1) aNil)) [.dat P, .dat (.int k), .wref w.length, .own acc, .dat (.int c), .dat p.d, s6, s7] (clW w i caps) = .ok (.dat (f p k).d) (clW w i caps) := by
        simp only [List.cons_append, List.nil_append] at h1
        simp [dAct, actK, hw, h1]
      simp only [Pa.d_l] at h2 ha e ⊢
      simp only [Pl.d] at ha
      simp [Pl.ds, for_cons, Pa.d_l, e2, e3, e4, ha, h2, h3, e, Pl.mapA, app_ds, e1]
    have node : ∀ (b : Pl) (q : Pa) (x z : Str) (k' : Nat), b.dep + 1 + L ≤ m → b.cls → p.l = [.str z, .str x, .tup b.ds] → q.d = .tup [.str z, .str x, .tup (b.mapA f k').ds] → p.mapA f k c = .cons c q .nil → (b.mapA f k').within.length < 16777216 → ((z = Str.ofString "letter" ∧ k' = k) ∨ (z = Str.ofString "wait" ∧ k' = k + 1)) →
        (∃ s4' s5' s6' s7', forGo (gT 2 (gsCons (gN 4) (gsCons (gN 5) gsNil))) (mpBody (Den tbl (m - 1))) b.ds [.dat b.d, .dat (.int k'), .wref w.length, .own [], .un, .un, .un, .un] (clW w i caps) = .ok (.nx [.dat b.d, .dat (.int k'), .wref w.length, .own ([] ++ (b.mapA f k').ds), s4', s5', s6', s7']) (clW w i caps)) →
        ∃ s4' s5' s6' s7', forGo (gT 2 (gsCons (gN 4) (gsCons (gN 5) gsNil))) (mpBody (Den tbl m)) (Pl.cons c p r).ds [.dat P, .dat (.int k), .wref w.length, .own acc, s4, s5, s6, s7] (clW w i caps) = .ok (.nx [.dat P, .dat (.int k), .wref w.length, .own (acc ++ ((Pl.cons c p r).mapA f k).ds), s4', s5', s6', s7']) (clW w i caps) := fun b q x z k' hb hbc e0 eq e1 hbz e2 hl => by
      obtain ⟨m', rfl, hm'⟩ := succ_of (k := b.dep) (n := m) (by omega)
      obtain ⟨t4, t5, t6, t7, hl⟩ := hl
      have hcall : (Den tbl (m' + 1)).call 34 [.dat (.tup b.ds), .dat (.int k'), .wref w.length] (clW w i caps) = .ok (.dat (.tup (b.mapA f k').ds)) (clW w i caps) := by
        rw [den_succ T.t34]
        simp only [Nat.add_sub_cancel, List.nil_append, Pl.d] at hl
        simp [runB, initE, toSl, b_mapped, hl]
      rw [e1] at hz
      simp only [Pl.within, List.length_cons] at hz
      obtain ⟨s4', s5', s6', s7', e⟩ := c_mpLoop r P k (m' + 1) (acc ++ [.tup [.int c, q.d]]) (.dat (.int c)) (.dat p.d) s6 s7 (by omega) hr3 (by simp; omega)
      refine ⟨s4', s5', s6', s7', ?_⟩
      have h1 : acc.length < 16777216 := by omega
      simp only [Pa.d_l p, e0, eq] at e ⊢
      rcases e2 with ⟨rfl, rfl⟩ | ⟨rfl, rfl⟩
      · simp [Pl.ds, for_cons, Pa.d_l p, e0, at_0, at_1, at_2, hcall, h1, e, Pl.mapA, app_ds, e1, eq]
      · simp only [Int.natCast_add, Int.cast_ofNat_Int] at hcall
        simp [Pl.ds, for_cons, Pa.d_l p, e0, at_0, at_1, at_2, ne_5, hcall, h1, e, Pl.mapA, app_ds, e1, eq]
    cases p with
    | name x => exact leaf rfl rfl ⟨_, at_0, ne_6, ne_7⟩
    | mark x => exact leaf rfl rfl ⟨_, at_0, ne_8, ne_9⟩
    | got x => exact leaf rfl rfl ⟨_, at_0, ne_10, ne_11⟩
    | letter x b =>
      have hb : (b.mapA f k).within.length < 16777216 := by simp only [Pa.mapA, Pl.within, Pa.within, List.length_cons, List.length_append] at hz; omega
      exact node b (.letter x (b.mapA f k)) x "letter" k (by simp only [Pa.dep] at hm; omega) hr2 rfl rfl rfl hb (.inl ⟨rfl, rfl⟩) (c_mpLoop b b.d k (m - 1) [] .un .un .un .un (by simp only [Pa.dep] at hm; omega) hr2 (by simpa using hb))
    | wait x b =>
      have hb : (b.mapA f (k + 1)).within.length < 16777216 := by simp only [Pa.mapA, Pl.within, Pa.within, List.length_cons, List.length_append] at hz; omega
      exact node b (.wait x (b.mapA f (k + 1))) x "wait" (k + 1) (by simp only [Pa.dep] at hm; omega) hr2 rfl rfl rfl hb (.inr ⟨rfl, rfl⟩) (c_mpLoop b b.d (k + 1) (m - 1) [] .un .un .un .un (by simp only [Pa.dep] at hm; omega) hr2 (by simpa using hb))
theorem c_mapped (p : Pl) (k n : Nat) (hn : p.dep + L + 1 ≤ n) (hp : p.cls) (hz : (p.mapA f k).within.length < 16777216) :
    (Den tbl n).call 34 [.dat p.d, .dat (.int k), .wref w.length] (clW w i caps) = .ok (.dat (p.mapA f k).d) (clW w i caps) := by
  obtain ⟨m, rfl, hm⟩ := succ_of (k := p.dep + L) hn
  rw [den_succ T.t34]
  obtain ⟨t4, t5, t6, t7, hl⟩ := c_mpLoop T hw hf hc p p.d k m [] .un .un .un .un hm hp (by simpa using hz)
  simp only [List.nil_append, Pl.d] at hl
  simp [runB, initE, toSl, b_mapped, hl]
end
end Dl
/-! Pl5: facts of plans; the law's drawn plans (40, 39, 38, 41). -/
namespace Dl
open PySem PySem.Spec PyProof.Rows L2 NdefX
theorem limN_big : 2 ^ 64 < limN := by
  unfold limN
  exact Nat.pow_lt_pow_right (by decide) (by decide)
theorem psize_pos (p : Pa) : 1 ≤ p.size := by cases p <;> simp [Pa.size]
mutual
theorem Pa.dep_size : ∀ (p : Pa) (k : Nat), p.ok k = true → p.dep ≤ p.size
  | .name x, k, h => by simp [Pa.dep, Pa.size]
  | .mark x, k, h => by simp [Pa.dep, Pa.size]
  | .got x, k, h => by simp [Pa.dep, Pa.size]
  | .letter x b, k, h => by
    simp only [Pa.ok, Bool.and_eq_true] at h
    have := Pl.dep_size b k h.2
    simp only [Pa.dep, Pa.size]; omega
  | .wait x b, k, h => by
    simp only [Pa.ok, Bool.and_eq_true] at h
    have := Pl.dep_size b (k + 1) h.2
    simp only [Pa.dep, Pa.size]; omega
theorem Pl.dep_size : ∀ (p : Pl) (k : Nat), p.ok k = true → p.dep ≤ p.size
  | .nil, k, h => by simp [Pl.dep]
  | .cons c p r, k, h => by
    simp only [Pl.ok, Bool.and_eq_true, decide_eq_true_eq] at h
    have h1 := Pa.dep_size p k h.1.2
    have h2 := Pl.dep_size r k h.2
    have h3 : 1 * p.size ≤ c * p.size := Nat.mul_le_mul_right _ h.1.1
    simp only [Pl.dep, Pl.size]; omega
end
mutual
theorem Pa.within_size : ∀ (p : Pa) (k : Nat), p.ok k = true → p.within.length + 1 ≤ p.size
  | .name x, k, h => by simp [Pa.within, Pa.size]
  | .mark x, k, h => by simp [Pa.within, Pa.size]
  | .got x, k, h => by simp [Pa.within, Pa.size]
  | .letter x b, k, h => by
    simp only [Pa.ok, Bool.and_eq_true] at h
    have := Pl.within_size b k h.2
    simp only [Pa.within, Pa.size]; omega
  | .wait x b, k, h => by
    simp only [Pa.ok, Bool.and_eq_true] at h
    have := Pl.within_size b (k + 1) h.2
    simp only [Pa.within, Pa.size]; omega
theorem Pl.within_size : ∀ (p : Pl) (k : Nat), p.ok k = true → p.within.length ≤ p.size
  | .nil, k, h => by simp [Pl.within]
  | .cons c p r, k, h => by
    simp only [Pl.ok, Bool.and_eq_true, decide_eq_true_eq] at h
    have h1 := Pa.within_size p k h.1.2
    have h2 := Pl.within_size r k h.2
    have h3 : 1 * p.size ≤ c * p.size := Nat.mul_le_mul_right _ h.1.1
    simp only [Pl.within, Pl.size, List.length_cons, List.length_append]; omega
end
mutual
theorem Pa.lim_size : ∀ (p : Pa) (k : Nat), p.ok k = true → p.size < limN → p.lim ∧ p.cls
  | .name x, k, h, hs => ⟨trivial, trivial⟩
  | .mark x, k, h, hs => ⟨trivial, trivial⟩
  | .got x, k, h, hs => ⟨trivial, trivial⟩
  | .letter x b, k, h, hs => by
    simp only [Pa.ok, Bool.and_eq_true] at h
    simp only [Pa.size] at hs
    exact Pl.lim_size b k h.2 (by omega)
  | .wait x b, k, h, hs => by
    simp only [Pa.ok, Bool.and_eq_true] at h
    simp only [Pa.size] at hs
    exact Pl.lim_size b (k + 1) h.2 (by omega)
theorem Pl.lim_size : ∀ (p : Pl) (k : Nat), p.ok k = true → p.size < limN → p.lim ∧ p.cls
  | .nil, k, h, hs => ⟨trivial, trivial⟩
  | .cons c p r, k, h, hs => by
    simp only [Pl.ok, Bool.and_eq_true, decide_eq_true_eq] at h
    simp only [Pl.size] at hs
    have h3 : 1 * p.size ≤ c * p.size := Nat.mul_le_mul_right _ h.1.1
    have h4 : c * 1 ≤ c * p.size := Nat.mul_le_mul_left _ (psize_pos p)
    have h1 := Pa.lim_size p k h.1.2 (by omega)
    have h2 := Pl.lim_size r k h.2 (by omega)
    exact ⟨⟨by omega, by omega, h1.1, h2.1⟩, ⟨by omega, h1.2, h2.2⟩⟩
end
theorem app_ok {k : Nat} : ∀ p q : Pl, (p.app q).ok k = (p.ok k && q.ok k)
  | .nil, q => by simp [Pl.app, Pl.ok]
  | .cons c p r, q => by simp [Pl.app, Pl.ok, app_ok r q, Bool.and_assoc]
theorem app_size : ∀ p q : Pl, (p.app q).size = p.size + q.size
  | .nil, q => by simp [Pl.app, Pl.size]
  | .cons c p r, q => by simp [Pl.app, Pl.size, app_size r q]; omega
/-! ### the law's sizes -/
structure HasLS (tbl : Nat → Option DefB) : Prop where
  t38 : tbl 38 = some ⟨1, 1, b__law_part_size⟩
  t41 : tbl 41 = some ⟨1, 3, b__law_size⟩
section
variable {tbl : Nat → Option DefB} (T : HasLS tbl)
include T
mutual
theorem c_lpsize : ∀ (p : Pa) (n : Nat) (w : World), 2 * p.dep + 1 ≤ n → p.lim → (Den tbl n).call 38 [.dat p.d] w = .ok (.dat (.int p.size)) w
  | .name x, n, w, hn, hl => by
    obtain ⟨m, rfl, hm⟩ := succ_of (k := 0) (n := n) (by simp only [Pa.dep] at hn; omega)
    rw [den_succ T.t38]
    simp [runB, initE, toSl, b__law_part_size, Pa.d, Pa.size]
  | .mark j, n, w, hn, hl => by
    obtain ⟨m, rfl, hm⟩ := succ_of (k := 0) (n := n) (by simp only [Pa.dep] at hn; omega)
    rw [den_succ T.t38]
    simp [runB, initE, toSl, b__law_part_size, Pa.d, Pa.size]
  | .got j, n, w, hn, hl => by
    obtain ⟨m, rfl, hm⟩ := succ_of (k := 0) (n := n) (by simp only [Pa.dep] at hn; omega)
    rw [den_succ T.t38]
    simp [runB, initE, toSl, b__law_part_size, Pa.d, Pa.size]
  | .letter x b, n, w, hn, hl => by
    simp only [Pa.dep] at hn
    obtain ⟨m, rfl, hm⟩ := succ_of (k := 1) (n := n) (by omega)
    obtain ⟨m', rfl, hm'⟩ := succ_of (k := 0) (n := m) (by omega)
    rw [den_succ T.t38]
    have hb : (Den tbl (m' + 1)).call 41 [.dat (.tup b.ds)] w = .ok (.dat (.int b.size)) w := by
      rw [den_succ T.t41]
      have g := c_lszLoop b (.tup b.ds) m' w (by omega) hl
      have hs := sum_szs b
      simp [runB, initE, toSl, b__law_size, g, -cSum_l, hs]
    simp [runB, initE, toSl, b__law_part_size, Pa.d, Pa.size, at_2, hb]
    omega
  | .wait x b, n, w, hn, hl => by
    simp only [Pa.dep] at hn
    obtain ⟨m, rfl, hm⟩ := succ_of (k := 1) (n := n) (by omega)
    obtain ⟨m', rfl, hm'⟩ := succ_of (k := 0) (n := m) (by omega)
    rw [den_succ T.t38]
    have hb : (Den tbl (m' + 1)).call 41 [.dat (.tup b.ds)] w = .ok (.dat (.int b.size)) w := by
      rw [den_succ T.t41]
      have g := c_lszLoop b (.tup b.ds) m' w (by omega) hl
      have hs := sum_szs b
      simp [runB, initE, toSl, b__law_size, g, -cSum_l, hs]
    simp [runB, initE, toSl, b__law_part_size, Pa.d, Pa.size, at_2, hb]
    omega
theorem c_lszLoop : ∀ (r : Pl) (P : D) (m : Nat) (w : World), 2 * r.dep + 1 ≤ m → r.lim →
    compGo (gT 2 (gsCons (gN 1) (gsCons (gN 2) gsNil))) tYes' (dBin gMul (dName 1) (dCall (Den tbl m) 38 (aCons (dName 2) aNil))) [.dat P, .un, .un] r.ds w = .ok (r.szs.map .int) w
  | .nil, P, m, w, hm, hl => rfl
  | .cons c p r, P, m, w, hm, hl => by
    simp only [Pl.dep] at hm
    obtain ⟨l1, l2, l3, l4⟩ := hl
    have h1 := c_lpsize p m w (by omega) l3
    have h2 := c_lszLoop r P m w (by omega) l4
    have mo : mulOk (c : Int) (p.size : Int) = true := mulOk_nat l1 l2
    simp [Pl.ds, go_cons, h1, mo, h2, Pl.szs]
end
end
/-! ### drawn plans -/
structure HasPk (tbl : Nat → Option DefB) : Prop where
  t11 : tbl 11 = some ⟨2, 5, b__law_pick⟩
structure HasLP (tbl : Nat → Option DefB) : Prop extends HasLS tbl, HasPk tbl where
  t39 : tbl 39 = some ⟨5, 7, b__law_part⟩
  t40 : tbl 40 = some ⟨5, 9, b__law_plan⟩
theorem c_pick {tbl : Nat → Option DefB} (T : HasPk tbl) {n : Nat} (hn : 1 ≤ n) {rest w : World} {m : Int} (h : TapeOk rest w) (hm : 0 < m) (hb : m < 1073741824) :
    ∃ r : Nat, ∃ w', (Den tbl n).call 11 [.wref 0, .dat (.int m)] w = .ok (.dat (.int r)) w' ∧ TapeOk rest w' ∧ (r : Int) < m := by
  obtain ⟨k, rfl, _⟩ := succ_of (k := 0) hn
  rw [den_succ T.t11]
  obtain ⟨r, w', e, t, h0, h1⟩ := pick_run (C := Den tbl k) h hm hb
  obtain ⟨r', rfl⟩ : ∃ r' : Nat, r = r' := ⟨r.toNat, by omega⟩
  exact ⟨r', w', e, t, h1⟩
theorem cnt5 {r : Nat} (h : (r : Int) < 5) : ∃ c : Nat, atI [D.int 1, .int 1, .int 1, .int 2, .int 3] (r : Int) = some (.int c) ∧ 1 ≤ c ∧ c ≤ 3 := by
  have : r = 0 ∨ r = 1 ∨ r = 2 ∨ r = 3 ∨ r = 4 := by omega
  rcases this with rfl | rfl | rfl | rfl | rfl
  · exact ⟨1, rfl, by decide, by decide⟩
  · exact ⟨1, rfl, by decide, by decide⟩
  · exact ⟨1, rfl, by decide, by decide⟩
  · exact ⟨2, rfl, by decide, by decide⟩
  · exact ⟨3, rfl, by decide, by decide⟩
/-- the signs of a text -/
def signs (z : Str) : List Str := z.cps.toList.map fun c => ⟨#[c]⟩
theorem signs_len (z : Str) : (signs z).length = z.length := by simp [signs, Str.length]
theorem ix_sign {z : Str} {i : Nat} (h : i < z.length) : ∃ x, gIx (.str z) (.int i) = some (.dat (.str x)) ∧ x ∈ signs z := by
  have h' : i < z.cps.toList.length := by simpa [Str.length] using h
  refine ⟨⟨#[z.cps.toList[i]]⟩, ?_, List.mem_map.mpr ⟨_, List.getElem_mem h', rfl⟩⟩
  show (atI z.cps.toList (i : Int)).map _ = _
  rw [atI_get h']
  rfl
/-- the signs of a text are doors -/
def DoorsOf (z : Str) : Prop := 1 ≤ z.length ∧ z.length < 1000 ∧ ∀ x ∈ signs z, doorB x = true
mutual
/-- doors, names of these; no marks -/
def Pa.dr (ds ws : List Str) : Pa → Bool
  | .name x => decide (x ∈ ws)
  | .mark _ => false
  | .got _ => true
  | .letter x b => decide (x ∈ ds) && b.dr ds ws
  | .wait x b => decide (x ∈ ds) && b.dr ds ws
def Pl.dr (ds ws : List Str) : Pl → Bool
  | .nil => true
  | .cons _ p r => p.dr ds ws && r.dr ds ws
end
def WordsOf (ws : List Str) : Prop := ws.length < 1000 ∧ ∀ x ∈ ws, wordB x = true
/-- what a drawn part, a drawn plan is -/
def GotPa (tbl : Nat → Option DefB) (z : Str) (ws : List Str) (n l : Nat) : Prop := ∀ (k : Nat) (rest w : World), k + l < 1000 → TapeOk rest w → ∃ p : Pa, ∃ w', (Den tbl n).call 39 [.wref 0, .dat (.int l), .dat (.int k), .dat (.str z), .dat (.lst (ws.map .str))] w = .ok (.dat p.d) w' ∧ TapeOk rest w' ∧ p.ok k = true ∧ p.size ≤ l ∧ p.dr (signs z) ws = true
def GotPl (tbl : Nat → Option DefB) (z : Str) (ws : List Str) (n l : Nat) : Prop := ∀ (k : Nat) (rest w : World), k + l < 1000 → TapeOk rest w → ∃ p : Pl, ∃ w', (Den tbl n).call 40 [.wref 0, .dat (.int l), .dat (.int k), .dat (.str z), .dat (.lst (ws.map .str))] w = .ok (.dat p.d) w' ∧ TapeOk rest w' ∧ p.ok k = true ∧ p.size ≤ l ∧ p.dr (signs z) ws = true
abbrev lpBody (C : Cs) : Sd := (sSeq (sIf (tOr' (dTst (dBin (gLt C.room) (dName 1) (dC (.int 1)))) (dTst (dBin (gEq C.room) (dCall C 11 (aCons (dName 0) (aCons (dC (.int 5)) aNil))) (dC (.int 0))))) sBreak sNil)
  (sSeq (sSet 7 (dBin gIx (dLst (aCons (dC (.int 1)) (aCons (dC (.int 1)) (aCons (dC (.int 1)) (aCons (dC (.int 2)) (aCons (dC (.int 3)) aNil)))))) (dCall C 11 (aCons (dName 0) (aCons (dC (.int 5)) aNil)))))
  (sSeq (sIf (dTst (dBin (gGt C.room) (dName 7) (dName 1))) (sSet 7 (dC (.int 1))) sNil)
  (sSeq (sSet 8 (dCall C 39 (aCons (dName 0) (aCons (dBin gFdiv (dName 1) (dName 7)) (aCons (dName 2) (aCons (dName 3) (aCons (dName 4) aNil)))))))
  (sSeq (sAppend 5 (dTup (aCons (dName 7) (aCons (dName 8) aNil))))
  (sSet 1 (dBin gSub (dName 1) (dBin gMul (dName 7) (dCall C 38 (aCons (dName 8) aNil))))))))))
section
variable {tbl : Nat → Option DefB} (T : HasLP tbl) {z : Str} {ws : List Str}
include T
theorem lp_loop {m : Nat} {l0 : Nat} (hl0 : l0 < 1000) (hm : 2 * l0 + 1 ≤ m) (hp : ∀ l, 1 ≤ l → l ≤ l0 → GotPa tbl z ws m l) {k : Nat} (hk : k + l0 < 1000) : ∀ (ts : List D) (l : Nat) (acc : List D) (rest w : World) (s6 s7 s8 : Sl), l ≤ l0 → acc.length + ts.length < 1000 → TapeOk rest w →
    ∃ q : Pl, ∃ s1 s6' s7' s8' w', forGo (gN 6) (lpBody (Den tbl m)) ts [.wref 0, .dat (.int l), .dat (.int k), .dat (.str z), .dat (.lst (ws.map .str)), .own acc, s6, s7, s8] w = .ok (.nx [.wref 0, s1, .dat (.int k), .dat (.str z), .dat (.lst (ws.map .str)), .own (acc ++ q.ds), s6', s7', s8']) w' ∧ TapeOk rest w' ∧ q.ok k = true ∧ q.size ≤ l ∧ q.dr (signs z) ws = true
  | [], l, acc, rest, w, s6, s7, s8, hl, hz, ht => ⟨.nil, .dat (.int l), s6, s7, s8, w, by simp [Pl.ds], ht, by simp [Pl.ok], by simp [Pl.size], by simp [Pl.dr]⟩
  | t :: ts, l, acc, rest, w, s6, s7, s8, hl, hz, ht => by
    simp only [List.length_cons] at hz
    by_cases h1 : l < 1
    · have h1' : (l : Int) < 1 := by omega
      exact ⟨.nil, .dat (.int l), .dat t, s7, s8, w, by simp [for_cons, h1', Pl.ds], ht, by simp [Pl.ok], by simp [Pl.size], by simp [Pl.dr]⟩
    · have h1' : ¬ (l : Int) < 1 := by omega
      obtain ⟨r, w1, e1, t1, r1⟩ := c_pick T.toHasPk (n := m) (by omega) ht (m := 5) (by decide) (by decide)
      by_cases h0 : r = 0
      · subst h0
        exact ⟨.nil, .dat (.int l), .dat t, s7, s8, w1, by simp [for_cons, h1', Pl.ds, e1], t1, by simp [Pl.ok], by simp [Pl.size], by simp [Pl.dr]⟩
      · obtain ⟨r2, w2, e2, t2, r2h⟩ := c_pick T.toHasPk (n := m) (by omega) t1 (m := 5) (by decide) (by decide)
        obtain ⟨c, ec, c1, c3⟩ := cnt5 r2h
        -- the count that is taken
        obtain ⟨c', hc', c1', c3', cl'⟩ : ∃ c' : Nat, (if (l : Int) < c then (1 : Int) else c) = c' ∧ 1 ≤ c' ∧ c' ≤ 3 ∧ c' ≤ l := by
          by_cases h : (l : Int) < c
          · exact ⟨1, by rw [if_pos h]; rfl, by omega, by omega, by omega⟩
          · exact ⟨c, by rw [if_neg h], c1, c3, by omega⟩
        obtain ⟨lq, hlq⟩ : ∃ lq : Nat, lq = l / c' := ⟨_, rfl⟩
        have hq : 1 ≤ lq := by
          rw [hlq, Nat.le_div_iff_mul_le (by omega)]
          omega
        have hql : lq ≤ l := by rw [hlq]; exact Nat.div_le_self _ _
        obtain ⟨p, w3, e3, t3, p1, p2, p3⟩ := hp lq hq (Nat.le_trans hql hl) k rest w2 (by omega) t2
        have hmul : c' * p.size ≤ l := by
          have := Nat.mul_le_mul_left c' p2
          have := Nat.mul_div_le l c'
          rw [← hlq] at this
          omega
        have big := limN_big
        have e64 : 2 ^ 64 = 18446744073709551616 := by decide
        have hps : p.size < limN := by omega
        have hlim := (Pa.lim_size p k p1 hps).1
        have hdep := Pa.dep_size p k p1
        have e4 := c_lpsize T.toHasLS p m w3 (by omega) hlim
        have mo : mulOk (c' : Int) (p.size : Int) = true := mulOk_nat (by omega) hps
        obtain ⟨l2, hl2⟩ : ∃ l2 : Nat, l2 = l - c' * p.size := ⟨_, rfl⟩
        have hsub : (l : Int) - (c' : Int) * (p.size : Int) = (l2 : Int) := by
          rw [hl2, Int.ofNat_sub hmul]
          push_cast
          rfl
        have hdiv : (l : Int) / (c' : Int) = (lq : Int) := by rw [hlq]; norm_cast
        obtain ⟨q, s1, s6', s7', s8', w4, e5, t5, q1, q2, q3⟩ := lp_loop hl0 hm hp hk ts l2 (acc ++ [.tup [.int c', p.d]]) rest w3 (.dat t) (.dat (.int c')) (.dat p.d) (by omega) (by simp; omega) t3
        have hz1 : acc.length < 16777216 := by omega
        have hc1 : (0 : Int) < c' := by omega
        have hc2 : (c' : Int) < 1073741824 := by omega
        refine ⟨.cons c' p q, s1, s6', s7', s8', w4, ?_, t5, by simp [Pl.ok, c1', p1, q1], by simp only [Pl.size]; omega, by simp [Pl.dr, p3, q3]⟩
        have h0' : ¬ (r : Int) = 0 := by omega
        simp only [List.append_assoc, List.cons_append, List.nil_append] at e5
        by_cases h : (l : Int) < c
        · rw [if_pos h] at hc'
          have e1' : c' = 1 := by omega
          subst e1'
          have hdiv1 : (l : Int) / 1 = (lq : Int) := hdiv
          have mo1 : mulOk 1 (p.size : Int) = true := mo
          have hsub1 : (l : Int) - (p.size : Int) = (l2 : Int) := by rw [← hsub]; simp
          simp only [Int.cast_ofNat_Int] at e5
          simp [for_cons, h1', e1, h0, e2, ec, h, hdiv1, e3, hz1, e4, mo1, hsub1]
          simp only [Int.ediv_one] at hdiv1
          simp [hdiv1, e3, hz1, e4, mo1, hsub1, e5, Pl.ds]
        · rw [if_neg h] at hc'
          have e1' : c = c' := by omega
          subst e1'
          simp only [for_cons, gN_ap]
          have hc1n : 0 < c := by omega
          simp [h1', e1, h0, e2, ec, h, hc1, hc2, hc1n, hdiv, e3, hz1, e4, mo, hsub, e5, Pl.ds]
theorem plan_of {m l : Nat} (hl : l < 1000) (hm : 2 * l + 1 ≤ m) (hp : ∀ l', 1 ≤ l' → l' ≤ l → GotPa tbl z ws m l') : GotPl tbl z ws (m + 1) l := by
  intro k rest w hk ht
  rw [den_succ T.t40]
  obtain ⟨q, s1, s6, s7, s8, w', e, t, q1, q2, q3⟩ := lp_loop T hl hm hp hk (rngD 0 6) l [] rest w .un .un .un (Nat.le_refl _) (by decide) ht
  refine ⟨q, w', ?_, t, q1, q2, q3⟩
  simp only [List.nil_append] at e
  simp [runB, initE, toSl, b__law_plan, e]
omit T in
theorem at3_k {k r : Nat} {v : Int} (h : (r : Int) < 3) : ∃ j : Int, atI [D.int 0, .int 0, .int v] (r : Int) = some (.int j) ∧ (j = 0 ∨ j = v) := by
  have : r = 0 ∨ r = 1 ∨ r = 2 := by omega
  rcases this with rfl | rfl | rfl
  · exact ⟨0, rfl, .inl rfl⟩
  · exact ⟨0, rfl, .inl rfl⟩
  · exact ⟨v, rfl, .inr rfl⟩
abbrev ptA (C : Cs) : Sd := (sSet 5 (dCall C 11 (aCons (dName 0) (aCons (dC (.int 6)) aNil))))
abbrev ptB (C : Cs) : Sd := (sIf (tAnd' (dTst (dBin (gLt C.room) (dName 1) (dC (.int 2)))) (dTst (dBin (gGt C.room) (dName 5) (dC (.int 3))))) (sSet 5 (dCall C 11 (aCons (dName 0) (aCons (dC (.int 4)) aNil)))) sNil)
abbrev ptR (C : Cs) : Sd := (sSeq (sSet 6 (dBin gIx (dName 3) (dCall C 11 (aCons (dName 0) (aCons (dBlt cLen (rCons (dName 3) rNil)) aNil)))))
  (sSeq (sIf (tAnd' (dTst (dBin (gEq C.room) (dName 5) (dC (.int 0)))) (dTst (dBin (gGt C.room) (dBlt cLen (rCons (dName 4) rNil)) (dC (.int 0))))) (sRet (dTup (aCons (dC (.str "name")) (aCons (dBin gIx (dName 4) (dCall C 11 (aCons (dName 0) (aCons (dBlt cLen (rCons (dName 4) rNil)) aNil)))) aNil)))) sNil)
  (sSeq (sIf (tAnd' (dTst (dBin (gLt C.room) (dName 5) (dC (.int 2)))) (dTst (dBin (gGt C.room) (dName 2) (dC (.int 0))))) (sRet (dTup (aCons (dC (.str "got")) (aCons (dBin gIx (dLst (aCons (dC (.int 0)) (aCons (dC (.int 0)) (aCons (dCall C 11 (aCons (dName 0) (aCons (dName 2) aNil))) aNil)))) (dCall C 11 (aCons (dName 0) (aCons (dC (.int 3)) aNil)))) aNil)))) sNil)
  (sSeq (sIf (tOr' (dTst (dBin (gEq C.room) (dName 5) (dC (.int 2)))) (dTst (dBin (gEq C.room) (dName 5) (dC (.int 4))))) (sRet (dTup (aCons (dC (.str "letter")) (aCons (dName 6) (aCons (dCall C 40 (aCons (dName 0) (aCons (dBin gSub (dName 1) (dC (.int 1))) (aCons (dName 2) (aCons (dName 3) (aCons (dName 4) aNil)))))) aNil))))) sNil)
  (sRet (dTup (aCons (dC (.str "wait")) (aCons (dName 6) (aCons (dCall C 40 (aCons (dName 0) (aCons (dBin gSub (dName 1) (dC (.int 1))) (aCons (dBin gAdd (dName 2) (dC (.int 1))) (aCons (dName 3) (aCons (dName 4) aNil)))))) aNil)))))))))
theorem part_of {m l : Nat} (hl : l < 1000) (hd : DoorsOf z) (hw : WordsOf ws) (hl1 : 1 ≤ l) (hm : 1 ≤ m) (hp : GotPl tbl z ws m (l - 1)) : GotPa tbl z ws (m + 1) l := by
  intro k rest w hk ht
  rw [den_succ T.t39]
  have rest_ok : ∀ (kd : Nat) (w2 : World), TapeOk rest w2 → ∃ p : Pa, ∃ w', ptR (Den tbl m) [.wref 0, .dat (.int l), .dat (.int k), .dat (.str z), .dat (.lst (ws.map .str)), .dat (.int kd), .un] w2 = .ok (.rt (.dat p.d)) w' ∧ TapeOk rest w' ∧ p.ok k = true ∧ p.size ≤ l ∧ p.dr (signs z) ws = true := by
    intro kd w2 t2
    obtain ⟨d, w3, e3, t3, dh⟩ := c_pick T.toHasPk (n := m) hm t2 (m := z.length) (by have := hd.1; omega) (by have := hd.2.1; omega)
    obtain ⟨x, ex, hxm⟩ := ix_sign (z := z) (i := d) (by omega)
    have hx := hd.2.2 x hxm
    have e3' : withEnv [Sl.wref 0, .dat (.int l), .dat (.int k), .dat (.str z), .dat (.lst (ws.map .str)), .dat (.int kd), .un] ((Den tbl m).call 11 [.wref 0, .dat (.int z.length)] w2) = .ok (.dat (.int d)) w3 := by rw [e3]; rfl
    by_cases c1 : kd = 0 ∧ 0 < ws.length
    · obtain ⟨rfl, c1⟩ := c1
      obtain ⟨r, w4, e4, t4, rh⟩ := c_pick T.toHasPk (n := m) hm t3 (m := ws.length) (by omega) (by have := hw.1; omega)
      have hr : r < ws.length := by omega
      have ew : atI (ws.map D.str) (r : Int) = some (.str ws[r]) := by rw [atI_get (by simpa using hr)]; simp
      refine ⟨.name ws[r], w4, ?_, t4, by simp [Pa.ok, hw.2 _ (List.getElem_mem hr)], by simp [Pa.size, hl1], by simp [Pa.dr]⟩
      simp [e3, ex, c1, e4, ew, Pa.d]
    · by_cases c2 : kd < 2 ∧ 0 < k
      · obtain ⟨c2, c3⟩ := c2
        obtain ⟨v, w4, e4, t4, vh⟩ := c_pick T.toHasPk (n := m) hm t3 (m := k) (by omega) (by omega)
        obtain ⟨r, w5, e5, t5, rh⟩ := c_pick T.toHasPk (n := m) hm t4 (m := 3) (by decide) (by decide)
        obtain ⟨j, ej, hj⟩ := at3_k (k := k) (v := v) rh
        obtain ⟨j', rfl, hj'⟩ : ∃ j' : Nat, j = j' ∧ j' < k := by rcases hj with rfl | rfl; exact ⟨0, rfl, c3⟩; exact ⟨v, rfl, by omega⟩
        refine ⟨.got j', w5, ?_, t5, by simp [Pa.ok, hj'], by simp [Pa.size, hl1], by simp [Pa.dr]⟩
        have c2' : (kd : Int) < 2 := by omega
        by_cases c0 : kd = 0
        · have c4 : ¬ 0 < ws.length := fun h => c1 ⟨c0, h⟩
          simp [e3, ex, c0, c4, c2', c3, e4, e5, ej, Pa.d]
        · simp [e3, ex, c0, c2', c3, e4, e5, ej, Pa.d]
      · have n1 : ∀ {β : Type} (a b : β), (if kd = 0 then (if 0 < ws.length then a else b) else b) = b := fun a b => by
          by_cases h : kd = 0
          · rw [if_pos h, if_neg (fun h2 => c1 ⟨h, h2⟩)]
          · rw [if_neg h]
        have n2 : ∀ {β : Type} (a b : β), (if kd < 2 then (if 0 < k then a else b) else b) = b := fun a b => by
          by_cases h : kd < 2
          · rw [if_pos h, if_neg (fun h2 => c2 ⟨h, h2⟩)]
          · rw [if_neg h]
        have el : ((l : Int) - 1) = ((l - 1 : Nat) : Int) := by omega
        by_cases c3 : kd = 2 ∨ kd = 4
        · obtain ⟨b, w4, e4, t4, b1, b2, b3⟩ := hp k rest w3 (by omega) t3
          refine ⟨.letter x b, w4, ?_, t4, by simp [Pa.ok, hx, b1], by simp only [Pa.size]; omega, by simp [Pa.dr, hxm, b3]⟩
          rw [← el] at e4
          rcases c3 with rfl | rfl <;> simp [e3, ex, e4, Pa.d]
        · obtain ⟨b, w4, e4, t4, b1, b2, b3⟩ := hp (k + 1) rest w3 (by omega) t3
          refine ⟨.wait x b, w4, ?_, t4, by simp [Pa.ok, hx, b1], by simp only [Pa.size]; omega, by simp [Pa.dr, hxm, b3]⟩
          rw [← el] at e4
          simp only [Int.natCast_add, Int.cast_ofNat_Int] at e4
          have c3a : ¬ kd = 2 := fun h => c3 (.inl h)
          have c3b : ¬ kd = 4 := fun h => c3 (.inr h)
          have c3c : ¬ (kd : Int) = 2 := by omega
          have c3d : ¬ (kd : Int) = 4 := by omega
          by_cases c0 : kd = 0
          · have c4 : ws = [] := by
              cases ws with
              | nil => rfl
              | cons a b => exact absurd ⟨c0, by simp⟩ c1
            have c5 : k = 0 := by
              cases k with
              | zero => rfl
              | succ k => exact absurd ⟨by omega, by omega⟩ c2
            subst c0 c5 c4
            simp at e4
            simp [e3, ex, e4, Pa.d]
          · by_cases c6 : kd < 2
            · have c5 : k = 0 := by
                cases k with
                | zero => rfl
                | succ k => exact absurd ⟨c6, by omega⟩ c2
              subst c5
              simp at e4
              simp [e3, ex, c0, e4, Pa.d, c3a, c3b, c3c, c3d]
            · have c6' : ¬ (kd : Int) < 2 := by omega
              simp [e3, ex, c0, c6', e4, Pa.d, c3a, c3b, c3c, c3d]
  obtain ⟨r, w1, e1, t1, r1⟩ := c_pick T.toHasPk (n := m) hm ht (m := 6) (by decide) (by decide)
  have hA : ptA (Den tbl m) [.wref 0, .dat (.int l), .dat (.int k), .dat (.str z), .dat (.lst (ws.map .str)), .un, .un] w = .ok (.nx [.wref 0, .dat (.int l), .dat (.int k), .dat (.str z), .dat (.lst (ws.map .str)), .dat (.int r), .un]) w1 := by simp [e1]
  obtain ⟨kd, w2, t2, hB⟩ : ∃ kd : Nat, ∃ w2, TapeOk rest w2 ∧ ptB (Den tbl m) [.wref 0, .dat (.int l), .dat (.int k), .dat (.str z), .dat (.lst (ws.map .str)), .dat (.int r), .un] w1 = .ok (.nx [.wref 0, .dat (.int l), .dat (.int k), .dat (.str z), .dat (.lst (ws.map .str)), .dat (.int kd), .un]) w2 := by
    by_cases h : (l : Int) < 2
    · by_cases h' : (3 : Int) < r
      · obtain ⟨r2, w2, e2, t2, r2h⟩ := c_pick T.toHasPk (n := m) hm t1 (m := 4) (by decide) (by decide)
        exact ⟨r2, w2, t2, by simp [h, h', e2]⟩
      · exact ⟨r, w1, t1, by simp [h, h']⟩
    · exact ⟨r, w1, t1, by simp [h]⟩
  obtain ⟨p, w', e, t, p1, p2, p3⟩ := rest_ok kd w2 t2
  refine ⟨p, w', ?_, t, p1, p2, p3⟩
  show endR (((ptA (Den tbl m)) [.wref 0, .dat (.int l), .dat (.int k), .dat (.str z), .dat (.lst (ws.map .str)), .un, .un] w).bind (seqK (sSeq (ptB (Den tbl m)) (ptR (Den tbl m))))) = _
  rw [hA]
  show endR (((ptB (Den tbl m)) _ w1).bind (seqK (ptR (Den tbl m)))) = _
  rw [hB]
  show endR (ptR (Den tbl m) _ w2) = _
  rw [e]
  rfl
theorem c_lplan (hd : DoorsOf z) (hw : WordsOf ws) : ∀ (l n : Nat), l < 1000 → 2 * l + 2 ≤ n → GotPl tbl z ws n l := by
  have key : ∀ (l n : Nat), l < 1000 → 2 * l + 1 ≤ n → GotPl tbl z ws (n + 1) l ∧ (1 ≤ l → GotPa tbl z ws n l) := by
    intro l
    induction l using Nat.strongRecOn with
    | _ l ih =>
      intro n hl hn
      have part : ∀ l', 1 ≤ l' → l' ≤ l → GotPa tbl z ws n l' := fun l' h1 h2 => by
        obtain ⟨m, rfl, hm⟩ := succ_of (k := 2 * l') (n := n) (by omega)
        obtain ⟨m', rfl, hm'⟩ := succ_of (k := 2 * l' - 1) (n := m) (by omega)
        exact part_of T (by omega) hd hw h1 (by omega) (ih (l' - 1) (by omega) m' (by omega) (by omega)).1
      exact ⟨plan_of T hl (by omega) part, fun h => part l h (Nat.le_refl _)⟩
  intro l n hl hn
  obtain ⟨m, rfl, hm⟩ := succ_of (k := 2 * l + 1) (n := n) (by omega)
  exact (key l m hl hm).1
end
end Dl
/-! Pl6: names; letters and waits; caught and freed. -/
namespace Dl
open PySem PySem.Spec PyProof.Rows L2 NdefX
/-! ### names -/
def Pa.nm : Pa → Option Str
  | .name x => some x
  | _ => none
def Pl.nms (p : Pl) : List Str := p.within.filterMap Pa.nm
def dedup (l : List Str) : List Str := l.foldl keysAdd []
theorem foldl_keys_mem {z : Str} : ∀ (l acc : List Str), z ∈ l.foldl keysAdd acc ↔ z ∈ acc ∨ z ∈ l
  | [], acc => by simp
  | x :: l, acc => by
    rw [List.foldl_cons, foldl_keys_mem l]
    unfold keysAdd
    by_cases h : x ∈ acc
    · rw [if_pos h, List.mem_cons]
      constructor
      · rintro (h1 | h1)
        · exact .inl h1
        · exact .inr (.inr h1)
      · rintro (h1 | rfl | h1)
        · exact .inl h1
        · exact .inl h
        · exact .inr h1
    · rw [if_neg h, List.mem_append, List.mem_singleton, List.mem_cons, or_assoc]
theorem foldl_keys_len : ∀ (l acc : List Str), (l.foldl keysAdd acc).length ≤ acc.length + l.length
  | [], acc => by simp
  | x :: l, acc => by
    rw [List.foldl_cons]
    have := foldl_keys_len l (keysAdd acc x)
    have h2 : (keysAdd acc x).length ≤ acc.length + 1 := keysAdd_len
    simp only [List.length_cons]
    omega
theorem dedup_len (l : List Str) : (dedup l).length ≤ l.length := by
  have := foldl_keys_len l []
  simpa [dedup] using this
theorem foldl_filter {q : Str → Bool} : ∀ (l acc : List Str), (l.filter q).foldl keysAdd (acc.filter q) = (l.foldl keysAdd acc).filter q
  | [], acc => rfl
  | x :: l, acc => by
    rw [List.foldl_cons, ← foldl_filter l]
    by_cases h : q x = true
    · rw [List.filter_cons_of_pos h, List.foldl_cons]
      congr 1
      unfold keysAdd
      by_cases h2 : x ∈ acc
      · rw [if_pos h2, if_pos (by rw [List.mem_filter]; exact ⟨h2, h⟩)]
      · rw [if_neg h2, if_neg (by rw [List.mem_filter]; exact fun z => h2 z.1), List.filter_append, List.filter_cons_of_pos h]
        rfl
    · rw [List.filter_cons_of_neg h]
      congr 1
      unfold keysAdd
      by_cases h2 : x ∈ acc
      · rw [if_pos h2]
      · rw [if_neg h2, List.filter_append, List.filter_cons_of_neg h]
        simp
theorem dedup_filter (q : Str → Bool) (l : List Str) : dedup (l.filter q) = (dedup l).filter q := foldl_filter l []
theorem sortS_filter (q : Str → Bool) (l : List Str) : sortS (l.filter q) = (sortS l).filter q := by
  symm
  refine List.Perm.eq_of_pairwise (le := fun a b => leS a b = true) (fun a b _ _ => leS_anti a b) ?_ (List.pairwise_mergeSort leS_trans leS_total _) ?_
  · exact (List.pairwise_mergeSort leS_trans leS_total l).sublist List.filter_sublist
  · exact ((List.mergeSort_perm l leS).filter q).trans (List.mergeSort_perm _ leS).symm
structure HasK (tbl : Nat → Option DefB) : Prop extends HasC tbl where
  t31 : tbl 31 = some ⟨1, 1, b_check_plan⟩
structure HasN (tbl : Nat → Option DefB) : Prop extends HasK tbl, HasW tbl where
  t33 : tbl 33 = some ⟨2, 3, b_labels_of⟩
  t46 : tbl 46 = some ⟨1, 1, b_names⟩
theorem labels_go {rm : Nat} {P : D} {w : World} : ∀ l : List Pa, compGo (gN 2) (dTst (dBin (gEq rm) (dBin gIx (dName 2) (dC (.int 0))) (dName 1))) (dBin gIx (dName 2) (dC (.int 1))) [.dat P, .dat (.str "name"), .un] (l.map Pa.d) w = .ok ((l.filterMap Pa.nm).map .str) w
  | [] => rfl
  | p :: l => by
    have ih := labels_go (rm := rm) (P := P) (w := w) l
    cases p <;> simp [go_cons, Pa.d, at_0, at_1, ih, List.filterMap_cons, Pa.nm, ne_1, ne_2, ne_12, ne_13]
theorem strs_map (l : List Str) : strsOf (l.map .str) = some l := by
  induction l with
  | nil => rfl
  | cons x l ih => simp [strsOf, ih]
section
variable {tbl : Nat → Option DefB} (T : HasK tbl)
include T
theorem c_checkPlan {p : Pl} {n : Nat} {w : World} (hn : 2 * p.dep + 5 ≤ n) (h : p.ok 0 = true) : (Den tbl n).call 31 [.dat p.d] w = .ok (.dat .non) w := by
  obtain ⟨m, rfl, hm⟩ := succ_of (k := 2 * p.dep + 4) hn
  rw [den_succ T.t31]
  have e := c_plan_in T.toHasC p 0 m w hm
  simp only [Pl.d, Int.cast_ofNat_Int] at e
  simp [runB, initE, toSl, b_check_plan, e, h]
end
section
variable {tbl : Nat → Option DefB} (T : HasN tbl)
include T
theorem c_labels {p : Pl} {n : Nat} {w : World} (hn : p.dep + 2 ≤ n) (hz : p.within.length < 64) : (Den tbl n).call 33 [.dat p.d, .dat (.str "name")] w = .ok (.fresh ((sortS (dedup p.nms)).map .str)) w := by
  obtain ⟨m, rfl, hm⟩ := succ_of (k := p.dep + 1) hn
  rw [den_succ T.t33]
  have e := c_within' T.toHasW p m w (by omega) (by omega)
  have g := labels_go (rm := (Den tbl m).room) (P := p.d) (w := w) p.within
  simp only [Pl.d] at e g
  have hs := strs_map p.nms
  have hl : (dedup p.nms).length < 64 := by
    have h1 := dedup_len p.nms
    have h2 : p.nms.length ≤ p.within.length := by unfold Pl.nms; exact List.length_filterMap_le _ _
    omega
  have hk := strs_map (dedup p.nms)
  have hc : cSortS [.lst ((dedup p.nms).map .str)] = some (.fresh ((sortS (dedup p.nms)).map .str)) := by
    simp only [cSortS, hk]
    rw [if_pos hl]
  unfold Pl.nms at *
  unfold dedup at *
  simp [runB, initE, toSl, b_labels_of, dKeys, e, g, hs, hc]
theorem c_names {p : Pl} {n : Nat} {w : World} (hn : 2 * p.dep + 6 ≤ n) (h : p.ok 0 = true) (hz : p.within.length < 64) : (Den tbl n).call 46 [.dat p.d] w = .ok (.fresh ((sortS (dedup p.nms)).map .str)) w := by
  obtain ⟨m, rfl, hm⟩ := succ_of (k := 2 * p.dep + 5) hn
  rw [den_succ T.t46]
  have e1 := c_checkPlan T.toHasK (w := w) hm h
  have e2 := c_labels T (p := p) (n := m) (w := w) (by omega) hz
  simp only [Pl.d] at e1 e2
  simp [runB, initE, toSl, b_names, e1, e2]
end
/-! ### letters and waits -/
mutual
def Pa.caught (x : Str) (k : Nat) : Pa → Pa
  | .name y => if y = x then .got k else .name y
  | .letter d b => .letter d (b.caught x k)
  | .wait d b => .wait d (b.caught x (k + 1))
  | .mark n => .mark n
  | .got n => .got n
def Pl.caught (x : Str) (k : Nat) : Pl → Pl
  | .nil => .nil
  | .cons c p r => .cons c (p.caught x k) (r.caught x k)
end
mutual
def Pa.freed (x : Str) (k : Nat) : Pa → Pa
  | .got n => if n = k then .name x else .got n
  | .letter d b => .letter d (b.freed x k)
  | .wait d b => .wait d (b.freed x (k + 1))
  | .mark n => .mark n
  | .name y => .name y
def Pl.freed (x : Str) (k : Nat) : Pl → Pl
  | .nil => .nil
  | .cons c p r => .cons c (p.freed x k) (r.freed x k)
end
mutual
theorem Pa.freed_caught (x : Str) : ∀ (p : Pa) (k : Nat), p.ok k = true → (p.caught x k).freed x k = p
  | .name y, k, h => by
    by_cases e : y = x
    · subst e; simp [Pa.caught, Pa.freed]
    · simp [Pa.caught, e, Pa.freed]
  | .mark n, k, h => by simp [Pa.caught, Pa.freed]
  | .got n, k, h => by
    have : ¬ n = k := by simp [Pa.ok] at h; omega
    simp [Pa.caught, Pa.freed, this]
  | .letter d b, k, h => by
    simp only [Pa.ok, Bool.and_eq_true] at h
    simp [Pa.caught, Pa.freed, Pl.freed_caught x b k h.2]
  | .wait d b, k, h => by
    simp only [Pa.ok, Bool.and_eq_true] at h
    simp [Pa.caught, Pa.freed, Pl.freed_caught x b (k + 1) h.2]
theorem Pl.freed_caught (x : Str) : ∀ (p : Pl) (k : Nat), p.ok k = true → (p.caught x k).freed x k = p
  | .nil, k, h => by simp [Pl.caught, Pl.freed]
  | .cons c p r, k, h => by
    simp only [Pl.ok, Bool.and_eq_true] at h
    simp [Pl.caught, Pl.freed, Pa.freed_caught x p k h.1.2, Pl.freed_caught x r k h.2]
end
mutual
theorem Pa.caught_ok (x : Str) : ∀ (p : Pa) (k : Nat), p.ok k = true → (p.caught x k).ok (k + 1) = true
  | .name y, k, h => by
    by_cases e : y = x
    · simp [Pa.caught, e, Pa.ok]
    · simpa [Pa.caught, e, Pa.ok] using h
  | .mark n, k, h => by simp [Pa.caught, Pa.ok]
  | .got n, k, h => by simp [Pa.caught, Pa.ok] at *; omega
  | .letter d b, k, h => by
    simp only [Pa.ok, Bool.and_eq_true] at h
    simp [Pa.caught, Pa.ok, h.1, Pl.caught_ok x b k h.2]
  | .wait d b, k, h => by
    simp only [Pa.ok, Bool.and_eq_true] at h
    simp [Pa.caught, Pa.ok, h.1, Pl.caught_ok x b (k + 1) h.2]
theorem Pl.caught_ok (x : Str) : ∀ (p : Pl) (k : Nat), p.ok k = true → (p.caught x k).ok (k + 1) = true
  | .nil, k, h => by simp [Pl.caught, Pl.ok]
  | .cons c p r, k, h => by
    simp only [Pl.ok, Bool.and_eq_true] at h
    simp only [decide_eq_true_eq] at h
    simp [Pl.caught, Pl.ok, h.1.1, Pa.caught_ok x p k h.1.2, Pl.caught_ok x r k h.2]
end
mutual
theorem Pa.caught_size (x : Str) : ∀ (p : Pa) (k : Nat), (p.caught x k).size = p.size
  | .name y, k => by by_cases e : y = x <;> simp [Pa.caught, e, Pa.size]
  | .mark n, k => rfl
  | .got n, k => rfl
  | .letter d b, k => by simp [Pa.caught, Pa.size, Pl.caught_size x b k]
  | .wait d b, k => by simp [Pa.caught, Pa.size, Pl.caught_size x b (k + 1)]
theorem Pl.caught_size (x : Str) : ∀ (p : Pl) (k : Nat), (p.caught x k).size = p.size
  | .nil, k => rfl
  | .cons c p r, k => by simp [Pl.caught, Pl.size, Pa.caught_size x p k, Pl.caught_size x r k]
end
mutual
theorem Pa.caught_within (x : Str) : ∀ (p : Pa) (k : Nat), ((p.caught x k).within.filterMap Pa.nm) = (p.within.filterMap Pa.nm).filter (fun y => !decide (y = x))
  | .name y, k => by by_cases e : y = x <;> simp [Pa.caught, e, Pa.within]
  | .mark n, k => rfl
  | .got n, k => rfl
  | .letter d b, k => by simp only [Pa.caught, Pa.within]; exact Pl.caught_within x b k
  | .wait d b, k => by simp only [Pa.caught, Pa.within]; exact Pl.caught_within x b (k + 1)
theorem Pl.caught_within (x : Str) : ∀ (p : Pl) (k : Nat), ((p.caught x k).within.filterMap Pa.nm) = (p.within.filterMap Pa.nm).filter (fun y => !decide (y = x))
  | .nil, k => rfl
  | .cons c p r, k => by
    have h1 := Pa.caught_within x p k
    have h2 := Pl.caught_within x r k
    simp only [Pl.caught, Pl.within, List.filterMap_cons, List.filterMap_append, h1, h2]
    cases p with
    | name y => by_cases e : y = x <;> simp [Pa.caught, e, Pa.nm]
    | _ => simp [Pa.caught, Pa.nm]
end
/-- the closure of bound_to -/
def bindF (x : Str) (p : Pa) (k : Nat) : Pl := match p with
  | .name y => .cons 1 (if y = x then .got k else .name y) .nil
  | p => .cons 1 p .nil
mutual
theorem Pa.mapA_bind (x : Str) : ∀ (p : Pa) (k c : Nat), p.mapA (bindF x) k c = .cons c (p.caught x k) .nil
  | .name y, k, c => by simp [Pa.mapA, bindF, Pl.times, Pa.caught]
  | .mark n, k, c => by simp [Pa.mapA, bindF, Pl.times, Pa.caught]
  | .got n, k, c => by simp [Pa.mapA, bindF, Pl.times, Pa.caught]
  | .letter d b, k, c => by simp [Pa.mapA, Pa.caught, Pl.mapA_bind x b k]
  | .wait d b, k, c => by simp [Pa.mapA, Pa.caught, Pl.mapA_bind x b (k + 1)]
theorem Pl.mapA_bind (x : Str) : ∀ (p : Pl) (k : Nat), p.mapA (bindF x) k = p.caught x k
  | .nil, k => rfl
  | .cons c p r, k => by simp [Pl.mapA, Pl.caught, Pa.mapA_bind x p k c, Pl.mapA_bind x r k, Pl.app]
end
mutual
theorem Pa.caught_len (x : Str) : ∀ (p : Pa) (k : Nat), (p.caught x k).within.length = p.within.length
  | .name y, k => by by_cases e : y = x <;> simp [Pa.caught, e, Pa.within]
  | .mark n, k => rfl
  | .got n, k => rfl
  | .letter d b, k => by simp [Pa.caught, Pa.within, Pl.caught_len x b k]
  | .wait d b, k => by simp [Pa.caught, Pa.within, Pl.caught_len x b (k + 1)]
theorem Pl.caught_len (x : Str) : ∀ (p : Pl) (k : Nat), (p.caught x k).within.length = p.within.length
  | .nil, k => rfl
  | .cons c p r, k => by simp [Pl.caught, Pl.within, Pa.caught_len x p k, Pl.caught_len x r k]
end
structure HasZ0 (tbl : Nat → Option DefB) : Prop extends HasK tbl, HasS tbl where
  t47 : tbl 47 = some ⟨1, 1, b_size⟩
structure HasZ (tbl : Nat → Option DefB) : Prop extends HasN tbl, HasM tbl, HasZ0 tbl where
  t37 : tbl 37 = some ⟨1, 1, b_check_word⟩
  t48 : tbl 48 = some ⟨1, 1, b_is_plan⟩
structure HasL (tbl : Nat → Option DefB) : Prop extends HasZ tbl where
  t35 : tbl 35 = some ⟨1, 1, b_check_door⟩
  t36 : tbl 36 = some ⟨3, 3, b_bound_to⟩
  t44 : tbl 44 = some ⟨3, 3, b_wait⟩
  t45 : tbl 45 = some ⟨2, 2, b_letter⟩
  t50 : tbl 50 = some ⟨3, 3, fun C => sRet (b_bound_to'clo C)⟩
section
variable {tbl : Nat → Option DefB} (T : HasL tbl)
include T
theorem act_bind {x : Str} {w : World} : ActOk tbl 1 50 [.tup [.str "name", .str x]] w (bindF x) := by
  intro p k n hp hn
  obtain ⟨m, rfl, hm⟩ := succ_of (k := 0) hn
  rw [den_succ T.t50]
  have hq : ∀ l : List D, gEq (Den tbl m).room (.tup l) (.tup [.str "name", .str x]) = some (.dat (.bl ((D.tup l).eq (.tup [.str "name", .str x])))) := fun l => gEq_t (by rw [den_room]; simp)
  cases p with
  | name y => by_cases e : y = x <;> simp [runB, initE, toSl, b_bound_to'clo, Pa.d, hq, e, bindF, Pl.ds]
  | mark j => simp [runB, initE, toSl, b_bound_to'clo, Pa.d, hq, ne_1, bindF, Pl.ds]
  | got j => simp [runB, initE, toSl, b_bound_to'clo, Pa.d, hq, ne_2, bindF, Pl.ds]
  | letter d b => cases hp
  | wait d b => cases hp
theorem bind_cl {x : Str} (p : Pa) (k : Nat) : (bindF x p k).cl := by
  have := limN_big
  have e : 2 ^ 64 = 18446744073709551616 := by decide
  cases p <;> exact ⟨by omega, trivial⟩
theorem c_bound {d x : Str} {p : Pl} {n : Nat} {w : World} (hw : allL w = true) (hn : p.dep + 3 ≤ n) (hp : p.cls) (hz : p.within.length < 16777216) : (Den tbl n).call 36 [.dat (.str d), .dat (.tup [.str "name", .str x]), .dat p.d] w = .ok (.dat (Pa.wait d (p.caught x 0)).d) w := by
  obtain ⟨m, rfl, hm⟩ := succ_of (k := p.dep + 2) hn
  rw [den_succ T.t36]
  have e := c_mapped T.toHasM hw (act_bind T (x := x) (w := w)) (fun p k _ => bind_cl T p k) p 0 m (by omega) hp (by rw [Pl.mapA_bind, Pl.caught_len]; exact hz)
  rw [Pl.mapA_bind] at e
  simp only [Pl.d, Int.cast_ofNat_Int] at e
  simp [runB, initE, toSl, b_bound_to, dClo, capsOf, cloK, hw, e, Pa.d]
theorem c_letter {d : Str} {p : Pl} {n : Nat} {w : World} (hn : 2 * p.dep + 6 ≤ n) (hd : doorB d = true) (h : p.ok 0 = true) : (Den tbl n).call 45 [.dat (.str d), .dat p.d] w = .ok (.dat (Pl.cons 1 (.letter d p) .nil).d) w := by
  obtain ⟨m, rfl, hm⟩ := succ_of (k := 2 * p.dep + 5) hn
  obtain ⟨m', rfl, hm'⟩ := succ_of (k := 2) (n := m) (by omega)
  rw [den_succ T.t45]
  have e1 : ∀ w, (Den tbl (m' + 1)).call 35 [.dat (.str d)] w = .ok (.dat .non) w := fun w => by
    rw [den_succ T.t35]
    simp [runB, initE, toSl, b_check_door, c_door T.toHasC (show 2 ≤ m' by omega), hd]
  have e2 := c_checkPlan T.toHasK (p := p) (n := m' + 1) (w := w) hm h
  simp only [Pl.d] at e2
  simp [runB, initE, toSl, b_letter, e1, e2, Pl.ds, Pa.d]
theorem c_wait {d x : Str} {p : Pl} {n : Nat} {w : World} (hw : allL w = true) (hn : 2 * p.dep + 6 ≤ n) (hd : doorB d = true) (hx : wordB x = true) (h : p.ok 0 = true) (hs : p.size < 16777216) : (Den tbl n).call 44 [.dat (.str d), .dat (.str x), .dat p.d] w = .ok (.dat (Pl.cons 1 (.wait d (p.caught x 0)) .nil).d) w := by
  obtain ⟨m, rfl, hm⟩ := succ_of (k := 2 * p.dep + 5) hn
  obtain ⟨m', rfl, hm'⟩ := succ_of (k := 2) (n := m) (by omega)
  rw [den_succ T.t44]
  have big := limN_big
  have e64 : 2 ^ 64 = 18446744073709551616 := by decide
  have hl := (Pl.lim_size p 0 h (by omega)).2
  have hz := Pl.within_size p 0 h
  have e1 : ∀ w, (Den tbl (m' + 1)).call 35 [.dat (.str d)] w = .ok (.dat .non) w := fun w => by
    rw [den_succ T.t35]
    simp [runB, initE, toSl, b_check_door, c_door T.toHasC (show 2 ≤ m' by omega), hd]
  have e2 : ∀ w, (Den tbl (m' + 1)).call 37 [.dat (.str x)] w = .ok (.dat .non) w := fun w => by
    rw [den_succ T.t37]
    simp [runB, initE, toSl, b_check_word, c_word T.toHasC (show 1 ≤ m' by omega), hx]
  have e3 := c_checkPlan T.toHasK (p := p) (n := m' + 1) (w := w) hm h
  have e4 := c_bound T (d := d) (x := x) (p := p) (n := m' + 1) hw (by omega) hl (by omega)
  simp only [Pl.d] at e3 e4
  simp [runB, initE, toSl, b_wait, e1, e2, e3, e4, Pl.ds]
end
section
variable {tbl : Nat → Option DefB} (T : HasZ0 tbl)
include T
theorem c_size {p : Pl} {n : Nat} {w : World} (hn : 2 * p.dep + 6 ≤ n) (h : p.ok 0 = true) (hs : p.size < limN) : (Den tbl n).call 47 [.dat p.d] w = .ok (.dat (.int p.size)) w := by
  obtain ⟨m, rfl, hm⟩ := succ_of (k := 2 * p.dep + 5) hn
  rw [den_succ T.t47]
  have e1 := c_checkPlan T.toHasK (w := w) hm h
  have e2 := c_sizeOf T.toHasS p m w (by omega) (Pl.lim_size p 0 h hs).1
  simp only [Pl.d] at e1 e2
  simp [runB, initE, toSl, b_size, e1, e2]
end
section
variable {tbl : Nat → Option DefB} (T : HasZ tbl)
include T
theorem c_isPlan {p : Pl} {n : Nat} {w : World} (hn : 2 * p.dep + 5 ≤ n) : (Den tbl n).call 48 [.dat p.d] w = .ok (.dat (.bl (p.ok 0))) w := by
  obtain ⟨m, rfl, hm⟩ := succ_of (k := 2 * p.dep + 4) hn
  rw [den_succ T.t48]
  have e := c_plan_in T.toHasC p 0 m w hm
  simp only [Pl.d, Int.cast_ofNat_Int] at e
  simp [runB, initE, toSl, b_is_plan, e]
end
end Dl
/-! Pl7: raised, replaced, put. -/
namespace Dl
open PySem PySem.Spec PyProof.Rows L2 NdefX
/-! ### nesting, items -/
def Pl.nst : Pl → List Int
  | .nil => []
  | .cons _ (.letter _ b) r => ((b.dep : Int) + 1) :: r.nst
  | .cons _ (.wait _ b) r => ((b.dep : Int) + 1) :: r.nst
  | .cons _ _ r => r.nst
theorem nst_max : ∀ (p : Pl) (x : Nat), maxI (x : Int) p.nst = ((max x p.dep : Nat) : Int)
  | .nil, x => by simp [Pl.nst, maxI, Pl.dep]
  | .cons c p r, x => by
    have key : ∀ b : Pl, maxI (x : Int) (((b.dep : Int) + 1) :: r.nst) = ((max x (max (b.dep + 1) r.dep) : Nat) : Int) := fun b => by
      have ih := nst_max r (max x (b.dep + 1))
      have e : (if ((b.dep : Int) + 1) > (x : Int) then ((b.dep : Int) + 1) else (x : Int)) = ((max x (b.dep + 1) : Nat) : Int) := by split <;> omega
      simp only [maxI, e, ih]
      omega
    have ih := nst_max r x
    cases p with
    | name y => simp only [Pl.nst, ih, Pl.dep, Pa.dep]; omega
    | mark y => simp only [Pl.nst, ih, Pl.dep, Pa.dep]; omega
    | got y => simp only [Pl.nst, ih, Pl.dep, Pa.dep]; omega
    | letter y b => simp only [Pl.nst, Pl.dep, Pa.dep]; exact key b
    | wait y b => simp only [Pl.nst, Pl.dep, Pa.dep]; exact key b
structure HasI (tbl : Nat → Option DefB) : Prop extends HasW tbl where
  t52 : tbl 52 = some ⟨1, 1, b_items_in⟩
  t51 : tbl 51 = some ⟨1, 3, b_nesting⟩
theorem nst_go {m : Nat} {C : Cs} {P : D} {w : World} (hC : ∀ b : Pl, b.dep < m → C.call 51 [.dat (.tup b.ds)] w = .ok (.dat (.int b.dep)) w) : ∀ r : Pl, r.dep ≤ m →
    compGo (gT 2 (gsCons (gN 1) (gsCons (gN 2) gsNil))) (dTst (dBin (gEq C.room) (dBlt cLen (rCons (dName 2) rNil)) (dC (.int 3)))) (dBin gAdd (dC (.int 1)) (dCall C 51 (aCons (dBin gIx (dName 2) (dC (.int 2))) aNil))) [.dat P, .un, .un] r.ds w = .ok (r.nst.map .int) w
  | .nil, _ => rfl
  | .cons c p r, h => by
    simp only [Pl.dep] at h
    have ih := nst_go hC r (P := P) (by omega)
    cases p with
    | name y => simp [Pl.ds, Pa.d, go_cons, ih, Pl.nst]
    | mark y => simp [Pl.ds, Pa.d, go_cons, ih, Pl.nst]
    | got y => simp [Pl.ds, Pa.d, go_cons, ih, Pl.nst]
    | letter y b =>
      simp only [Pa.dep] at h
      simp [Pl.ds, Pa.d, go_cons, at_2, hC b (by omega), ih, Pl.nst]
      omega
    | wait y b =>
      simp only [Pa.dep] at h
      simp [Pl.ds, Pa.d, go_cons, at_2, hC b (by omega), ih, Pl.nst]
      omega
theorem within_dep : ∀ (p : Pl), p.nst.length ≤ p.within.length
  | .nil => Nat.le_refl _
  | .cons c p r => by
    have := within_dep r
    cases p <;> simp [Pl.nst, Pl.within] <;> omega
section
variable {tbl : Nat → Option DefB} (T : HasI tbl)
include T
theorem c_items {p : Pl} {n : Nat} {w : World} (hn : p.dep + 2 ≤ n) (hz : p.within.length < 16777216) : (Den tbl n).call 52 [.dat p.d] w = .ok (.dat (.int p.within.length)) w := by
  obtain ⟨m, rfl, hm⟩ := succ_of (k := p.dep + 1) (n := n) (by omega)
  rw [den_succ T.t52]
  have e := c_within' T.toHasW p m w hm hz
  simp only [Pl.d] at e
  simp [runB, initE, toSl, b_items_in, e]
theorem c_nesting : ∀ (n : Nat) (p : Pl) (w : World), p.dep + 1 ≤ n → p.within.length < 16777215 → (Den tbl n).call 51 [.dat p.d] w = .ok (.dat (.int p.dep)) w
  | 0, p, w, h, hz => by omega
  | n + 1, p, w, h, hz => by
    rw [den_succ T.t51]
    have bz : ∀ b : Pl, b.dep < p.dep → True := fun _ _ => trivial
    have g : ∀ r : Pl, r.dep ≤ n → r.within.length < 16777215 → compGo (gT 2 (gsCons (gN 1) (gsCons (gN 2) gsNil))) (dTst (dBin (gEq (Den tbl n).room) (dBlt cLen (rCons (dName 2) rNil)) (dC (.int 3)))) (dBin gAdd (dC (.int 1)) (dCall (Den tbl n) 51 (aCons (dBin gIx (dName 2) (dC (.int 2))) aNil))) [.dat (.tup p.ds), .un, .un] r.ds w = .ok (r.nst.map .int) w := by
      intro r
      induction r using Pl.rec (motive_1 := fun _ => True) with
      | nil => intro _ _; rfl
      | cons c q r _ ih =>
        intro hd hw
        simp only [Pl.dep] at hd
        simp only [Pl.within, List.length_cons, List.length_append] at hw
        have ih := ih (by omega) (by omega)
        cases q with
        | name y => simp [Pl.ds, Pa.d, go_cons, ih, Pl.nst]
        | mark y => simp [Pl.ds, Pa.d, go_cons, ih, Pl.nst]
        | got y => simp [Pl.ds, Pa.d, go_cons, ih, Pl.nst]
        | letter y b =>
          simp only [Pa.dep] at hd
          simp only [Pa.within] at hw
          have hb := c_nesting n b w (by omega) (by omega)
          simp only [Pl.d] at hb
          simp [Pl.ds, Pa.d, go_cons, at_2, hb, ih, Pl.nst]
          omega
        | wait y b =>
          simp only [Pa.dep] at hd
          simp only [Pa.within] at hw
          have hb := c_nesting n b w (by omega) (by omega)
          simp only [Pl.d] at hb
          simp [Pl.ds, Pa.d, go_cons, at_2, hb, ih, Pl.nst]
          omega
      | _ => trivial
    have g := g p (by omega) hz
    have hl : 1 + p.nst.length ≤ sizeLine := by have := within_dep p; rw [sizeLine_eq]; omega
    have hm : cMax1 [.lst (.int 0 :: p.nst.map .int)] = some (.dat (.int p.dep)) := by
      have e := nst_max p 0
      have ei : intsOf (D.int 0 :: p.nst.map .int) = some (0 :: p.nst) := by simp [intsOf]
      simp only [cMax1, ei]
      rw [show maxI 0 p.nst = ((max 0 p.dep : Nat) : Int) from e]
      simp
    simp [runB, initE, toSl, b_nesting, g, hl, hm]
end
/-! ### raised -/
mutual
def Pa.raised (by_ least k : Nat) : Pa → Pa
  | .got n => if k + least ≤ n then .got (n + by_) else .got n
  | .letter d b => .letter d (b.raised by_ least k)
  | .wait d b => .wait d (b.raised by_ least (k + 1))
  | .mark n => .mark n
  | .name y => .name y
def Pl.raised (by_ least k : Nat) : Pl → Pl
  | .nil => .nil
  | .cons c p r => .cons c (p.raised by_ least k) (r.raised by_ least k)
end
def raiseF (by_ least : Nat) (p : Pa) (k : Nat) : Pl := .cons 1 (p.raised by_ least k) .nil
mutual
theorem Pa.mapA_raise (a l : Nat) : ∀ (p : Pa) (k c : Nat), p.mapA (raiseF a l) k c = .cons c (p.raised a l k) .nil
  | .name y, k, c => by simp [Pa.mapA, raiseF, Pl.times]
  | .mark n, k, c => by simp [Pa.mapA, raiseF, Pl.times]
  | .got n, k, c => by simp [Pa.mapA, raiseF, Pl.times]
  | .letter d b, k, c => by simp [Pa.mapA, Pa.raised, Pl.mapA_raise a l b k]
  | .wait d b, k, c => by simp [Pa.mapA, Pa.raised, Pl.mapA_raise a l b (k + 1)]
theorem Pl.mapA_raise (a l : Nat) : ∀ (p : Pl) (k : Nat), p.mapA (raiseF a l) k = p.raised a l k
  | .nil, k => rfl
  | .cons c p r, k => by simp [Pl.mapA, Pl.raised, Pa.mapA_raise a l p k c, Pl.mapA_raise a l r k, Pl.app]
end
mutual
theorem Pa.raised_len (a l : Nat) : ∀ (p : Pa) (k : Nat), (p.raised a l k).within.length = p.within.length
  | .name y, k => rfl
  | .mark n, k => rfl
  | .got n, k => by by_cases h : k + l ≤ n <;> simp [Pa.raised, h, Pa.within]
  | .letter d b, k => by simp [Pa.raised, Pa.within, Pl.raised_len a l b k]
  | .wait d b, k => by simp [Pa.raised, Pa.within, Pl.raised_len a l b (k + 1)]
theorem Pl.raised_len (a l : Nat) : ∀ (p : Pl) (k : Nat), (p.raised a l k).within.length = p.within.length
  | .nil, k => rfl
  | .cons c p r, k => by simp [Pl.raised, Pl.within, Pa.raised_len a l p k, Pl.raised_len a l r k]
end
mutual
/-- a plan without gots that belong to farther waits stays as it is -/
theorem Pa.raised_ok (a : Nat) : ∀ (p : Pa) (k : Nat), p.ok k = true → p.raised a 0 k = p
  | .name y, k, h => rfl
  | .mark n, k, h => rfl
  | .got n, k, h => by
    have : ¬ k ≤ n := by simp [Pa.ok] at h; omega
    simp [Pa.raised, this]
  | .letter d b, k, h => by
    simp only [Pa.ok, Bool.and_eq_true] at h
    simp [Pa.raised, Pl.raised_ok a b k h.2]
  | .wait d b, k, h => by
    simp only [Pa.ok, Bool.and_eq_true] at h
    simp [Pa.raised, Pl.raised_ok a b (k + 1) h.2]
theorem Pl.raised_ok (a : Nat) : ∀ (p : Pl) (k : Nat), p.ok k = true → p.raised a 0 k = p
  | .nil, k, h => rfl
  | .cons c p r, k, h => by
    simp only [Pl.ok, Bool.and_eq_true] at h
    simp [Pl.raised, Pa.raised_ok a p k h.1.2, Pl.raised_ok a r k h.2]
end
structure HasR (tbl : Nat → Option DefB) : Prop extends HasI tbl, HasM tbl where
  t55 : tbl 55 = some ⟨4, 4, b_raised'clo⟩
  t57 : tbl 57 = some ⟨3, 4, b_raised⟩
section
variable {tbl : Nat → Option DefB} (T : HasR tbl)
include T
theorem act_raise {a l : Nat} {w : World} : ActOk tbl 1 55 [.int l, .int a] w (raiseF a l) := by
  intro p k n hp hn
  obtain ⟨m, rfl, hm⟩ := succ_of (k := 0) hn
  rw [den_succ T.t55]
  cases p with
  | name y => simp [runB, initE, toSl, b_raised'clo, Pa.d, at_0, ne_14, raiseF, Pl.ds, Pa.raised]
  | mark j => simp [runB, initE, toSl, b_raised'clo, Pa.d, at_0, ne_15, raiseF, Pl.ds, Pa.raised]
  | got j =>
    by_cases h : k + l ≤ j
    · have h' : (k : Int) + l ≤ j := by omega
      simp [runB, initE, toSl, b_raised'clo, Pa.d, at_0, at_1, h, h', raiseF, Pl.ds, Pa.raised]
    · have h' : ¬ (k : Int) + l ≤ j := by omega
      simp [runB, initE, toSl, b_raised'clo, Pa.d, at_0, at_1, h, h', raiseF, Pl.ds, Pa.raised]
  | letter d b => cases hp
  | wait d b => cases hp
theorem c_raised {a l : Nat} {p : Pl} {n : Nat} {w : World} (hw : allL w = true) (hn : p.dep + 3 ≤ n) (hp : p.cls) (hz : p.within.length < 16777216) : (Den tbl n).call 57 [.dat p.d, .dat (.int a), .dat (.int l)] w = .ok (.dat (p.raised a l 0).d) w := by
  obtain ⟨m, rfl, hm⟩ := succ_of (k := p.dep + 2) hn
  rw [den_succ T.t57]
  have big := limN_big
  have e := c_mapped T.toHasM hw (act_raise T (a := a) (l := l) (w := w)) (fun p k _ => ⟨by omega, trivial⟩) p 0 m (by omega) hp (by rw [Pl.mapA_raise, Pl.raised_len]; exact hz)
  rw [Pl.mapA_raise] at e
  simp only [Pl.d, Int.cast_ofNat_Int] at e
  simp [runB, initE, toSl, b_raised, sDefRet, dClo, capsOf, cloK, hw, e, Pa.d]
end
/-! ### a plan put for a name or a mark -/
def putF (old : D) (other : Pl) (p : Pa) (_ : Nat) : Pl := if p.d.eq old = true then other else .cons 1 p .nil
abbrev Pl.put (p : Pl) (old : D) (other : Pl) : Pl := p.mapA (putF old other) 0
mutual
theorem Pa.put_k (old : D) (o : Pl) : ∀ (p : Pa) (k c : Nat), p.mapA (putF old o) k c = p.mapA (putF old o) 0 c
  | .name y, k, c => rfl
  | .mark n, k, c => rfl
  | .got n, k, c => rfl
  | .letter d b, k, c => by simp only [Pa.mapA]; rw [Pl.put_k old o b k]
  | .wait d b, k, c => by simp only [Pa.mapA]; rw [Pl.put_k old o b (k + 1), Pl.put_k old o b (0 + 1)]
theorem Pl.put_k (old : D) (o : Pl) : ∀ (p : Pl) (k : Nat), p.mapA (putF old o) k = p.mapA (putF old o) 0
  | .nil, k => rfl
  | .cons c p r, k => by simp only [Pl.mapA]; rw [Pa.put_k old o p k c, Pl.put_k old o r k]
end
theorem times_ok {c k : Nat} (hc : 1 ≤ c) : ∀ p : Pl, p.ok k = true → (p.times c).ok k = true
  | .nil, h => by simp [Pl.times, Pl.ok]
  | .cons n p r, h => by
    simp only [Pl.ok, Bool.and_eq_true, decide_eq_true_eq] at h
    have : 1 * 1 ≤ c * n := Nat.mul_le_mul hc h.1.1
    simp only [Pl.times, Pl.ok, h.1.2, times_ok hc r h.2, Bool.and_true, decide_eq_true_eq]
    omega
mutual
theorem Pa.ok_mono : ∀ (p : Pa) (k j : Nat), k ≤ j → p.ok k = true → p.ok j = true
  | .name y, k, j, h, e => e
  | .mark n, k, j, h, e => e
  | .got n, k, j, h, e => by simp [Pa.ok] at *; omega
  | .letter d b, k, j, h, e => by
    simp only [Pa.ok, Bool.and_eq_true] at *
    exact ⟨e.1, Pl.ok_mono b k j h e.2⟩
  | .wait d b, k, j, h, e => by
    simp only [Pa.ok, Bool.and_eq_true] at *
    exact ⟨e.1, Pl.ok_mono b (k + 1) (j + 1) (by omega) e.2⟩
theorem Pl.ok_mono : ∀ (p : Pl) (k j : Nat), k ≤ j → p.ok k = true → p.ok j = true
  | .nil, k, j, h, e => e
  | .cons c p r, k, j, h, e => by
    simp only [Pl.ok, Bool.and_eq_true] at *
    exact ⟨⟨e.1.1, Pa.ok_mono p k j h e.1.2⟩, Pl.ok_mono r k j h e.2⟩
end
mutual
theorem Pa.put_ok (old : D) (o : Pl) (ho : o.ok 0 = true) : ∀ (p : Pa) (k c j : Nat), 1 ≤ c → p.ok k = true → (p.mapA (putF old o) j c).ok k = true
  | .name y, k, c, j, hc, h => by
    simp only [Pa.mapA, putF]
    split
    · exact times_ok hc _ (Pl.ok_mono o 0 k (by omega) ho)
    · simp [Pl.times, Pl.ok, hc, h]
  | .mark n, k, c, j, hc, h => by
    simp only [Pa.mapA, putF]
    split
    · exact times_ok hc _ (Pl.ok_mono o 0 k (by omega) ho)
    · simp [Pl.times, Pl.ok, hc, h]
  | .got n, k, c, j, hc, h => by
    simp only [Pa.mapA, putF]
    split
    · exact times_ok hc _ (Pl.ok_mono o 0 k (by omega) ho)
    · simp [Pl.times, Pl.ok, hc, h]
  | .letter d b, k, c, j, hc, h => by
    simp only [Pa.ok, Bool.and_eq_true] at h
    simp [Pa.mapA, Pl.ok, Pa.ok, hc, h.1, Pl.put_ok old o ho b k j h.2]
  | .wait d b, k, c, j, hc, h => by
    simp only [Pa.ok, Bool.and_eq_true] at h
    simp [Pa.mapA, Pl.ok, Pa.ok, hc, h.1, Pl.put_ok old o ho b (k + 1) (j + 1) h.2]
theorem Pl.put_ok (old : D) (o : Pl) (ho : o.ok 0 = true) : ∀ (p : Pl) (k j : Nat), p.ok k = true → (p.mapA (putF old o) j).ok k = true
  | .nil, k, j, h => by simp [Pl.mapA, Pl.ok]
  | .cons c p r, k, j, h => by
    simp only [Pl.ok, Bool.and_eq_true, decide_eq_true_eq] at h
    simp [Pl.mapA, app_ok, Pa.put_ok old o ho p k c j h.1.1 h.1.2, Pl.put_ok old o ho r k j h.2]
end
mutual
theorem Pa.put_len (old : D) (o : Pl) : ∀ (p : Pa) (c j : Nat), (p.mapA (putF old o) j c).within.length ≤ (p.within.length + 1) * (o.within.length + 1)
  | .name y, c, j => by
    simp only [Pa.mapA, times_within, putF, Pa.within]
    split <;> simp [Pl.within, Pa.within]
  | .mark n, c, j => by
    simp only [Pa.mapA, times_within, putF, Pa.within]
    split <;> simp [Pl.within, Pa.within]
  | .got n, c, j => by
    simp only [Pa.mapA, times_within, putF, Pa.within]
    split <;> simp [Pl.within, Pa.within]
  | .letter d b, c, j => by
    have := Pl.put_len old o b j
    simp only [Pa.mapA, Pl.within, Pa.within, List.length_cons, List.length_append, List.length_nil, Nat.add_mul, Nat.one_mul]
    omega
  | .wait d b, c, j => by
    have := Pl.put_len old o b (j + 1)
    simp only [Pa.mapA, Pl.within, Pa.within, List.length_cons, List.length_append, List.length_nil, Nat.add_mul, Nat.one_mul]
    omega
theorem Pl.put_len (old : D) (o : Pl) : ∀ (p : Pl) (j : Nat), (p.mapA (putF old o) j).within.length ≤ p.within.length * (o.within.length + 1)
  | .nil, j => by simp [Pl.mapA, Pl.within]
  | .cons c p r, j => by
    have h1 := Pa.put_len old o p c j
    have h2 := Pl.put_len old o r j
    simp only [Pl.mapA, app_within, Pl.within, List.length_cons, List.length_append]
    rw [show (p.within.length + r.within.length + 1) * (o.within.length + 1) = (p.within.length + 1) * (o.within.length + 1) + r.within.length * (o.within.length + 1) by rw [← Nat.add_mul]; congr 1; omega]
    omega
end
theorem app_dep : ∀ p q : Pl, (p.app q).dep = max p.dep q.dep
  | .nil, q => by simp [Pl.app, Pl.dep]
  | .cons c p r, q => by simp only [Pl.app, Pl.dep, app_dep r q]; omega
theorem times_dep {c : Nat} : ∀ p : Pl, (p.times c).dep = p.dep
  | .nil => rfl
  | .cons n p r => by simp only [Pl.times, Pl.dep, times_dep r]
mutual
theorem Pa.put_dep (old : D) (o : Pl) : ∀ (p : Pa) (c j : Nat), (p.mapA (putF old o) j c).dep ≤ p.dep + o.dep
  | .name y, c, j => by
    simp only [Pa.mapA, times_dep, putF, Pa.dep]
    split <;> simp [Pl.dep, Pa.dep]
  | .mark n, c, j => by
    simp only [Pa.mapA, times_dep, putF, Pa.dep]
    split <;> simp [Pl.dep, Pa.dep]
  | .got n, c, j => by
    simp only [Pa.mapA, times_dep, putF, Pa.dep]
    split <;> simp [Pl.dep, Pa.dep]
  | .letter d b, c, j => by
    have := Pl.put_dep old o b j
    simp only [Pa.mapA, Pl.dep, Pa.dep]; omega
  | .wait d b, c, j => by
    have := Pl.put_dep old o b (j + 1)
    simp only [Pa.mapA, Pl.dep, Pa.dep]; omega
theorem Pl.put_dep (old : D) (o : Pl) : ∀ (p : Pl) (j : Nat), (p.mapA (putF old o) j).dep ≤ p.dep + o.dep
  | .nil, j => by simp [Pl.mapA, Pl.dep]
  | .cons c p r, j => by
    have h1 := Pa.put_dep old o p c j
    have h2 := Pl.put_dep old o r j
    simp only [Pl.mapA, app_dep, Pl.dep]; omega
end
/-- what a name or a mark is told by -/
def Old (old : D) : Prop := ∃ a b, old = .tup [a, b] ∧ a.dep = 0 ∧ b.dep = 0
theorem Old.room {old : D} (h : Old old) {rm : Nat} (hr : 1 ≤ rm) (l : List D) : gEq rm (.tup l) old = some (.dat (.bl ((D.tup l).eq old))) := by
  obtain ⟨a, b, rfl, h1, h2⟩ := h
  exact gEq_t (by simp [h1, h2]; omega)
theorem old_name (x : Str) : Old (.tup [.str "name", .str x]) := ⟨_, _, rfl, rfl, rfl⟩
theorem old_mark (j : Nat) : Old (.tup [.str "mark", .int j]) := ⟨_, _, rfl, rfl, rfl⟩
structure HasP (tbl : Nat → Option DefB) : Prop extends HasR tbl, HasZ tbl where
  t53 : tbl 53 = some ⟨1, 1, b_check_room⟩
  t56 : tbl 56 = some ⟨4, 4, fun C => sRet (b_replaced'clo C)⟩
  t58 : tbl 58 = some ⟨3, 3, b_replaced⟩
  t59 : tbl 59 = some ⟨1, 1, b_roomy⟩
  t61 : tbl 61 = some ⟨3, 5, b_roomy_replaced⟩
  t62 : tbl 62 = some ⟨1, 1, b_check_mark⟩
  t65 : tbl 65 = some ⟨3, 3, b_mark_put⟩
  t73 : tbl 73 = some ⟨3, 3, b_put⟩
theorem cls_cl : ∀ p : Pl, p.cls → p.cl
  | .nil, _ => trivial
  | .cons c p r, h => ⟨h.1, cls_cl r h.2.2⟩
theorem places_go {rm : Nat} {old P O S : D} {w : World} (ho : Old old) (hr : 1 ≤ rm) : ∀ l : List Pa, ∃ xs : List D, compGo (gN 4) (dTst (dBin (gEq rm) (dName 4) (dName 1))) (dName 4) [.dat P, .dat old, .dat O, .un, .un] (l.map Pa.d) w = .ok xs w ∧ xs.length ≤ l.length
  | [] => ⟨[], rfl, Nat.le_refl _⟩
  | p :: l => by
    obtain ⟨xs, e, h⟩ := places_go (S := S) ho hr l (P := P) (O := O) (w := w)
    have hq := ho.room hr p.l
    by_cases hp : (D.tup p.l).eq old = true
    · exact ⟨p.d :: xs, by simp [go_cons, Pa.d_l, hq, hp, e], by simpa using h⟩
    · exact ⟨xs, by simp [go_cons, Pa.d_l, hq, hp, e], by simp; omega⟩
section
variable {tbl : Nat → Option DefB} (T : HasP tbl)
include T
theorem act_put {old : D} {o : Pl} {w : World} (hold : Old old) (hw : allL w = true) (ho : o.ok 0 = true) (hc : o.cls) (hz : o.within.length < 16777216) : ActOk tbl (o.dep + 4) 56 [old, o.d] w (putF old o) := by
  intro p k n hp hn
  obtain ⟨m, rfl, hm⟩ := succ_of (k := o.dep + 3) hn
  rw [den_succ T.t56]
  have hq := hold.room (rm := (Den tbl m).room) (by rw [den_room]; omega) p.l
  have e := c_raised T.toHasR (a := k) (l := 0) (p := o) (n := m) hw hm hc hz
  rw [Pl.raised_ok k o 0 ho] at e
  simp only [Pl.d, Int.cast_ofNat_Int] at e
  by_cases h : (D.tup p.l).eq old = true
  · simp [runB, initE, toSl, b_replaced'clo, Pa.d_l, hq, h, e, putF]
  · simp [runB, initE, toSl, b_replaced'clo, Pa.d_l, hq, h, putF, Pl.ds]
/-- what a put needs: sizes -/
structure PutOk (o p : Pl) : Prop where
  p0 : p.ok 0 = true
  o0 : o.ok 0 = true
  ps : p.size < limN
  os : o.size < limN
  len : p.within.length * (o.within.length + 1) ≤ 5000
  dep : p.dep + o.dep ≤ 60
theorem c_replaced {old : D} {o p : Pl} {n : Nat} {w : World} (hold : Old old) (hw : allL w = true) (h : PutOk o p) (ow : o.within.length ≤ 5000) (hn : 110 ≤ n) : (Den tbl n).call 58 [.dat p.d, .dat old, .dat o.d] w = .ok (.dat (p.put old o).d) w := by
  obtain ⟨m, rfl, hm⟩ := succ_of (k := 109) hn
  rw [den_succ T.t58]
  have oc := (Pl.lim_size o 0 h.o0 h.os).2
  have pc := (Pl.lim_size p 0 h.p0 h.ps).2
  have big := limN_big
  have hl := Pl.put_len old o p 0
  have e := c_mapped T.toHasM hw (act_put T hold hw h.o0 oc (by omega)) (fun p k _ => by
    unfold putF
    split
    · exact cls_cl o oc
    · exact ⟨by omega, trivial⟩) p 0 m (by have := h.dep; omega) pc (by have := h.len; omega)
  simp only [Pl.d, Int.cast_ofNat_Int] at e
  simp [runB, initE, toSl, b_replaced, dClo, capsOf, cloK, hw, e, Pa.d]
theorem c_roomyRep {old : D} {o p : Pl} {n : Nat} {w : World} (hold : Old old) (hw : allL w = true) (h : PutOk o p) (pw : p.within.length ≤ 5000) (ow : o.within.length ≤ 5000) (hn : 120 ≤ n) : (Den tbl n).call 61 [.dat p.d, .dat old, .dat o.d] w = .ok (.dat (p.put old o).d) w := by
  obtain ⟨m, rfl, hm⟩ := succ_of (k := 119) hn
  obtain ⟨m', rfl, hm'⟩ := succ_of (k := 118) hm
  rw [den_succ T.t61]
  have hd := h.dep
  have hl := h.len
  have pl : (p.put old o).within.length ≤ p.within.length * (o.within.length + 1) := Pl.put_len old o p 0
  have pd : (p.put old o).dep ≤ p.dep + o.dep := Pl.put_dep old o p 0
  have e1 := c_within' T.toHasW p (m' + 1) w (by omega) (by omega)
  have e2 := c_items T.toHasI (p := p) (n := m' + 1) (w := w) (by omega) (by omega)
  have e3 := c_items T.toHasI (p := o) (n := m' + 1) (w := w) (by omega) (by omega)
  have e4 := c_replaced T hold hw h ow (n := m' + 1) (by omega)
  obtain ⟨xs, ex, xl⟩ := places_go (rm := (Den tbl (m' + 1)).room) (old := old) (P := p.d) (O := o.d) (S := p.d) (w := w) hold (by rw [den_room]; omega) p.within
  have room : ∀ (i : Int), i ≤ 5000 → ∀ k, 1 ≤ k → (Den tbl k).call 53 [.dat (.int i)] w = .ok (.dat .non) w := fun i hi k hk => by
    obtain ⟨k', rfl, _⟩ := succ_of (k := 0) hk
    rw [den_succ T.t53]
    have : ¬ (5000 : Int) < i := by omega
    simp [runB, initE, toSl, b_check_room, this]
  have e5 : (Den tbl (m' + 1)).call 59 [.dat (p.put old o).d] w = .ok (.dat (p.put old o).d) w := by
    rw [den_succ T.t59]
    have f1 := c_items T.toHasI (p := p.put old o) (n := m') (w := w) (by omega) (by omega)
    have f2 := c_nesting T.toHasI m' (p.put old o) w (by omega) (by omega)
    have f3 := room ((p.put old o).within.length) (by omega) m' (by omega)
    have f4 : ¬ (120 : Int) < ((p.put old o).dep : Int) := by omega
    generalize p.put old o = q at *
    simp only [Pl.d] at f1 f2
    simp [runB, initE, toSl, b_roomy, f1, f2, f3, f4]
  have hmul : mulOk (xs.length : Int) ((o.within.length : Int) - 1) = true := by
    have : xs.length < 18446744073709551616 := by
      have : xs.length ≤ p.within.length := by simpa using xl
      omega
    simp [mulOk, this]
  have hle : (p.within.length : Int) + (xs.length : Int) * ((o.within.length : Int) - 1) ≤ 5000 := by
    have a1 : (xs.length : Int) * ((o.within.length : Int) - 1) ≤ (xs.length : Int) * (o.within.length : Int) := Int.mul_le_mul_of_nonneg_left (by omega) (by omega)
    have a2 : xs.length * o.within.length ≤ p.within.length * o.within.length := Nat.mul_le_mul_right _ (by simpa using xl)
    have a3 : p.within.length * (o.within.length + 1) = p.within.length * o.within.length + p.within.length := by rw [Nat.mul_add, Nat.mul_one]
    have a4 : ((xs.length * o.within.length : Nat) : Int) = (xs.length : Int) * (o.within.length : Int) := by push_cast; rfl
    omega
  have f5 := room _ hle (m' + 1) (by omega)
  generalize p.put old o = q at *
  simp only [Pl.d] at e1 e2 e3 e4 e5 ex
  simp [runB, initE, toSl, b_roomy_replaced, e1, e2, e3, e4, e5, ex, hmul, f5]
theorem c_put {x : Str} {o p : Pl} {n : Nat} {w : World} (hx : wordB x = true) (hw : allL w = true) (h : PutOk o p) (pw : p.within.length ≤ 5000) (ow : o.within.length ≤ 5000) (hn : 150 ≤ n) : (Den tbl n).call 73 [.dat p.d, .dat (.str x), .dat o.d] w = .ok (.dat (p.put (.tup [.str "name", .str x]) o).d) w := by
  obtain ⟨m, rfl, hm⟩ := succ_of (k := 149) hn
  obtain ⟨m', rfl, hm'⟩ := succ_of (k := 148) hm
  rw [den_succ T.t73]
  have hd := h.dep
  have e1 := c_checkPlan T.toHasK (p := p) (n := m' + 1) (w := w) (by omega) h.p0
  have e2 := c_checkPlan T.toHasK (p := o) (n := m' + 1) (w := w) (by omega) h.o0
  have e3 : ∀ w, (Den tbl (m' + 1)).call 37 [.dat (.str x)] w = .ok (.dat .non) w := fun w => by
    rw [den_succ T.t37]
    simp [runB, initE, toSl, b_check_word, c_word T.toHasC (show 1 ≤ m' by omega), hx]
  have e4 := c_roomyRep T (old_name x) hw h pw ow (n := m' + 1) (by omega)
  generalize p.put (.tup [.str "name", .str x]) o = q at *
  simp only [Pl.d] at e1 e2 e4
  simp [runB, initE, toSl, b_put, e1, e2, e3, e4]
theorem c_markPut {j : Nat} {o p : Pl} {n : Nat} {w : World} (hw : allL w = true) (h : PutOk o p) (pw : p.within.length ≤ 5000) (ow : o.within.length ≤ 5000) (hn : 150 ≤ n) : (Den tbl n).call 65 [.dat p.d, .dat (.int j), .dat o.d] w = .ok (.dat (p.put (.tup [.str "mark", .int j]) o).d) w := by
  obtain ⟨m, rfl, hm⟩ := succ_of (k := 149) hn
  obtain ⟨m', rfl, hm'⟩ := succ_of (k := 148) hm
  rw [den_succ T.t65]
  have hd := h.dep
  have e1 := c_checkPlan T.toHasK (p := p) (n := m' + 1) (w := w) (by omega) h.p0
  have e2 := c_checkPlan T.toHasK (p := o) (n := m' + 1) (w := w) (by omega) h.o0
  have e3 : ∀ w, (Den tbl (m' + 1)).call 62 [.dat (.int j)] w = .ok (.dat .non) w := fun w => by
    rw [den_succ T.t62]
    have : ¬ (j : Int) < 0 := by omega
    simp [runB, initE, toSl, b_check_mark, c_integer T.toHasC (show 1 ≤ m' by omega), isI, this]
  have e4 := c_roomyRep T (old_mark j) hw h pw ow (n := m' + 1) (by omega)
  generalize p.put (.tup [.str "mark", .int j]) o = q at *
  simp only [Pl.d] at e1 e2 e4
  simp [runB, initE, toSl, b_mark_put, e1, e2, e3, e4]
end
end Dl
/-! Pl7z: letters, waits and puts again, with fewer rows. -/
namespace Dl
open PySem PySem.Spec PyProof.Rows L2 NdefX
structure HasPz (tbl : Nat → Option DefB) : Prop extends HasK tbl, HasR tbl where
  t37 : tbl 37 = some ⟨1, 1, b_check_word⟩
  t53 : tbl 53 = some ⟨1, 1, b_check_room⟩
  t56 : tbl 56 = some ⟨4, 4, fun C => sRet (b_replaced'clo C)⟩
  t58 : tbl 58 = some ⟨3, 3, b_replaced⟩
  t59 : tbl 59 = some ⟨1, 1, b_roomy⟩
  t61 : tbl 61 = some ⟨3, 5, b_roomy_replaced⟩
  t73 : tbl 73 = some ⟨3, 3, b_put⟩
structure HasMz (tbl : Nat → Option DefB) : Prop extends HasPz tbl where
  t62 : tbl 62 = some ⟨1, 1, b_check_mark⟩
  t65 : tbl 65 = some ⟨3, 3, b_mark_put⟩
structure HasLz (tbl : Nat → Option DefB) : Prop extends HasK tbl, HasM tbl where
  t37 : tbl 37 = some ⟨1, 1, b_check_word⟩
  t35 : tbl 35 = some ⟨1, 1, b_check_door⟩
  t36 : tbl 36 = some ⟨3, 3, b_bound_to⟩
  t44 : tbl 44 = some ⟨3, 3, b_wait⟩
  t50 : tbl 50 = some ⟨3, 3, fun C => sRet (b_bound_to'clo C)⟩
structure HasLe (tbl : Nat → Option DefB) : Prop extends HasK tbl where
  t35 : tbl 35 = some ⟨1, 1, b_check_door⟩
  t45 : tbl 45 = some ⟨2, 2, b_letter⟩
section
variable {tbl : Nat → Option DefB} (T : HasLe tbl)
include T
theorem c_letterZ {d : Str} {p : Pl} {n : Nat} {w : World} (hn : 2 * p.dep + 6 ≤ n) (hd : doorB d = true) (h : p.ok 0 = true) : (Den tbl n).call 45 [.dat (.str d), .dat p.d] w = .ok (.dat (Pl.cons 1 (.letter d p) .nil).d) w := by
  obtain ⟨m, rfl, hm⟩ := succ_of (k := 2 * p.dep + 5) hn
  obtain ⟨m', rfl, hm'⟩ := succ_of (k := 2) (n := m) (by omega)
  rw [den_succ T.t45]
  have e1 : ∀ w, (Den tbl (m' + 1)).call 35 [.dat (.str d)] w = .ok (.dat .non) w := fun w => by
    rw [den_succ T.t35]
    simp [runB, initE, toSl, b_check_door, c_door T.toHasC (show 2 ≤ m' by omega), hd]
  have e2 := c_checkPlan T.toHasK (p := p) (n := m' + 1) (w := w) hm h
  simp only [Pl.d] at e2
  simp [runB, initE, toSl, b_letter, e1, e2, Pl.ds, Pa.d]
end
section
variable {tbl : Nat → Option DefB} (T : HasLz tbl)
include T
theorem act_bindZ {x : Str} {w : World} : ActOk tbl 1 50 [.tup [.str "name", .str x]] w (bindF x) := by
  intro p k n hp hn
  obtain ⟨m, rfl, hm⟩ := succ_of (k := 0) hn
  rw [den_succ T.t50]
  have hq : ∀ l : List D, gEq (Den tbl m).room (.tup l) (.tup [.str "name", .str x]) = some (.dat (.bl ((D.tup l).eq (.tup [.str "name", .str x])))) := fun l => gEq_t (by rw [den_room]; simp)
  cases p with
  | name y => by_cases e : y = x <;> simp [runB, initE, toSl, b_bound_to'clo, Pa.d, hq, e, bindF, Pl.ds]
  | mark j => simp [runB, initE, toSl, b_bound_to'clo, Pa.d, hq, ne_1, bindF, Pl.ds]
  | got j => simp [runB, initE, toSl, b_bound_to'clo, Pa.d, hq, ne_2, bindF, Pl.ds]
  | letter d b => cases hp
  | wait d b => cases hp
theorem bind_clZ {x : Str} (p : Pa) (k : Nat) : (bindF x p k).cl := by
  have := limN_big
  have e : 2 ^ 64 = 18446744073709551616 := by decide
  cases p <;> exact ⟨by omega, trivial⟩
theorem c_boundZ {d x : Str} {p : Pl} {n : Nat} {w : World} (hw : allL w = true) (hn : p.dep + 3 ≤ n) (hp : p.cls) (hz : p.within.length < 16777216) : (Den tbl n).call 36 [.dat (.str d), .dat (.tup [.str "name", .str x]), .dat p.d] w = .ok (.dat (Pa.wait d (p.caught x 0)).d) w := by
  obtain ⟨m, rfl, hm⟩ := succ_of (k := p.dep + 2) hn
  rw [den_succ T.t36]
  have e := c_mapped T.toHasM hw (act_bindZ T (x := x) (w := w)) (fun p k _ => bind_clZ T p k) p 0 m (by omega) hp (by rw [Pl.mapA_bind, Pl.caught_len]; exact hz)
  rw [Pl.mapA_bind] at e
  simp only [Pl.d, Int.cast_ofNat_Int] at e
  simp [runB, initE, toSl, b_bound_to, dClo, capsOf, cloK, hw, e, Pa.d]
theorem c_waitZ {d x : Str} {p : Pl} {n : Nat} {w : World} (hw : allL w = true) (hn : 2 * p.dep + 6 ≤ n) (hd : doorB d = true) (hx : wordB x = true) (h : p.ok 0 = true) (hs : p.size < 16777216) : (Den tbl n).call 44 [.dat (.str d), .dat (.str x), .dat p.d] w = .ok (.dat (Pl.cons 1 (.wait d (p.caught x 0)) .nil).d) w := by
  obtain ⟨m, rfl, hm⟩ := succ_of (k := 2 * p.dep + 5) hn
  obtain ⟨m', rfl, hm'⟩ := succ_of (k := 2) (n := m) (by omega)
  rw [den_succ T.t44]
  have big := limN_big
  have e64 : 2 ^ 64 = 18446744073709551616 := by decide
  have hl := (Pl.lim_size p 0 h (by omega)).2
  have hz := Pl.within_size p 0 h
  have e1 : ∀ w, (Den tbl (m' + 1)).call 35 [.dat (.str d)] w = .ok (.dat .non) w := fun w => by
    rw [den_succ T.t35]
    simp [runB, initE, toSl, b_check_door, c_door T.toHasC (show 2 ≤ m' by omega), hd]
  have e2 : ∀ w, (Den tbl (m' + 1)).call 37 [.dat (.str x)] w = .ok (.dat .non) w := fun w => by
    rw [den_succ T.t37]
    simp [runB, initE, toSl, b_check_word, c_word T.toHasC (show 1 ≤ m' by omega), hx]
  have e3 := c_checkPlan T.toHasK (p := p) (n := m' + 1) (w := w) hm h
  have e4 := c_boundZ T (d := d) (x := x) (p := p) (n := m' + 1) hw (by omega) hl (by omega)
  simp only [Pl.d] at e3 e4
  simp [runB, initE, toSl, b_wait, e1, e2, e3, e4, Pl.ds]
end
section
variable {tbl : Nat → Option DefB} (T : HasPz tbl)
include T
theorem act_putZ {old : D} {o : Pl} {w : World} (hold : Old old) (hw : allL w = true) (ho : o.ok 0 = true) (hc : o.cls) (hz : o.within.length < 16777216) : ActOk tbl (o.dep + 4) 56 [old, o.d] w (putF old o) := by
  intro p k n hp hn
  obtain ⟨m, rfl, hm⟩ := succ_of (k := o.dep + 3) hn
  rw [den_succ T.t56]
  have hq := hold.room (rm := (Den tbl m).room) (by rw [den_room]; omega) p.l
  have e := c_raised T.toHasR (a := k) (l := 0) (p := o) (n := m) hw hm hc hz
  rw [Pl.raised_ok k o 0 ho] at e
  simp only [Pl.d, Int.cast_ofNat_Int] at e
  by_cases h : (D.tup p.l).eq old = true
  · simp [runB, initE, toSl, b_replaced'clo, Pa.d_l, hq, h, e, putF]
  · simp [runB, initE, toSl, b_replaced'clo, Pa.d_l, hq, h, putF, Pl.ds]
theorem c_replacedZ {old : D} {o p : Pl} {n : Nat} {w : World} (hold : Old old) (hw : allL w = true) (h : PutOk o p) (ow : o.within.length ≤ 5000) (hn : 110 ≤ n) : (Den tbl n).call 58 [.dat p.d, .dat old, .dat o.d] w = .ok (.dat (p.put old o).d) w := by
  obtain ⟨m, rfl, hm⟩ := succ_of (k := 109) hn
  rw [den_succ T.t58]
  have oc := (Pl.lim_size o 0 h.o0 h.os).2
  have pc := (Pl.lim_size p 0 h.p0 h.ps).2
  have big := limN_big
  have hl := Pl.put_len old o p 0
  have e := c_mapped T.toHasM hw (act_putZ T hold hw h.o0 oc (by omega)) (fun p k _ => by
    unfold putF
    split
    · exact cls_cl o oc
    · exact ⟨by omega, trivial⟩) p 0 m (by have := h.dep; omega) pc (by have := h.len; omega)
  simp only [Pl.d, Int.cast_ofNat_Int] at e
  simp [runB, initE, toSl, b_replaced, dClo, capsOf, cloK, hw, e, Pa.d]
theorem c_roomyRepZ {old : D} {o p : Pl} {n : Nat} {w : World} (hold : Old old) (hw : allL w = true) (h : PutOk o p) (pw : p.within.length ≤ 5000) (ow : o.within.length ≤ 5000) (hn : 120 ≤ n) : (Den tbl n).call 61 [.dat p.d, .dat old, .dat o.d] w = .ok (.dat (p.put old o).d) w := by
  obtain ⟨m, rfl, hm⟩ := succ_of (k := 119) hn
  obtain ⟨m', rfl, hm'⟩ := succ_of (k := 118) hm
  rw [den_succ T.t61]
  have hd := h.dep
  have hl := h.len
  have pl : (p.put old o).within.length ≤ p.within.length * (o.within.length + 1) := Pl.put_len old o p 0
  have pd : (p.put old o).dep ≤ p.dep + o.dep := Pl.put_dep old o p 0
  have e1 := c_within' T.toHasW p (m' + 1) w (by omega) (by omega)
  have e2 := c_items T.toHasI (p := p) (n := m' + 1) (w := w) (by omega) (by omega)
  have e3 := c_items T.toHasI (p := o) (n := m' + 1) (w := w) (by omega) (by omega)
  have e4 := c_replacedZ T hold hw h ow (n := m' + 1) (by omega)
  obtain ⟨xs, ex, xl⟩ := places_go (rm := (Den tbl (m' + 1)).room) (old := old) (P := p.d) (O := o.d) (S := p.d) (w := w) hold (by rw [den_room]; omega) p.within
  have room : ∀ (i : Int), i ≤ 5000 → ∀ k, 1 ≤ k → (Den tbl k).call 53 [.dat (.int i)] w = .ok (.dat .non) w := fun i hi k hk => by
    obtain ⟨k', rfl, _⟩ := succ_of (k := 0) hk
    rw [den_succ T.t53]
    have : ¬ (5000 : Int) < i := by omega
    simp [runB, initE, toSl, b_check_room, this]
  have e5 : (Den tbl (m' + 1)).call 59 [.dat (p.put old o).d] w = .ok (.dat (p.put old o).d) w := by
    rw [den_succ T.t59]
    have f1 := c_items T.toHasI (p := p.put old o) (n := m') (w := w) (by omega) (by omega)
    have f2 := c_nesting T.toHasI m' (p.put old o) w (by omega) (by omega)
    have f3 := room ((p.put old o).within.length) (by omega) m' (by omega)
    have f4 : ¬ (120 : Int) < ((p.put old o).dep : Int) := by omega
    generalize p.put old o = q at *
    simp only [Pl.d] at f1 f2
    simp [runB, initE, toSl, b_roomy, f1, f2, f3, f4]
  have hmul : mulOk (xs.length : Int) ((o.within.length : Int) - 1) = true := by
    have : xs.length < 18446744073709551616 := by
      have : xs.length ≤ p.within.length := by simpa using xl
      omega
    simp [mulOk, this]
  have hle : (p.within.length : Int) + (xs.length : Int) * ((o.within.length : Int) - 1) ≤ 5000 := by
    have a1 : (xs.length : Int) * ((o.within.length : Int) - 1) ≤ (xs.length : Int) * (o.within.length : Int) := Int.mul_le_mul_of_nonneg_left (by omega) (by omega)
    have a2 : xs.length * o.within.length ≤ p.within.length * o.within.length := Nat.mul_le_mul_right _ (by simpa using xl)
    have a3 : p.within.length * (o.within.length + 1) = p.within.length * o.within.length + p.within.length := by rw [Nat.mul_add, Nat.mul_one]
    have a4 : ((xs.length * o.within.length : Nat) : Int) = (xs.length : Int) * (o.within.length : Int) := by push_cast; rfl
    omega
  have f5 := room _ hle (m' + 1) (by omega)
  generalize p.put old o = q at *
  simp only [Pl.d] at e1 e2 e3 e4 e5 ex
  simp [runB, initE, toSl, b_roomy_replaced, e1, e2, e3, e4, e5, ex, hmul, f5]
theorem c_putZ {x : Str} {o p : Pl} {n : Nat} {w : World} (hx : wordB x = true) (hw : allL w = true) (h : PutOk o p) (pw : p.within.length ≤ 5000) (ow : o.within.length ≤ 5000) (hn : 150 ≤ n) : (Den tbl n).call 73 [.dat p.d, .dat (.str x), .dat o.d] w = .ok (.dat (p.put (.tup [.str "name", .str x]) o).d) w := by
  obtain ⟨m, rfl, hm⟩ := succ_of (k := 149) hn
  obtain ⟨m', rfl, hm'⟩ := succ_of (k := 148) hm
  rw [den_succ T.t73]
  have hd := h.dep
  have e1 := c_checkPlan T.toHasK (p := p) (n := m' + 1) (w := w) (by omega) h.p0
  have e2 := c_checkPlan T.toHasK (p := o) (n := m' + 1) (w := w) (by omega) h.o0
  have e3 : ∀ w, (Den tbl (m' + 1)).call 37 [.dat (.str x)] w = .ok (.dat .non) w := fun w => by
    rw [den_succ T.t37]
    simp [runB, initE, toSl, b_check_word, c_word T.toHasC (show 1 ≤ m' by omega), hx]
  have e4 := c_roomyRepZ T (old_name x) hw h pw ow (n := m' + 1) (by omega)
  generalize p.put (.tup [.str "name", .str x]) o = q at *
  simp only [Pl.d] at e1 e2 e4
  simp [runB, initE, toSl, b_put, e1, e2, e3, e4]
end
section
variable {tbl : Nat → Option DefB} (T : HasMz tbl)
include T
theorem c_markPutZ {j : Nat} {o p : Pl} {n : Nat} {w : World} (hw : allL w = true) (h : PutOk o p) (pw : p.within.length ≤ 5000) (ow : o.within.length ≤ 5000) (hn : 150 ≤ n) : (Den tbl n).call 65 [.dat p.d, .dat (.int j), .dat o.d] w = .ok (.dat (p.put (.tup [.str "mark", .int j]) o).d) w := by
  obtain ⟨m, rfl, hm⟩ := succ_of (k := 149) hn
  obtain ⟨m', rfl, hm'⟩ := succ_of (k := 148) hm
  rw [den_succ T.t65]
  have hd := h.dep
  have e1 := c_checkPlan T.toHasK (p := p) (n := m' + 1) (w := w) (by omega) h.p0
  have e2 := c_checkPlan T.toHasK (p := o) (n := m' + 1) (w := w) (by omega) h.o0
  have e3 : ∀ w, (Den tbl (m' + 1)).call 62 [.dat (.int j)] w = .ok (.dat .non) w := fun w => by
    rw [den_succ T.t62]
    have : ¬ (j : Int) < 0 := by omega
    simp [runB, initE, toSl, b_check_mark, c_integer T.toHasC (show 1 ≤ m' by omega), isI, this]
  have e4 := c_roomyRepZ T.toHasPz (old_mark j) hw h pw ow (n := m' + 1) (by omega)
  generalize p.put (.tup [.str "mark", .int j]) o = q at *
  simp only [Pl.d] at e1 e2 e4
  simp [runB, initE, toSl, b_mark_put, e1, e2, e3, e4]
end
end Dl
/-! Pl8: plans as lists of items; steps. -/
namespace Dl
open PySem PySem.Spec PyProof.Rows L2 NdefX
abbrev It : Type := Nat × Pa
def Pl.L : Pl → List It
  | .nil => []
  | .cons c p r => (c, p) :: r.L
def ofL : List It → Pl
  | [] => .nil
  | (c, p) :: r => .cons c p (ofL r)
@[simp] theorem ofL_L : ∀ p : Pl, ofL p.L = p
  | .nil => rfl
  | .cons c p r => by simp [Pl.L, ofL, ofL_L r]
@[simp] theorem L_ofL : ∀ l : List It, (ofL l).L = l
  | [] => rfl
  | (c, p) :: r => by simp [Pl.L, ofL, L_ofL r]
def itD (i : It) : D := .tup [.int i.1, i.2.d]
theorem ds_L : ∀ p : Pl, p.ds = p.L.map itD
  | .nil => rfl
  | .cons c p r => by simp [Pl.ds, Pl.L, ds_L r, itD]
theorem ds_ofL (l : List It) : (ofL l).ds = l.map itD := by rw [ds_L, L_ofL]
theorem app_L : ∀ p q : Pl, (p.app q).L = p.L ++ q.L
  | .nil, q => rfl
  | .cons c p r, q => by simp [Pl.app, Pl.L, app_L r q]
/-! sums over items -/
def szL (l : List It) : Nat := (l.map fun i => i.1 * i.2.size).sum
theorem size_L : ∀ p : Pl, p.size = szL p.L
  | .nil => rfl
  | .cons c p r => by simp [Pl.size, Pl.L, szL, size_L r]
theorem size_ofL (l : List It) : (ofL l).size = szL l := by rw [size_L, L_ofL]
@[simp] theorem szL_app (a b : List It) : szL (a ++ b) = szL a + szL b := by simp [szL]
@[simp] theorem szL_cons (i : It) (b : List It) : szL (i :: b) = i.1 * i.2.size + szL b := by simp [szL]
@[simp] theorem szL_nil : szL [] = 0 := rfl
def okI (k : Nat) (i : It) : Bool := decide (1 ≤ i.1) && i.2.ok k
theorem ok_L (k : Nat) : ∀ p : Pl, p.ok k = p.L.all (okI k)
  | .nil => by simp [Pl.ok, Pl.L]
  | .cons c p r => by simp [Pl.ok, Pl.L, okI, ok_L k r]
theorem ok_ofL (k : Nat) (l : List It) : (ofL l).ok k = l.all (okI k) := by rw [ok_L, L_ofL]
def wiL (l : List It) : Nat := (l.map fun i => 1 + i.2.within.length).sum
theorem within_L : ∀ p : Pl, p.within.length = wiL p.L
  | .nil => rfl
  | .cons c p r => by simp [Pl.within, Pl.L, wiL, within_L r]; omega
@[simp] theorem wiL_app (a b : List It) : wiL (a ++ b) = wiL a + wiL b := by simp [wiL]
@[simp] theorem wiL_cons (i : It) (b : List It) : wiL (i :: b) = 1 + i.2.within.length + wiL b := by simp [wiL]
@[simp] theorem wiL_nil : wiL [] = 0 := rfl
def deL : List It → Nat
  | [] => 0
  | i :: r => max i.2.dep (deL r)
theorem dep_L : ∀ p : Pl, p.dep = deL p.L
  | .nil => rfl
  | .cons c p r => by simp [Pl.dep, Pl.L, deL, dep_L r]
theorem deL_app : ∀ a b : List It, deL (a ++ b) = max (deL a) (deL b)
  | [], b => by simp [deL]
  | i :: a, b => by simp only [List.cons_append, deL, deL_app a b]; omega
theorem dep_ofL (l : List It) : (ofL l).dep = deL l := by rw [dep_L, L_ofL]
theorem within_ofL (l : List It) : (ofL l).within.length = wiL l := by rw [within_L, L_ofL]
/-! raising by one for a wait more round about -/
abbrev Pl.up (p : Pl) : Pl := p.raised 1 1 0
mutual
theorem Pa.raised_size (a l : Nat) : ∀ (p : Pa) (k : Nat), (p.raised a l k).size = p.size
  | .name y, k => rfl
  | .mark n, k => rfl
  | .got n, k => by by_cases h : k + l ≤ n <;> simp [Pa.raised, h, Pa.size]
  | .letter d b, k => by simp [Pa.raised, Pa.size, Pl.raised_size a l b k]
  | .wait d b, k => by simp [Pa.raised, Pa.size, Pl.raised_size a l b (k + 1)]
theorem Pl.raised_size (a l : Nat) : ∀ (p : Pl) (k : Nat), (p.raised a l k).size = p.size
  | .nil, k => rfl
  | .cons c p r, k => by simp [Pl.raised, Pl.size, Pa.raised_size a l p k, Pl.raised_size a l r k]
end
mutual
theorem Pa.raised_dep (a l : Nat) : ∀ (p : Pa) (k : Nat), (p.raised a l k).dep = p.dep
  | .name y, k => rfl
  | .mark n, k => rfl
  | .got n, k => by by_cases h : k + l ≤ n <;> simp [Pa.raised, h, Pa.dep]
  | .letter d b, k => by simp [Pa.raised, Pa.dep, Pl.raised_dep a l b k]
  | .wait d b, k => by simp [Pa.raised, Pa.dep, Pl.raised_dep a l b (k + 1)]
theorem Pl.raised_dep (a l : Nat) : ∀ (p : Pl) (k : Nat), (p.raised a l k).dep = p.dep
  | .nil, k => rfl
  | .cons c p r, k => by simp [Pl.raised, Pl.dep, Pa.raised_dep a l p k, Pl.raised_dep a l r k]
end
mutual
theorem Pa.up_ok : ∀ (p : Pa) (k m : Nat), p.ok m = true → (p.raised 1 1 k).ok (m + 1) = true
  | .name y, k, m, h => h
  | .mark n, k, m, h => h
  | .got n, k, m, h => by
    simp [Pa.ok] at h
    by_cases h2 : k + 1 ≤ n <;> simp [Pa.raised, h2, Pa.ok] <;> omega
  | .letter d b, k, m, h => by
    simp only [Pa.ok, Bool.and_eq_true] at h
    simp [Pa.raised, Pa.ok, h.1, Pl.up_ok b k m h.2]
  | .wait d b, k, m, h => by
    simp only [Pa.ok, Bool.and_eq_true] at h
    simp [Pa.raised, Pa.ok, h.1, Pl.up_ok b (k + 1) (m + 1) h.2]
theorem Pl.up_ok : ∀ (p : Pl) (k m : Nat), p.ok m = true → (p.raised 1 1 k).ok (m + 1) = true
  | .nil, k, m, h => by simp [Pl.raised, Pl.ok]
  | .cons c p r, k, m, h => by
    simp only [Pl.ok, Bool.and_eq_true] at h
    simp only [decide_eq_true_eq] at h
    simp [Pl.raised, Pl.ok, h.1.1, Pa.up_ok p k m h.1.2, Pl.up_ok r k m h.2]
end
/-! ### equality of parts -/
theorem int_inj {i j : Int} (h : D.int i = D.int j) : i = j := by injection h
theorem str_inj {i j : Str} (h : D.str i = D.str j) : i = j := by injection h
mutual
theorem Pa.eq_iff : ∀ p q : Pa, p.d.eq q.d = true ↔ p = q
  | .name x, q => by cases q <;> simp [Pa.d, ne_14, ne_18, ne_6, ne_7]
  | .mark x, q => by cases q <;> simp [Pa.d, ne_1, ne_15, ne_8, ne_9] <;> omega
  | .got x, q => by cases q <;> simp [Pa.d, ne_2, ne_3, ne_10, ne_11] <;> omega
  | .letter x b, q => by
    cases q with
    | letter y c => have := Pl.eq_iff b c; simp [Pa.d, this]
    | wait y c => simp [Pa.d, ne_4]
    | name y => simp [Pa.d]
    | mark y => simp [Pa.d]
    | got y => simp [Pa.d]
  | .wait x b, q => by
    cases q with
    | wait y c => have := Pl.eq_iff b c; simp [Pa.d, this]
    | letter y c => simp [Pa.d, ne_5]
    | name y => simp [Pa.d]
    | mark y => simp [Pa.d]
    | got y => simp [Pa.d]
theorem Pl.eq_iff : ∀ p q : Pl, (D.tup p.ds).eq (.tup q.ds) = true ↔ p = q
  | .nil, q => by cases q <;> simp [Pl.ds]
  | .cons c p r, q => by
    cases q with
    | nil => simp [Pl.ds]
    | cons c' p' r' =>
      have h1 := Pa.eq_iff p p'
      have h2 := Pl.eq_iff r r'
      simp only [Pl.ds, eqt_cc, eqt_nn, eq_ii, Bool.and_true, Bool.and_eq_true, decide_eq_true_eq, h1, h2, Pl.cons.injEq]
      constructor
      · rintro ⟨⟨h, h'⟩, h''⟩; exact ⟨by omega, h', h''⟩
      · rintro ⟨h, h', h''⟩; exact ⟨⟨by omega, h'⟩, h''⟩
end
/-! ### steps -/
inductive Mv where
  | swap (i : Nat) | join (i : Nat) | split (i k : Nat) | fold (i : Nat) | unfold (i k : Nat)
def beqP (p q : Pa) : Bool := p.d.eq q.d
theorem beqP_iff {p q : Pa} : beqP p q = true ↔ p = q := Pa.eq_iff p q
/-- what stands in place of the items -/
def mid : It → Option It → Mv → Option (List It)
  | a, some b, .swap _ => some [b, a]
  | a, some b, .join _ => if beqP b.2 a.2 = true then some [(a.1 + b.1, a.2)] else none
  | a, _, .split _ k => if 1 ≤ k ∧ k < a.1 then some [(k, a.2), (a.1 - k, a.2)] else none
  | (c, .wait x b), _, .unfold _ k => if 2 ≤ k ∧ c % k = 0 then some [(c / k, .wait x (b.app (.cons (k - 1) (.wait x b.up) .nil)))] else none
  | (c, .wait x b), _, .fold _ => (match b.L.reverse with
    | (m, q) :: r => if beqP q (.wait x (ofL r.reverse).up) = true then some [(c * (m + 1), .wait x (ofL r.reverse))] else none
    | [] => none)
  | _, _, _ => none
def Mv.at_ : Mv → Nat
  | .swap i => i
  | .join i => i
  | .split i _ => i
  | .fold i => i
  | .unfold i _ => i
def Mv.wide : Mv → Nat
  | .swap _ => 2
  | .join _ => 2
  | _ => 1
def here (l : List It) (s : Mv) : Option (List It) := match l[s.at_]? with
  | some a => (mid a l[s.at_ + 1]? s).map fun m => l.take s.at_ ++ m ++ l.drop (s.at_ + s.wide)
  | none => none
def within1 : Pa → Option (Pl × (Pl → Pa))
  | .letter x b => some (b, .letter x)
  | .wait x b => some (b, .wait x)
  | _ => none
def stepAt : Pl → List Nat → Mv → Option Pl
  | p, [], s => (here p.L s).map ofL
  | p, i :: pl, s => match p.L[i]? with
    | some (c, q) => (match within1 q with
      | some (b, f) => (stepAt b pl s).map fun b' => ofL (p.L.take i ++ (c, f b') :: p.L.drop (i + 1))
      | none => none)
    | none => none
def undoS (l : List It) : Mv → Mv
  | .swap i => .swap i
  | .join i => .split i ((l[i]?.map (·.1)).getD 0)
  | .split i _ => .join i
  | .unfold i _ => .fold i
  | .fold i => .unfold i (1 + (match l[i]? with
    | some (_, .wait _ b) => (b.L.getLast?.map (·.1)).getD 0
    | _ => 0))
def undoAt : Pl → List Nat → Mv → Mv
  | p, [], s => undoS p.L s
  | p, i :: pl, s => match p.L[i]? with
    | some (_, q) => (match within1 q with
      | some (b, _) => undoAt b pl s
      | none => s)
    | none => s
/-- cut around a place -/
theorem cut_at {α : Type} {l : List α} {i : Nat} {a : α} (h : l[i]? = some a) : l = l.take i ++ a :: l.drop (i + 1) ∧ (l.take i).length = i := by
  obtain ⟨hi, e⟩ := List.getElem?_eq_some_iff.mp h
  refine ⟨?_, by simp; omega⟩
  rw [← e, List.getElem_cons_drop, List.take_append_drop]
theorem cut_at2 {α : Type} {l : List α} {i : Nat} {a b : α} (h : l[i]? = some a) (h2 : l[i + 1]? = some b) : l = l.take i ++ a :: b :: l.drop (i + 2) ∧ (l.take i).length = i := by
  obtain ⟨e, hl⟩ := cut_at h
  obtain ⟨hi, e2⟩ := List.getElem?_eq_some_iff.mp h2
  refine ⟨?_, hl⟩
  have : l.drop (i + 1) = b :: l.drop (i + 2) := by rw [← e2, List.getElem_cons_drop]
  rw [this] at e
  exact e
end Dl
/-! Pf1: the keys of parts, their order. -/
namespace Dl
open PySem PySem.Spec PyProof.Rows L2 NdefX
mutual
def Pa.key : Pa → D
  | .name x => .tup [.int 1, .int 0, .str x, .tup []]
  | .mark n => .tup [.int 1, .int 1, .int n, .tup []]
  | .got n => .tup [.int 1, .int 2, .int n, .tup []]
  | .letter x b => .tup [.int ((b.size + 1 : Nat) : Int), .int 3, .str x, .tup b.keys]
  | .wait x b => .tup [.int ((b.size + 1 : Nat) : Int), .int 4, .str x, .tup b.keys]
def Pl.keys : Pl → List D
  | .nil => []
  | .cons c p r => .tup [p.key, .int c] :: r.keys
end
/-- two data as sorting sees them: e, they are one; otherwise the one is less -/
def Cmp (x y : PyData) (e : Prop) : Prop := (e ∧ PyData.eqv x y = true ∧ PyData.eqv y x = true ∧ pLt x y = some false ∧ pLt y x = some false) ∨
  (¬ e ∧ PyData.eqv x y = false ∧ PyData.eqv y x = false ∧ ((pLt x y = some true ∧ pLt y x = some false) ∨ (pLt x y = some false ∧ pLt y x = some true)))
def CmpS (x y : List PyData) (e : Prop) : Prop := (e ∧ PyData.eqvAll x y = true ∧ PyData.eqvAll y x = true ∧ pLts x y = some false ∧ pLts y x = some false) ∨
  (¬ e ∧ PyData.eqvAll x y = false ∧ PyData.eqvAll y x = false ∧ ((pLts x y = some true ∧ pLts y x = some false) ∨ (pLts x y = some false ∧ pLts y x = some true)))
theorem Cmp.iff {x y : PyData} {a b : Prop} (h : Cmp x y a) (e : a ↔ b) : Cmp x y b := by
  rcases h with ⟨h1, h2⟩ | ⟨h1, h2⟩
  · exact .inl ⟨e.mp h1, h2⟩
  · exact .inr ⟨fun z => h1 (e.mpr z), h2⟩
theorem CmpS.iff {x y : List PyData} {a b : Prop} (h : CmpS x y a) (e : a ↔ b) : CmpS x y b := by
  rcases h with ⟨h1, h2⟩ | ⟨h1, h2⟩
  · exact .inl ⟨e.mp h1, h2⟩
  · exact .inr ⟨fun z => h1 (e.mpr z), h2⟩
theorem cmp_tuple {xs ys : List PyData} {e : Prop} (h : CmpS xs ys e) : Cmp (.tuple xs) (.tuple ys) e := by
  rcases h with ⟨h1, h2, h3, h4, h5⟩ | ⟨h1, h2, h3, h4⟩
  · exact .inl ⟨h1, by simpa [PyData.eqv] using h2, by simpa [PyData.eqv] using h3, by simpa [pLt] using h4, by simpa [pLt] using h5⟩
  · exact .inr ⟨h1, by simpa [PyData.eqv] using h2, by simpa [PyData.eqv] using h3, by simpa [pLt] using h4⟩
theorem cmpS_nil : CmpS [] [] True := .inl ⟨trivial, rfl, rfl, rfl, rfl⟩
theorem cmpS_nc {y : PyData} {ys : List PyData} : CmpS [] (y :: ys) False := .inr ⟨id, rfl, rfl, .inl ⟨rfl, rfl⟩⟩
theorem cmpS_cn {y : PyData} {ys : List PyData} : CmpS (y :: ys) [] False := .inr ⟨id, rfl, rfl, .inr ⟨rfl, rfl⟩⟩
theorem cmpS_cons {x y : PyData} {xs ys : List PyData} {a b : Prop} (h : Cmp x y a) (t : a → CmpS xs ys b) : CmpS (x :: xs) (y :: ys) (a ∧ b) := by
  rcases h with ⟨h1, h2, h3, h4, h5⟩ | ⟨h1, h2, h3, h4⟩
  · rcases t h1 with ⟨g1, g2, g3, g4, g5⟩ | ⟨g1, g2, g3, g4⟩
    · exact .inl ⟨⟨h1, g1⟩, by simp [PyData.eqvAll, h2, g2], by simp [PyData.eqvAll, h3, g3], by simp [pLts, h2, g4], by simp [pLts, h3, g5]⟩
    · exact .inr ⟨fun z => g1 z.2, by simp [PyData.eqvAll, g2], by simp [PyData.eqvAll, g3], by simpa [pLts, h2, h3] using g4⟩
  · exact .inr ⟨fun z => h1 z.1, by simp [PyData.eqvAll, h2], by simp [PyData.eqvAll, h3], by simpa [pLts, h2, h3] using h4⟩
theorem cmp_int {i j : Int} : Cmp (.int i) (.int j) (i = j) := by
  by_cases h : i = j
  · subst h
    exact .inl ⟨rfl, by simp [PyData.eqv], by simp [PyData.eqv], by simp [pLt], by simp [pLt]⟩
  · have h' : ¬ j = i := fun z => h z.symm
    refine .inr ⟨h, by simp [PyData.eqv, h], by simp [PyData.eqv, h'], ?_⟩
    by_cases q : i < j
    · have : ¬ j < i := by omega
      exact .inl ⟨by simp [pLt, q], by simp [pLt]; omega⟩
    · have : j < i := by omega
      exact .inr ⟨by simp [pLt]; omega, by simp [pLt, this]⟩
theorem cmp_str {x y : Str} : Cmp (.str x) (.str y) (x = y) := by
  have irr : ∀ l : List Nat, ¬ l < l := fun l => List.lt_irrefl l
  by_cases h : x = y
  · subst h
    exact .inl ⟨rfl, by simp [PyData.eqv], by simp [PyData.eqv], by simp [pLt, irr], by simp [pLt, irr]⟩
  · have h' : ¬ y = x := fun z => h z.symm
    refine .inr ⟨h, by simp [PyData.eqv, h], by simp [PyData.eqv, h'], ?_⟩
    by_cases q : x.cps.toList < y.cps.toList
    · have : ¬ y.cps.toList < x.cps.toList := fun z => irr _ (List.lt_trans q z)
      exact .inl ⟨by simp only [pLt, q, decide_true], by simp only [pLt, this, decide_false]⟩
    · have : y.cps.toList < x.cps.toList := by
        refine Classical.byContradiction fun z => h ?_
        have e := List.le_antisymm (List.not_lt.mp z) (List.not_lt.mp q)
        obtain ⟨⟨a⟩⟩ := x
        obtain ⟨⟨b⟩⟩ := y
        simp only at e
        rw [e]
      exact .inr ⟨by simp only [pLt, q, decide_false], by simp only [pLt, this, decide_true]⟩
theorem cmp_none {s1 s2 r1 r2 : Int} {k l : List PyData} (h : r1 ≠ r2) : Cmp (.tuple (.int s1 :: .int r1 :: k)) (.tuple (.int s2 :: .int r2 :: l)) False :=
  (cmp_tuple (cmpS_cons cmp_int fun _ => cmpS_cons (b := False) cmp_int fun z => absurd z h)).iff (by simp)
theorem cmp_leaf {s r : Int} {x y : PyData} {e : Prop} (h : Cmp x y e) : Cmp (.tuple [.int s, .int r, x, .tuple []]) (.tuple [.int s, .int r, y, .tuple []]) e :=
  (cmp_tuple (cmpS_cons cmp_int fun _ => cmpS_cons cmp_int fun _ => cmpS_cons h fun _ => cmpS_cons (cmp_tuple cmpS_nil) fun _ => cmpS_nil)).iff (by simp)
theorem cmp_body {s1 s2 : Int} {r : Int} {x y : Str} {k l : List PyData} {e : Prop} (h : CmpS k l e) (hs : e → s1 = s2) : Cmp (.tuple [.int s1, .int r, .str x, .tuple k]) (.tuple [.int s2, .int r, .str y, .tuple l]) (x = y ∧ e) :=
  (cmp_tuple (cmpS_cons cmp_int fun _ => cmpS_cons cmp_int fun _ => cmpS_cons cmp_str fun _ => cmpS_cons (cmp_tuple h) fun _ => cmpS_nil)).iff ⟨fun z => ⟨z.2.2.1, z.2.2.2.1⟩, fun z => ⟨hs z.2, rfl, z.1, z.2, trivial⟩⟩
mutual
theorem Pa.cmp : ∀ p q : Pa, Cmp p.key.py q.key.py (p = q)
  | .name x, q => by
    cases q with
    | name y => exact (cmp_leaf cmp_str).iff (by simp)
    | _ => exact (cmp_none (by decide)).iff (by simp)
  | .mark x, q => by
    cases q with
    | mark y => exact (cmp_leaf cmp_int).iff (by simp; omega)
    | _ => exact (cmp_none (by decide)).iff (by simp)
  | .got x, q => by
    cases q with
    | got y => exact (cmp_leaf cmp_int).iff (by simp; omega)
    | _ => exact (cmp_none (by decide)).iff (by simp)
  | .letter x b, q => by
    cases q with
    | letter y c => exact (cmp_body (Pl.cmp b c) (fun z => by rw [z])).iff (by simp)
    | _ => exact (cmp_none (by decide)).iff (by simp)
  | .wait x b, q => by
    cases q with
    | wait y c => exact (cmp_body (Pl.cmp b c) (fun z => by rw [z])).iff (by simp)
    | _ => exact (cmp_none (by decide)).iff (by simp)
theorem Pl.cmp : ∀ a b : Pl, CmpS (D.pyAll a.keys) (D.pyAll b.keys) (a = b)
  | .nil, b => by
    cases b with
    | nil => exact cmpS_nil.iff (by simp)
    | cons c p r => exact cmpS_nc.iff (by simp)
  | .cons c p r, b => by
    cases b with
    | nil => exact cmpS_cn.iff (by simp)
    | cons d q s => exact (cmpS_cons (cmp_tuple (cmpS_cons (Pa.cmp p q) fun _ => cmpS_cons (cmp_int (i := c) (j := d)) fun _ => cmpS_nil)) fun _ => Pl.cmp r s).iff ⟨fun ⟨⟨h1, h2, _⟩, h3⟩ => by rw [h1, Int.ofNat_inj.mp h2, h3], fun z => by cases z; exact ⟨⟨rfl, rfl, trivial⟩, rfl⟩⟩
end
theorem key_tup (p : Pa) : ∃ r, p.key.py = .tuple (.int (p.size : Int) :: r) := by
  cases p <;> exact ⟨_, rfl⟩
/-- sorting puts p ahead of q -/
def klt (p q : Pa) : Bool := tokLt p.key.py q.key.py
theorem klt_of {p q : Pa} {k : Bool} (h : pLt p.key.py q.key.py = some k) : klt p q = k := by
  obtain ⟨r, e1⟩ := key_tup p
  obtain ⟨s, e2⟩ := key_tup q
  unfold klt
  rw [e1, e2] at h ⊢
  exact pLt_tok h
theorem klt_self (p : Pa) : klt p p = false := by
  rcases Pa.cmp p p with ⟨_, _, _, h, _⟩ | ⟨h, _⟩
  · exact klt_of h
  · exact absurd rfl h
theorem klt_tri (p q : Pa) : p = q ∨ (klt p q = true ∧ klt q p = false) ∨ (klt p q = false ∧ klt q p = true) := by
  rcases Pa.cmp p q with ⟨h, _⟩ | ⟨_, _, _, h | h⟩
  · exact .inl h
  · exact .inr (.inl ⟨klt_of h.1, klt_of h.2⟩)
  · exact .inr (.inr ⟨klt_of h.1, klt_of h.2⟩)
theorem klt_ne {p q : Pa} (h : klt p q = true) : p ≠ q := fun e => by rw [e, klt_self] at h; cases h
theorem klt_asym {p q : Pa} (h : klt p q = true) : klt q p = false := tokLt_swo.asym _ _ h
theorem klt_neg {p q r : Pa} (h1 : klt q p = false) (h2 : klt r q = false) : klt r p = false := tokLt_swo.tr _ _ _ h1 h2
theorem klt_trans {p q r : Pa} (h1 : klt p q = true) (h2 : klt q r = true) : klt p r = true := by
  rcases klt_tri p r with h | h | h
  · subst h; rw [klt_asym h1] at h2; cases h2
  · exact h.1
  · have := klt_neg (klt_asym h1) (klt_asym h2)
    rw [this] at h
    cases h.2
theorem klt_size {p q : Pa} (h : klt p q = true) : p.size ≤ q.size := by
  by_cases z : p.size ≤ q.size
  · exact z
  · obtain ⟨r, e1⟩ := key_tup p
    obtain ⟨s, e2⟩ := key_tup q
    have e : pLt p.key.py q.key.py = some false := by
      rw [e1, e2]
      have n1 : ¬ ((p.size : Int) = q.size) := by omega
      have n2 : ¬ ((p.size : Int) < q.size) := by omega
      simp [pLt, pLts, PyData.eqv, n1, n2]
    rw [klt_of e] at h
    cases h
/-! ### raising keeps the order -/
def Sm (x y x' y' : PyData) : Prop := PyData.eqv x' y' = PyData.eqv x y ∧ pLt x' y' = pLt x y
def SmS (x y x' y' : List PyData) : Prop := PyData.eqvAll x' y' = PyData.eqvAll x y ∧ pLts x' y' = pLts x y
theorem Sm.refl {x y : PyData} : Sm x y x y := ⟨rfl, rfl⟩
theorem SmS.refl {x y : List PyData} : SmS x y x y := ⟨rfl, rfl⟩
theorem sm_tuple {x y x' y' : List PyData} (h : SmS x y x' y') : Sm (.tuple x) (.tuple y) (.tuple x') (.tuple y') := ⟨by simpa [PyData.eqv] using h.1, by simpa [pLt] using h.2⟩
theorem smS_cons {x y x' y' : PyData} {k l k' l' : List PyData} (h : Sm x y x' y') (t : PyData.eqv x y = true → SmS k l k' l') : SmS (x :: k) (y :: l) (x' :: k') (y' :: l') := by
  cases e : PyData.eqv x y with
  | true =>
    obtain ⟨t1, t2⟩ := t e
    exact ⟨by simp [PyData.eqvAll, h.1, e, t1], by simp [pLts, h.1, e, t2]⟩
  | false => exact ⟨by simp [PyData.eqvAll, h.1, e], by simp [pLts, h.1, e, h.2]⟩
theorem sm_none {s1 s2 r1 r2 : Int} {k l k' l' : List PyData} (h : r1 ≠ r2) : Sm (.tuple (.int s1 :: .int r1 :: k)) (.tuple (.int s2 :: .int r2 :: l)) (.tuple (.int s1 :: .int r1 :: k')) (.tuple (.int s2 :: .int r2 :: l')) :=
  sm_tuple (smS_cons .refl fun _ => smS_cons .refl fun e => absurd (by simpa [PyData.eqv] using e) h)
theorem sm_leaf {s r : Int} {x y x' y' : PyData} (h : Sm x y x' y') : Sm (.tuple [.int s, .int r, x, .tuple []]) (.tuple [.int s, .int r, y, .tuple []]) (.tuple [.int s, .int r, x', .tuple []]) (.tuple [.int s, .int r, y', .tuple []]) :=
  sm_tuple (smS_cons .refl fun _ => smS_cons .refl fun _ => smS_cons h fun _ => .refl)
theorem sm_body {s1 s2 r : Int} {x y : PyData} {k l k' l' : List PyData} (h : SmS k l k' l') : Sm (.tuple [.int s1, .int r, x, .tuple k]) (.tuple [.int s2, .int r, y, .tuple l]) (.tuple [.int s1, .int r, x, .tuple k']) (.tuple [.int s2, .int r, y, .tuple l']) :=
  sm_tuple (smS_cons .refl fun _ => smS_cons .refl fun _ => smS_cons .refl fun _ => smS_cons (sm_tuple h) fun _ => .refl)
/-- gots from t on go up by a -/
abbrev Pa.sh (a t : Nat) (p : Pa) : Pa := p.raised a 0 t
abbrev Pl.sh (a t : Nat) (p : Pl) : Pl := p.raised a 0 t
theorem sh_int (a t n m : Nat) : Sm (.int (n : Int)) (.int (m : Int)) (.int ((if t ≤ n then n + a else n : Nat) : Int)) (.int ((if t ≤ m then m + a else m : Nat) : Int)) := by
  have e1 : ∀ i j : Int, PyData.eqv (.int i) (.int j) = decide (i = j) := fun i j => by
    by_cases h : i = j <;> simp [PyData.eqv, h]
  have e2 : ∀ i j : Int, pLt (.int i) (.int j) = some (decide (i < j)) := fun i j => rfl
  unfold Sm
  rw [e1, e1, e2, e2]
  refine ⟨?_, congrArg some ?_⟩
  · rw [decide_eq_decide]
    split <;> split <;> omega
  · rw [decide_eq_decide]
    split <;> split <;> omega
theorem sh_got (a t n : Nat) : (Pa.got n).sh a t = .got (if t ≤ n then n + a else n) := by
  simp only [Pa.sh, Pa.raised, Nat.add_zero]
  split <;> rfl
mutual
theorem Pa.sm (a : Nat) : ∀ (p q : Pa) (t : Nat), Sm p.key.py q.key.py (p.sh a t).key.py (q.sh a t).key.py
  | .name x, q, t => by
    cases q with
    | got n => rw [sh_got]; exact sm_none (by decide)
    | name y => exact .refl
    | mark n => exact .refl
    | letter y c =>
      simp only [Pa.sh, Pa.raised, Pa.key, D.py, D.pyAll, Pl.raised_size]
      exact sm_none (by decide)
    | wait y c =>
      simp only [Pa.sh, Pa.raised, Pa.key, D.py, D.pyAll, Pl.raised_size]
      exact sm_none (by decide)
  | .mark x, q, t => by
    cases q with
    | got n => rw [sh_got]; exact sm_none (by decide)
    | name y => exact .refl
    | mark n => exact .refl
    | letter y c =>
      simp only [Pa.sh, Pa.raised, Pa.key, D.py, D.pyAll, Pl.raised_size]
      exact sm_none (by decide)
    | wait y c =>
      simp only [Pa.sh, Pa.raised, Pa.key, D.py, D.pyAll, Pl.raised_size]
      exact sm_none (by decide)
  | .got x, q, t => by
    cases q with
    | got n => rw [sh_got, sh_got]; exact sm_leaf (sh_int a t x n)
    | name y => rw [sh_got]; exact sm_none (by decide)
    | mark n => rw [sh_got]; exact sm_none (by decide)
    | letter y c =>
      rw [sh_got]
      simp only [Pa.sh, Pa.raised, Pa.key, D.py, D.pyAll, Pl.raised_size]
      exact sm_none (by decide)
    | wait y c =>
      rw [sh_got]
      simp only [Pa.sh, Pa.raised, Pa.key, D.py, D.pyAll, Pl.raised_size]
      exact sm_none (by decide)
  | .letter x b, q, t => by
    cases q with
    | got n =>
      rw [sh_got]
      simp only [Pa.sh, Pa.raised, Pa.key, D.py, D.pyAll, Pl.raised_size]
      exact sm_none (by decide)
    | letter y c =>
      have h := Pl.sm a b c t
      simp only [Pa.sh, Pa.raised, Pa.key, D.py, D.pyAll, Pl.raised_size]
      exact sm_body h
    | _ =>
      simp only [Pa.sh, Pa.raised, Pa.key, D.py, D.pyAll, Pl.raised_size]
      exact sm_none (by decide)
  | .wait x b, q, t => by
    cases q with
    | got n =>
      rw [sh_got]
      simp only [Pa.sh, Pa.raised, Pa.key, D.py, D.pyAll, Pl.raised_size]
      exact sm_none (by decide)
    | wait y c =>
      have h := Pl.sm a b c (t + 1)
      simp only [Pa.sh, Pa.raised, Pa.key, D.py, D.pyAll, Pl.raised_size]
      exact sm_body h
    | _ =>
      simp only [Pa.sh, Pa.raised, Pa.key, D.py, D.pyAll, Pl.raised_size]
      exact sm_none (by decide)
theorem Pl.sm (a : Nat) : ∀ (p q : Pl) (t : Nat), SmS (D.pyAll p.keys) (D.pyAll q.keys) (D.pyAll (p.sh a t).keys) (D.pyAll (q.sh a t).keys)
  | .nil, q, t => by
    cases q with
    | nil => exact .refl
    | cons d r s => exact ⟨rfl, rfl⟩
  | .cons c p r, q, t => by
    cases q with
    | nil => exact ⟨rfl, rfl⟩
    | cons d q s => exact smS_cons (sm_tuple (smS_cons (Pa.sm a p q t) fun _ => .refl)) fun _ => Pl.sm a r s t
end
theorem klt_sh (a t : Nat) (p q : Pa) : klt (p.sh a t) (q.sh a t) = klt p q := by
  have e := (Pa.sm a p q t).2
  rcases Pa.cmp p q with ⟨h, _, _, h2, _⟩ | ⟨_, _, _, h | h⟩
  · rw [klt_of h2, klt_of (e.trans h2)]
  · rw [klt_of h.1, klt_of (e.trans h.1)]
  · rw [klt_of h.1, klt_of (e.trans h.1)]
theorem sh_inj {a t : Nat} {p q : Pa} (h : p.sh a t = q.sh a t) : p = q := by
  have e := (Pa.sm a p q t).1
  rcases Pa.cmp p q with ⟨z, _⟩ | ⟨_, z, _⟩
  · exact z
  · rw [z, h] at e
    rcases Pa.cmp (q.sh a t) (q.sh a t) with ⟨_, y, _⟩ | ⟨y, _⟩
    · rw [y] at e; cases e
    · exact absurd rfl y
instance : DecidableEq Pa := fun p q => decidable_of_iff (beqP p q = true) beqP_iff
end Dl
/-! Pf2: items sorted and joined. -/
namespace Dl
open PySem PySem.Spec PyProof.Rows L2 NdefX
def insI (x : It) : List It → List It
  | [] => [x]
  | y :: r => if klt y.2 x.2 = true then y :: insI x r else x :: y :: r
def sortI : List It → List It
  | [] => []
  | x :: l => insI x (sortI l)
def WS (l : List It) : Prop := l.Pairwise fun a b => klt b.2 a.2 = false
def SS (l : List It) : Prop := l.Pairwise fun a b => klt a.2 b.2 = true
def posI (l : List It) : Prop := ∀ i ∈ l, 1 ≤ i.1
theorem insI_perm (x : It) : ∀ l : List It, (insI x l).Perm (x :: l)
  | [] => List.Perm.refl _
  | y :: r => by
    unfold insI
    split
    · exact ((insI_perm x r).cons y).trans (List.Perm.swap x y r)
    · exact List.Perm.refl _
theorem sortI_perm : ∀ l : List It, (sortI l).Perm l
  | [] => List.Perm.refl _
  | x :: l => (insI_perm x (sortI l)).trans ((sortI_perm l).cons x)
theorem insI_ws (x : It) : ∀ {l : List It}, WS l → WS (insI x l)
  | [], _ => List.pairwise_singleton _ _
  | y :: r, h => by
    obtain ⟨h1, h2⟩ := List.pairwise_cons.mp h
    unfold insI
    split
    · rename_i hyx
      refine List.pairwise_cons.mpr ⟨fun z hz => ?_, insI_ws x h2⟩
      rcases List.mem_cons.mp ((insI_perm x r).mem_iff.mp hz) with rfl | hz
      · exact klt_asym hyx
      · exact h1 z hz
    · rename_i hyx
      have hyx : klt y.2 x.2 = false := by simpa using hyx
      refine List.pairwise_cons.mpr ⟨fun z hz => ?_, h⟩
      rcases List.mem_cons.mp hz with rfl | hz
      · exact hyx
      · exact klt_neg hyx (h1 z hz)
theorem sortI_ws : ∀ l : List It, WS (sortI l)
  | [] => List.Pairwise.nil
  | x :: l => insI_ws x (sortI_ws l)
def jg (c : Nat) (p : Pa) : List It → List It
  | [] => [(c, p)]
  | (d, q) :: r => if p = q then jg (c + d) p r else (c, p) :: jg d q r
def joinL : List It → List It
  | [] => []
  | (c, p) :: r => jg c p r
def J (l : List It) : List It := joinL (sortI l)
/-- how many copies of a part stand in a row of items -/
def cnt (p : Pa) : List It → Nat
  | [] => 0
  | i :: r => (if i.2 = p then i.1 else 0) + cnt p r
theorem cnt_app (p : Pa) : ∀ a b : List It, cnt p (a ++ b) = cnt p a + cnt p b
  | [], b => by simp [cnt]
  | i :: a, b => by simp [cnt, cnt_app p a b]; omega
theorem cnt_perm (p : Pa) {a b : List It} (h : a.Perm b) : cnt p a = cnt p b := by
  induction h with
  | nil => rfl
  | cons x _ ih => simp only [cnt, ih]
  | swap x y l => simp only [cnt]; omega
  | trans _ _ h1 h2 => exact h1.trans h2
theorem cnt_none {p : Pa} : ∀ {l : List It}, (∀ i ∈ l, i.2 ≠ p) → cnt p l = 0
  | [], _ => rfl
  | i :: r, h => by
    simp only [cnt, if_neg (h i (.head _)), cnt_none (fun j hj => h j (.tail _ hj))]
theorem jg_cnt (t : Pa) : ∀ (r : List It) (c : Nat) (p : Pa), cnt t (jg c p r) = cnt t ((c, p) :: r)
  | [], c, p => rfl
  | (d, q) :: r, c, p => by
    unfold jg
    split
    · rename_i e
      subst e
      rw [jg_cnt t r]
      simp only [cnt]
      split <;> omega
    · simp only [cnt]
      rw [jg_cnt t r]
      simp only [cnt]
theorem joinL_cnt (t : Pa) : ∀ l : List It, cnt t (joinL l) = cnt t l
  | [] => rfl
  | (c, p) :: r => jg_cnt t r c p
theorem J_cnt (t : Pa) (l : List It) : cnt t (J l) = cnt t l := (joinL_cnt t _).trans (cnt_perm t (sortI_perm l))
theorem jg_mem : ∀ {r : List It} {c : Nat} {p : Pa} {i : It}, i ∈ jg c p r → i.2 = p ∨ ∃ j ∈ r, j.2 = i.2
  | [], c, p, i, h => .inl (by simp only [jg, List.mem_singleton] at h; rw [h])
  | (d, q) :: r, c, p, i, h => by
    unfold jg at h
    split at h
    · rcases jg_mem h with e | ⟨j, hj, e⟩
      · exact .inl e
      · exact .inr ⟨j, .tail _ hj, e⟩
    · rcases List.mem_cons.mp h with rfl | h
      · exact .inl rfl
      · rcases jg_mem h with e | ⟨j, hj, e⟩
        · exact .inr ⟨(d, q), .head _, e.symm⟩
        · exact .inr ⟨j, .tail _ hj, e⟩
theorem J_mem {l : List It} {i : It} (h : i ∈ J l) : ∃ j ∈ l, j.2 = i.2 := by
  unfold J at h
  have pm := sortI_perm l
  generalize sortI l = m at *
  cases m with
  | nil => cases h
  | cons a r =>
    obtain ⟨c, p⟩ := a
    rcases jg_mem (show i ∈ jg c p r from h) with e | ⟨j, hj, e⟩
    · exact ⟨(c, p), pm.mem_iff.mp (.head _), e.symm⟩
    · exact ⟨j, pm.mem_iff.mp (.tail _ hj), e⟩
theorem jg_ss : ∀ {r : List It} {c : Nat} {p : Pa}, WS ((c, p) :: r) → SS (jg c p r)
  | [], c, p, _ => List.pairwise_singleton _ _
  | (d, q) :: r, c, p, h => by
    obtain ⟨h1, h2⟩ := List.pairwise_cons.mp h
    obtain ⟨h3, h4⟩ := List.pairwise_cons.mp h2
    unfold jg
    split
    · rename_i e
      subst e
      exact jg_ss (List.pairwise_cons.mpr ⟨fun z hz => h1 z (.tail _ hz), h4⟩)
    · rename_i e
      have pq : klt p q = true := by
        rcases klt_tri p q with z | z | z
        · exact absurd z e
        · exact z.1
        · have := h1 (d, q) (.head _)
          simp only at this
          rw [this] at z
          cases z.2
      refine List.pairwise_cons.mpr ⟨fun z hz => ?_, jg_ss h2⟩
      rcases jg_mem hz with e | ⟨j, hj, e⟩
      · show klt p z.2 = true
        rw [e]; exact pq
      · show klt p z.2 = true
        have g : klt z.2 q = false := by rw [← e]; exact h3 j hj
        rcases klt_tri p z.2 with y | y | y
        · rw [← y, pq] at g; cases g
        · exact y.1
        · rw [klt_trans y.2 pq] at g; cases g
theorem J_ss (l : List It) : SS (J l) := by
  unfold J
  have := sortI_ws l
  generalize sortI l = m at *
  cases m with
  | nil => exact List.Pairwise.nil
  | cons a r => exact jg_ss this
theorem jg_pos : ∀ {r : List It} {c : Nat} {p : Pa}, 1 ≤ c → posI r → posI (jg c p r)
  | [], c, p, hc, _ => fun i hi => by simp only [jg, List.mem_singleton] at hi; rw [hi]; exact hc
  | (d, q) :: r, c, p, hc, hr => by
    unfold jg
    have hd : 1 ≤ d := hr (d, q) (.head _)
    have hr' : posI r := fun i hi => hr i (.tail _ hi)
    split
    · exact jg_pos (by omega) hr'
    · intro i hi
      rcases List.mem_cons.mp hi with rfl | hi
      · exact hc
      · exact jg_pos hd hr' i hi
theorem J_pos {l : List It} (h : posI l) : posI (J l) := by
  unfold J
  have h2 : posI (sortI l) := fun i hi => h i ((sortI_perm l).mem_iff.mp hi)
  generalize sortI l = m at *
  cases m with
  | nil => exact fun i hi => nomatch hi
  | cons a r => exact jg_pos (h2 a (.head _)) fun i hi => h2 i (.tail _ hi)
/-- rows that ascend strictly are told by their counts -/
theorem ss_unique : ∀ {l m : List It}, SS l → SS m → posI l → posI m → (∀ p, cnt p l = cnt p m) → l = m
  | [], [], _, _, _, _, _ => rfl
  | [], (d, q) :: m, _, _, _, hm, e => by
    have := e q
    have h1 := hm (d, q) (.head _)
    simp [cnt] at this
    omega
  | (c, p) :: l, [], _, _, hl, _, e => by
    have := e p
    have h1 := hl (c, p) (.head _)
    simp [cnt] at this
    omega
  | (c, p) :: l, (d, q) :: m, sl, sm, hl, hm, e => by
    obtain ⟨a1, a2⟩ := List.pairwise_cons.mp sl
    obtain ⟨b1, b2⟩ := List.pairwise_cons.mp sm
    have h1 : 1 ≤ c := hl (c, p) (.head _)
    have h2 : 1 ≤ d := hm (d, q) (.head _)
    have zl : cnt p l = 0 := cnt_none fun i hi => fun z => klt_ne (a1 i hi) z.symm
    have zm : cnt q m = 0 := cnt_none fun i hi => fun z => klt_ne (b1 i hi) z.symm
    rcases klt_tri p q with z | z | z
    · subst z
      have ec : c = d := by
        have := e p
        simp only [cnt, if_true, zl, zm] at this
        omega
      subst ec
      rw [ss_unique a2 b2 (fun i hi => hl i (.tail _ hi)) (fun i hi => hm i (.tail _ hi)) fun r => by
        have := e r
        simp only [cnt] at this
        omega]
    · have : cnt p ((d, q) :: m) = 0 := cnt_none fun i hi => by
        rcases List.mem_cons.mp hi with rfl | hi
        · exact fun y => klt_ne z.1 y.symm
        · exact fun y => klt_ne (klt_trans z.1 (b1 i hi)) y.symm
      have := e p
      simp only [cnt, if_true] at *
      omega
    · have : cnt q ((c, p) :: l) = 0 := cnt_none fun i hi => by
        rcases List.mem_cons.mp hi with rfl | hi
        · exact fun y => klt_ne z.2 y.symm
        · exact fun y => klt_ne (klt_trans z.2 (a1 i hi)) y.symm
      have := e q
      simp only [cnt, if_true] at *
      omega
theorem J_of {l m : List It} (sm : SS m) (pm : posI m) (pl : posI l) (e : ∀ p, cnt p m = cnt p l) : J l = m :=
  ss_unique (J_ss l) sm (J_pos pl) pm fun p => (J_cnt p l).trans (e p).symm
theorem J_eq {l m : List It} (pl : posI l) (pm : posI m) (e : ∀ p, cnt p l = cnt p m) : J l = J m :=
  J_of (J_ss m) (J_pos pm) pl fun p => (J_cnt p m).trans (e p).symm
theorem J_self {l : List It} (s : SS l) (p : posI l) : J l = l := J_of s p p fun _ => rfl
/-! sums -/
theorem szL_perm {a b : List It} (h : a.Perm b) : szL a = szL b := by
  unfold szL
  exact (h.map _).sum_nat
theorem jg_sz : ∀ (r : List It) (c : Nat) (p : Pa), szL (jg c p r) = c * p.size + szL r
  | [], c, p => by simp [jg, szL]
  | (d, q) :: r, c, p => by
    unfold jg
    split
    · rename_i e
      subst e
      rw [jg_sz r, szL_cons]
      simp only [Nat.add_mul]
      omega
    · rw [szL_cons, jg_sz r, szL_cons]
theorem J_sz (l : List It) : szL (J l) = szL l := by
  unfold J
  rw [← szL_perm (sortI_perm l)]
  generalize sortI l = m
  cases m with
  | nil => rfl
  | cons a r => exact (jg_sz r a.1 a.2).trans (szL_cons a r).symm
theorem wiL_perm {a b : List It} (h : a.Perm b) : wiL a = wiL b := by
  unfold wiL
  exact (h.map _).sum_nat
theorem jg_wi : ∀ (r : List It) (c : Nat) (p : Pa), wiL (jg c p r) ≤ 1 + p.within.length + wiL r
  | [], c, p => by simp [jg, wiL]
  | (d, q) :: r, c, p => by
    unfold jg
    split
    · have := jg_wi r (c + d) p
      rw [wiL_cons]
      omega
    · have := jg_wi r d q
      rw [wiL_cons, wiL_cons]
      simp only
      omega
theorem J_wi (l : List It) : wiL (J l) ≤ wiL l := by
  unfold J
  rw [← wiL_perm (sortI_perm l)]
  generalize sortI l = m
  cases m with
  | nil => exact Nat.le_refl _
  | cons a r => exact Nat.le_trans (jg_wi r a.1 a.2) (Nat.le_of_eq (wiL_cons a r).symm)
theorem deL_le {l : List It} {k : Nat} : deL l ≤ k ↔ ∀ i ∈ l, i.2.dep ≤ k := by
  induction l with
  | nil => simp [deL]
  | cons a r ih => simp [deL, Nat.max_le, ih]
theorem J_de (l : List It) : deL (J l) ≤ deL l := deL_le.mpr fun i hi => by
  obtain ⟨j, hj, e⟩ := J_mem hi
  rw [← e]
  exact deL_le.mp (Nat.le_refl _) j hj
theorem J_okI {k : Nat} {l : List It} (h : l.all (okI k) = true) : (J l).all (okI k) = true := by
  rw [List.all_eq_true] at *
  have hp : posI l := fun i hi => by have := h i hi; unfold okI at this; simp at this; exact this.1
  intro i hi
  obtain ⟨j, hj, e⟩ := J_mem hi
  have h1 := h j hj
  have h2 := J_pos hp i hi
  unfold okI at *
  simp only [Bool.and_eq_true, decide_eq_true_eq] at *
  exact ⟨h2, by rw [← e]; exact h1.2⟩
theorem okI_pos {k : Nat} {l : List It} (h : l.all (okI k) = true) : posI l := fun i hi => by
  have := List.all_eq_true.mp h i hi
  unfold okI at this
  simp at this
  exact this.1
end Dl
/-! Pf3: plain forms. -/
namespace Dl
open PySem PySem.Spec PyProof.Rows L2 NdefX
/-- what a wait at x with the plain row l is -/
def foldL (x : Str) (l : List It) : Nat × Pa := match l.getLast? with
  | some (m, p) => if p = .wait x (ofL l.dropLast).up then (m + 1, .wait x (ofL l.dropLast)) else (1, .wait x (ofL l))
  | none => (1, .wait x (ofL l))
mutual
def Pa.N : Pa → Nat × Pa
  | .letter x b => (1, .letter x (ofL (J b.NI)))
  | .wait x b => foldL x (J b.NI)
  | .name x => (1, .name x)
  | .mark n => (1, .mark n)
  | .got n => (1, .got n)
def Pl.NI : Pl → List It
  | .nil => []
  | .cons c p r => (c * p.N.1, p.N.2) :: r.NI
end
def Pl.N (p : Pl) : Pl := ofL (J p.NI)
theorem NI_ofL : ∀ l : List It, (ofL l).NI = l.map fun i => (i.1 * i.2.N.1, i.2.N.2)
  | [] => rfl
  | (c, p) :: l => by simp [ofL, Pl.NI, NI_ofL l]
theorem NI_L (p : Pl) : p.NI = p.L.map fun i => (i.1 * i.2.N.1, i.2.N.2) := by
  conv => lhs; rw [← ofL_L p]
  exact NI_ofL p.L
theorem NI_app (p q : Pl) : (p.app q).NI = p.NI ++ q.NI := by rw [NI_L, NI_L p, NI_L q, app_L, List.map_append]
/-! the fold -/
theorem foldL_last {x : Str} {r : List It} {M : Nat} : foldL x (r ++ [(M, .wait x (ofL r).up)]) = (M + 1, .wait x (ofL r)) := by
  simp [foldL]
theorem foldL_cases (x : Str) (l : List It) : foldL x l = (1, .wait x (ofL l)) ∨ ∃ r M, l = r ++ [(M, .wait x (ofL r).up)] ∧ foldL x l = (M + 1, .wait x (ofL r)) := by
  rcases List.eq_nil_or_concat l with h | ⟨r, ⟨M, p⟩, h⟩
  · subst h
    exact .inl rfl
  · rw [List.concat_eq_append] at h
    subst h
    by_cases e : p = .wait x (ofL r).up
    · subst e
      exact .inr ⟨r, M, rfl, foldL_last⟩
    · left
      simp [foldL, e]
/-! raising -/
abbrev shI (a t : Nat) (i : It) : It := (i.1, i.2.sh a t)
theorem ofL_sh (a t : Nat) : ∀ l : List It, (ofL l).sh a t = ofL (l.map (shI a t))
  | [] => rfl
  | (c, p) :: l => by
    have := ofL_sh a t l
    simp only [Pl.sh] at this
    simp [ofL, Pl.sh, Pl.raised, this]
theorem sh_L (a t : Nat) (p : Pl) : (p.sh a t).L = p.L.map (shI a t) := by
  conv => lhs; rw [← ofL_L p]
  rw [ofL_sh, L_ofL]
theorem insI_sh (a t : Nat) (x : It) : ∀ l : List It, insI (shI a t x) (l.map (shI a t)) = (insI x l).map (shI a t)
  | [] => rfl
  | y :: r => by
    simp only [List.map_cons, insI, klt_sh]
    split
    · rw [insI_sh a t x r, List.map_cons]
    · rfl
theorem sortI_sh (a t : Nat) : ∀ l : List It, sortI (l.map (shI a t)) = (sortI l).map (shI a t)
  | [] => rfl
  | x :: l => by simp only [List.map_cons, sortI, sortI_sh a t l, insI_sh]
theorem jg_sh (a t : Nat) : ∀ (r : List It) (c : Nat) (p : Pa), jg c (p.sh a t) (r.map (shI a t)) = (jg c p r).map (shI a t)
  | [], c, p => rfl
  | (d, q) :: r, c, p => by
    by_cases e : p = q
    · subst e
      simp only [List.map_cons, jg, if_true, jg_sh a t r]
    · have e' : ¬ p.sh a t = q.sh a t := fun z => e (sh_inj z)
      simp only [List.map_cons, jg, if_neg e, if_neg e', jg_sh a t r]
theorem J_sh (a t : Nat) (l : List It) : J (l.map (shI a t)) = (J l).map (shI a t) := by
  unfold J
  rw [sortI_sh]
  cases sortI l with
  | nil => rfl
  | cons x r => exact jg_sh a t r x.1 x.2
mutual
theorem Pa.rs (a l : Nat) : ∀ (p : Pa) (k : Nat), p.raised a l k = p.raised a 0 (k + l)
  | .name y, k => rfl
  | .mark n, k => rfl
  | .got n, k => rfl
  | .letter d b, k => by simp only [Pa.raised]; rw [Pl.rs a l b k]
  | .wait d b, k => by simp only [Pa.raised]; rw [Pl.rs a l b (k + 1), show k + 1 + l = k + l + 1 by omega]
theorem Pl.rs (a l : Nat) : ∀ (p : Pl) (k : Nat), p.raised a l k = p.raised a 0 (k + l)
  | .nil, k => rfl
  | .cons c p r, k => by simp only [Pl.raised]; rw [Pa.rs a l p k, Pl.rs a l r k]
end
theorem up_sh (p : Pl) : p.up = p.sh 1 1 := Pl.rs 1 1 p 0
mutual
theorem Pa.sh_sh (a : Nat) : ∀ (p : Pa) (s t : Nat) (_ : s ≤ t), (p.sh 1 s).sh a (t + 1) = (p.sh a t).sh 1 s
  | .name y, s, t, h => rfl
  | .mark n, s, t, h => rfl
  | .got n, s, t, h => by
    rw [sh_got, sh_got, sh_got, sh_got]
    congr 1
    by_cases h1 : s ≤ n <;> by_cases h2 : t ≤ n <;> simp only [h1, h2, if_true, if_false] <;> (try split) <;> (try split) <;> omega
  | .letter d b, s, t, h => by
    have := Pl.sh_sh a b s t h
    simp only [Pl.sh] at this
    simp only [Pa.sh, Pa.raised, this]
  | .wait d b, s, t, h => by
    have := Pl.sh_sh a b (s + 1) (t + 1) (by omega)
    simp only [Pl.sh] at this
    simp only [Pa.sh, Pa.raised, this]
theorem Pl.sh_sh (a : Nat) : ∀ (p : Pl) (s t : Nat), s ≤ t → (p.sh 1 s).sh a (t + 1) = (p.sh a t).sh 1 s
  | .nil, s, t, h => rfl
  | .cons c p r, s, t, h => by
    have h1 := Pa.sh_sh a p s t h
    have h2 := Pl.sh_sh a r s t h
    simp only [Pl.sh, Pa.sh] at h1 h2
    simp only [Pl.sh, Pl.raised, h1, h2]
end
theorem wait_sh (a t : Nat) (x : Str) (b : Pl) : (Pa.wait x b).sh a t = .wait x (b.sh a (t + 1)) := rfl
theorem wait_up (x : Str) (b : Pl) : Pa.wait x b.up = (Pa.wait x b).sh 1 0 := by rw [up_sh]; rfl
theorem foldL_sh (a t : Nat) (x : Str) (l : List It) : foldL x (l.map (shI a (t + 1))) = ((foldL x l).1, (foldL x l).2.sh a t) := by
  have key : ∀ r : List It, (Pa.wait x (ofL r).up).sh a (t + 1) = .wait x (ofL (r.map (shI a (t + 1)))).up := fun r => by
    rw [up_sh, up_sh, wait_sh, Pl.sh_sh a (ofL r) 1 (t + 1) (by omega), ofL_sh a (t + 1) r]
  rcases foldL_cases x l with h | ⟨r, M, hl, h⟩
  · rw [h]
    rcases foldL_cases x (l.map (shI a (t + 1))) with g | ⟨r', M, hl', g⟩
    · rw [g, wait_sh, ofL_sh]
    · exfalso
      rcases List.eq_nil_or_concat l with e | ⟨r, ⟨m, p⟩, e⟩
      · subst e
        simp at hl'
      · rw [List.concat_eq_append] at e
        subst e
        rw [List.map_append] at hl'
        have q := List.append_inj' hl' rfl
        obtain ⟨q1, q2⟩ := q
        simp only [List.map_cons, List.map_nil, List.cons.injEq, Prod.mk.injEq, and_true] at q2
        obtain ⟨_, q2⟩ := q2
        rw [← q1, ← key r] at q2
        have ep := sh_inj q2
        subst ep
        rw [foldL_last] at h
        have h1 := (Prod.mk.inj h).2
        have h2 := congrArg Pa.size h1
        simp [Pa.size, size_ofL, ofL] at h2
        have hc := (Prod.mk.inj h).1
        have : m = 0 := by omega
        subst this
        have h3 := congrArg (fun q : Pa => match q with
          | .wait _ b => b.L.length
          | _ => 0) h1
        simp [L_ofL] at h3
  · subst hl
    rw [h, List.map_append]
    show foldL x (r.map (shI a (t + 1)) ++ [(M, (Pa.wait x (ofL r).up).sh a (t + 1))]) = _
    rw [key r, foldL_last, wait_sh, ofL_sh]
mutual
theorem Pa.N_sh (a : Nat) : ∀ (p : Pa) (t : Nat), (p.sh a t).N = (p.N.1, p.N.2.sh a t)
  | .name y, t => rfl
  | .mark n, t => rfl
  | .got n, t => by rw [sh_got]; simp only [Pa.N]; rw [sh_got]
  | .letter d b, t => by
    have e := Pl.NI_sh a b t
    show (Pa.letter d (b.sh a t)).N = _
    simp only [Pa.N, e, J_sh]
    show _ = (1, Pa.letter d ((ofL (J b.NI)).sh a t))
    rw [ofL_sh]
  | .wait d b, t => by
    have e := Pl.NI_sh a b (t + 1)
    show (Pa.wait d (b.sh a (t + 1))).N = _
    simp only [Pa.N, e, J_sh, foldL_sh]
theorem Pl.NI_sh (a : Nat) : ∀ (p : Pl) (t : Nat), (p.sh a t).NI = p.NI.map (shI a t)
  | .nil, t => rfl
  | .cons c p r, t => by
    have h1 := Pa.N_sh a p t
    have h2 := Pl.NI_sh a r t
    simp only [Pl.sh, Pa.sh] at h1 h2
    simp only [Pl.sh, Pl.raised, Pl.NI, h1, h2, List.map_cons]
end
/-! what stays: sizes, tests, depths -/
theorem N_pos (p : Pa) : 1 ≤ p.N.1 := by
  cases p with
  | wait x b =>
    rcases foldL_cases x (J b.NI) with h | ⟨r, M, _, h⟩ <;> simp only [Pa.N, h] <;> omega
  | _ => exact Nat.le_refl _
mutual
theorem Pa.N_size : ∀ p : Pa, p.N.1 * p.N.2.size = p.size
  | .name y => rfl
  | .mark n => rfl
  | .got n => rfl
  | .letter d b => by
    have e := Pl.NI_size b
    simp only [Pa.N, Pa.size, size_ofL, J_sz, e, Nat.one_mul]
  | .wait d b => by
    have e := Pl.NI_size b
    have e2 := J_sz b.NI
    simp only [Pa.N, Pa.size]
    rcases foldL_cases d (J b.NI) with h | ⟨r, M, hl, h⟩
    · rw [h]
      simp only [Pa.size, size_ofL, e2, e, Nat.one_mul]
    · rw [h]
      rw [hl] at e2
      simp only [szL_app, szL_cons, szL_nil, Pa.size, Pl.raised_size, size_ofL] at e2 ⊢
      rw [← e, ← e2]
      simp only [Nat.add_mul, Nat.mul_add, Nat.mul_one, Nat.one_mul]
      omega
theorem Pl.NI_size : ∀ p : Pl, szL p.NI = p.size
  | .nil => rfl
  | .cons c p r => by
    have h1 := Pa.N_size p
    have h2 := Pl.NI_size r
    simp only [Pl.NI, szL_cons, Pl.size, h2, Nat.mul_assoc, h1]
end
theorem Pl.N_size (p : Pl) : p.N.size = p.size := by unfold Pl.N; rw [size_ofL, J_sz, Pl.NI_size]
mutual
theorem Pa.N_ok : ∀ (p : Pa) (k : Nat), p.ok k = true → p.N.2.ok k = true
  | .name y, k, h => h
  | .mark n, k, h => h
  | .got n, k, h => h
  | .letter d b, k, h => by
    simp only [Pa.ok, Bool.and_eq_true] at h
    have e := Pl.NI_ok b k h.2
    simp only [Pa.N, Pa.ok, Bool.and_eq_true, ok_ofL]
    exact ⟨h.1, J_okI e⟩
  | .wait d b, k, h => by
    simp only [Pa.ok, Bool.and_eq_true] at h
    have e := J_okI (Pl.NI_ok b (k + 1) h.2)
    simp only [Pa.N]
    rcases foldL_cases d (J b.NI) with g | ⟨r, M, hl, g⟩
    · rw [g]
      simp only [Pa.ok, Bool.and_eq_true, ok_ofL]
      exact ⟨h.1, e⟩
    · rw [g]
      rw [hl, List.all_append, Bool.and_eq_true] at e
      simp only [Pa.ok, Bool.and_eq_true, ok_ofL]
      exact ⟨h.1, e.1⟩
theorem Pl.NI_ok : ∀ (p : Pl) (k : Nat), p.ok k = true → p.NI.all (okI k) = true
  | .nil, k, h => rfl
  | .cons c p r, k, h => by
    simp only [Pl.ok, Bool.and_eq_true, decide_eq_true_eq] at h
    have h1 := Pa.N_ok p k h.1.2
    have h2 := Pl.NI_ok r k h.2
    have := N_pos p
    simp only [Pl.NI, List.all_cons, Bool.and_eq_true, h2, and_true, okI, h1, decide_eq_true_eq]
    exact Nat.mul_pos h.1.1 this
end
theorem Pl.N_ok {p : Pl} {k : Nat} (h : p.ok k = true) : p.N.ok k = true := by unfold Pl.N; rw [ok_ofL]; exact J_okI (Pl.NI_ok p k h)
mutual
theorem Pa.N_dep : ∀ p : Pa, p.N.2.dep ≤ p.dep
  | .name y => Nat.le_refl _
  | .mark n => Nat.le_refl _
  | .got n => Nat.le_refl _
  | .letter d b => by
    have e := Pl.NI_dep b
    have := J_de b.NI
    simp only [Pa.N, Pa.dep, dep_ofL]
    omega
  | .wait d b => by
    have e := Pl.NI_dep b
    have e2 := J_de b.NI
    simp only [Pa.N]
    rcases foldL_cases d (J b.NI) with g | ⟨r, M, hl, g⟩
    · rw [g]
      simp only [Pa.dep, dep_ofL]
      omega
    · rw [g]
      rw [hl, deL_app] at e2
      simp only [Pa.dep, dep_ofL]
      omega
theorem Pl.NI_dep : ∀ p : Pl, deL p.NI ≤ p.dep
  | .nil => Nat.le_refl _
  | .cons c p r => by
    have h1 := Pa.N_dep p
    have h2 := Pl.NI_dep r
    simp only [Pl.NI, deL, Pl.dep]
    omega
end
theorem Pl.N_dep (p : Pl) : p.N.dep ≤ p.dep := by unfold Pl.N; rw [dep_ofL]; exact Nat.le_trans (J_de _) (Pl.NI_dep p)
mutual
theorem Pa.N_wi : ∀ p : Pa, p.N.2.within.length ≤ p.within.length
  | .name y => Nat.le_refl _
  | .mark n => Nat.le_refl _
  | .got n => Nat.le_refl _
  | .letter d b => by
    have e := Pl.NI_wi b
    have := J_wi b.NI
    simp only [Pa.N, Pa.within, within_ofL]
    omega
  | .wait d b => by
    have e := Pl.NI_wi b
    have e2 := J_wi b.NI
    simp only [Pa.N]
    rcases foldL_cases d (J b.NI) with g | ⟨r, M, hl, g⟩
    · rw [g]
      simp only [Pa.within, within_ofL]
      omega
    · rw [g]
      rw [hl, wiL_app] at e2
      simp only [Pa.within, within_ofL]
      omega
theorem Pl.NI_wi : ∀ p : Pl, wiL p.NI ≤ p.within.length
  | .nil => Nat.le_refl _
  | .cons c p r => by
    have h1 := Pa.N_wi p
    have h2 := Pl.NI_wi r
    simp only [Pl.NI, wiL_cons, Pl.within, List.length_cons, List.length_append]
    omega
end
theorem Pl.N_wi (p : Pl) : p.N.within.length ≤ p.within.length := by unfold Pl.N; rw [within_ofL]; exact Nat.le_trans (J_wi _) (Pl.NI_wi p)
end Dl
/-! Pf4: plain forms are plain; the law on waits. -/
namespace Dl
open PySem PySem.Spec PyProof.Rows L2 NdefX
mutual
def Pa.nf : Pa → Prop
  | .letter _ b => SS b.L ∧ b.nfp
  | .wait x b => SS b.L ∧ b.nfp ∧ foldL x b.L = (1, .wait x b)
  | _ => True
def Pl.nfp : Pl → Prop
  | .nil => True
  | .cons c p r => 1 ≤ c ∧ p.nf ∧ r.nfp
end
theorem nfp_L : ∀ p : Pl, p.nfp ↔ ∀ i ∈ p.L, 1 ≤ i.1 ∧ i.2.nf
  | .nil => by simp [Pl.nfp, Pl.L]
  | .cons c p r => by simp [Pl.nfp, Pl.L, nfp_L r, and_assoc]
theorem nfp_ofL (l : List It) : (ofL l).nfp ↔ ∀ i ∈ l, 1 ≤ i.1 ∧ i.2.nf := by rw [nfp_L, L_ofL]
theorem nfp_pos {p : Pl} (h : p.nfp) : posI p.L := fun i hi => ((nfp_L p).mp h i hi).1
mutual
theorem nf_N : ∀ p : Pa, p.nf → p.N = (1, p)
  | .name y, _ => rfl
  | .mark n, _ => rfl
  | .got n, _ => rfl
  | .letter d b, h => by
    obtain ⟨h1, h2⟩ := h
    simp only [Pa.N, nfp_NI b h2, J_self h1 (nfp_pos h2), ofL_L]
  | .wait d b, h => by
    obtain ⟨h1, h2, h3⟩ := h
    simp only [Pa.N, nfp_NI b h2, J_self h1 (nfp_pos h2), h3]
theorem nfp_NI : ∀ p : Pl, p.nfp → p.NI = p.L
  | .nil, _ => rfl
  | .cons c p r, h => by
    obtain ⟨h1, h2, h3⟩ := h
    simp only [Pl.NI, Pl.L, nf_N p h2, nfp_NI r h3, Nat.mul_one]
end
theorem inner_fold {x : Str} {r : List It} (h : (Pa.wait x (ofL r).up).nf) : foldL x r = (1, .wait x (ofL r)) := by
  obtain ⟨_, _, h3⟩ := h
  rw [up_sh, sh_L, L_ofL] at h3
  have e := foldL_sh 1 0 x r
  rw [Nat.zero_add] at e
  rw [e] at h3
  obtain ⟨a, b⟩ := Prod.mk.inj h3
  have b' : (foldL x r).2.sh 1 0 = (Pa.wait x (ofL r)).sh 1 0 := b
  have c := sh_inj b'
  exact Prod.ext a c
theorem nf_parts {l : List It} (h : ∀ i ∈ l, 1 ≤ i.1 ∧ i.2.nf) : ∀ i ∈ J l, 1 ≤ i.1 ∧ i.2.nf := fun i hi => by
  have hp : posI l := fun i hi => (h i hi).1
  obtain ⟨j, hj, e⟩ := J_mem hi
  exact ⟨J_pos hp i hi, by rw [← e]; exact (h j hj).2⟩
theorem nf_fold {x : Str} {l : List It} (s : SS l) (h : ∀ i ∈ l, 1 ≤ i.1 ∧ i.2.nf) : (foldL x l).2.nf := by
  rcases foldL_cases x l with g | ⟨r, M, hl, g⟩
  · rw [g]
    exact ⟨by rw [L_ofL]; exact s, (nfp_ofL l).mpr h, by rw [L_ofL]; exact g⟩
  · rw [g]
    subst hl
    obtain ⟨s1, _, _⟩ := List.pairwise_append.mp s
    refine ⟨by rw [L_ofL]; exact s1, (nfp_ofL r).mpr fun i hi => h i (List.mem_append_left _ hi), ?_⟩
    rw [L_ofL]
    exact inner_fold (h (M, .wait x (ofL r).up) (by simp)).2
mutual
theorem N_nf : ∀ (p : Pa) (k : Nat), p.ok k = true → p.N.2.nf
  | .name y, k, _ => trivial
  | .mark n, k, _ => trivial
  | .got n, k, _ => trivial
  | .letter d b, k, h => by
    simp only [Pa.ok, Bool.and_eq_true] at h
    have e := NI_nf b k h.2
    simp only [Pa.N]
    exact ⟨by rw [L_ofL]; exact J_ss _, (nfp_ofL _).mpr (nf_parts e)⟩
  | .wait d b, k, h => by
    simp only [Pa.ok, Bool.and_eq_true] at h
    have e := NI_nf b (k + 1) h.2
    simp only [Pa.N]
    exact nf_fold (J_ss _) (nf_parts e)
theorem NI_nf : ∀ (p : Pl) (k : Nat), p.ok k = true → ∀ i ∈ p.NI, 1 ≤ i.1 ∧ i.2.nf
  | .nil, k, _ => fun i hi => nomatch hi
  | .cons c p r, k, h => by
    simp only [Pl.ok, Bool.and_eq_true, decide_eq_true_eq] at h
    have h1 := N_nf p k h.1.2
    have h2 := NI_nf r k h.2
    intro i hi
    simp only [Pl.NI, List.mem_cons] at hi
    rcases hi with rfl | hi
    · exact ⟨Nat.mul_pos h.1.1 (N_pos p), h1⟩
    · exact h2 i hi
end
theorem NI_pos {p : Pl} {k : Nat} (h : p.ok k = true) : posI p.NI := okI_pos (Pl.NI_ok p k h)
theorem N_nfp {p : Pl} {k : Nat} (h : p.ok k = true) : SS p.N.L ∧ p.N.nfp := by
  unfold Pl.N
  exact ⟨by rw [L_ofL]; exact J_ss _, (nfp_ofL _).mpr (nf_parts (NI_nf p k h))⟩
theorem N_N {p : Pl} {k : Nat} (h : p.ok k = true) : p.N.N = p.N := by
  obtain ⟨h1, h2⟩ := N_nfp h
  show ofL (J p.N.NI) = p.N
  rw [nfp_NI _ h2, J_self h1 (nfp_pos h2), ofL_L]
theorem size_klt {p q : Pa} (h : p.size < q.size) : klt p q = true := by
  rcases klt_tri p q with z | z | z
  · rw [z] at h; omega
  · exact z.1
  · have := klt_size z.2; omega
theorem mem_size {l : List It} (hp : posI l) {i : It} (hi : i ∈ l) : i.2.size ≤ szL l := by
  induction l with
  | nil => cases hi
  | cons a r ih =>
    rw [szL_cons]
    rcases List.mem_cons.mp hi with rfl | hi
    · have := hp i (.head _)
      have := Nat.le_mul_of_pos_left i.2.size this
      omega
    · have := ih (fun j hj => hp j (.tail _ hj)) hi
      omega
theorem ss_snoc {r : List It} {M : Nat} {x : Str} (s : SS r) (hp : posI r) : SS (r ++ [(M, .wait x (ofL r).up)]) := by
  refine List.pairwise_append.mpr ⟨s, List.pairwise_singleton _ _, fun a ha b hb => ?_⟩
  rw [List.mem_singleton.mp hb]
  refine size_klt ?_
  have := mem_size hp ha
  simp only [Pa.size, Pl.raised_size, size_ofL]
  omega
theorem unfold_N {x : Str} {b : Pl} {k j : Nat} (hk : 2 ≤ k) (hb : b.ok j = true) : (Pa.wait x (b.app (.cons (k - 1) (.wait x b.up) .nil))).N = (k * (Pa.wait x b).N.1, (Pa.wait x b).N.2) := by
  have hp := NI_pos hb
  have hw : (Pa.wait x b.up).N = ((Pa.wait x b).N.1, (Pa.wait x b).N.2.sh 1 0) := by rw [wait_up]; exact Pa.N_sh 1 _ 0
  have hn : (b.app (.cons (k - 1) (.wait x b.up) .nil)).NI = b.NI ++ [((k - 1) * (Pa.wait x b).N.1, (Pa.wait x b).N.2.sh 1 0)] := by
    rw [NI_app]
    simp only [Pl.NI, hw]
  simp only [Pa.N] at hn ⊢
  rw [hn]
  have ss := J_ss b.NI
  have pp := J_pos hp
  have cc : ∀ t, cnt t (J b.NI) = cnt t b.NI := fun t => J_cnt t b.NI
  generalize hB : J b.NI = B at *
  rcases foldL_cases x B with g | ⟨r, M, hl, g⟩
  · rw [g]
    have e : J (b.NI ++ [((k - 1) * 1, (Pa.wait x (ofL B)).sh 1 0)]) = B ++ [(k - 1, .wait x (ofL B).up)] := by
      rw [Nat.mul_one, ← wait_up]
      refine J_of (ss_snoc ss pp) (fun i hi => ?_) (fun i hi => ?_) fun t => ?_
      · rcases List.mem_append.mp hi with hi | hi
        · exact pp i hi
        · rw [List.mem_singleton.mp hi]
          show 1 ≤ k - 1
          omega
      · rcases List.mem_append.mp hi with hi | hi
        · exact hp i hi
        · rw [List.mem_singleton.mp hi]
          show 1 ≤ k - 1
          omega
      · rw [cnt_app, cnt_app, cc]
    simp only
    rw [e, foldL_last]
    refine Prod.ext ?_ rfl
    show k - 1 + 1 = k * 1
    omega
  · rw [g]
    subst hl
    obtain ⟨s1, _, _⟩ := List.pairwise_append.mp ss
    have pr : posI r := fun i hi => pp i (List.mem_append_left _ hi)
    have hM : 1 ≤ M := pp (M, .wait x (ofL r).up) (by simp)
    have e : J (b.NI ++ [((k - 1) * (M + 1), (Pa.wait x (ofL r)).sh 1 0)]) = r ++ [(M + (k - 1) * (M + 1), .wait x (ofL r).up)] := by
      rw [← wait_up]
      have h1 : 1 ≤ (k - 1) * (M + 1) := Nat.mul_pos (by omega) (by omega)
      refine J_of (ss_snoc s1 pr) (fun i hi => ?_) (fun i hi => ?_) fun t => ?_
      · rcases List.mem_append.mp hi with hi | hi
        · exact pr i hi
        · rw [List.mem_singleton.mp hi]
          show 1 ≤ M + (k - 1) * (M + 1)
          omega
      · rcases List.mem_append.mp hi with hi | hi
        · exact hp i hi
        · rw [List.mem_singleton.mp hi]
          exact h1
      · have c := cc t
        rw [cnt_app] at c
        rw [cnt_app, cnt_app, ← c]
        simp only [cnt]
        split <;> omega
    simp only
    rw [e, foldL_last]
    refine Prod.ext ?_ rfl
    show M + (k - 1) * (M + 1) + 1 = k * (M + 1)
    obtain ⟨k', rfl⟩ : ∃ k', k = k' + 1 := ⟨k - 1, by omega⟩
    simp only [Nat.add_sub_cancel, Nat.add_mul, Nat.one_mul]
    omega
/-- two rows of items are as good as one another -/
def Eqv (l m : List It) : Prop := ∀ t, cnt t (ofL l).NI = cnt t (ofL m).NI
theorem N_of_eqv {p q : Pl} {j : Nat} (hp : p.ok j = true) (hq : q.ok j = true) (h : Eqv p.L q.L) : p.N = q.N := by
  unfold Pl.N
  have h' : ∀ t, cnt t p.NI = cnt t q.NI := fun t => by have := h t; rw [ofL_L, ofL_L] at this; exact this
  rw [J_eq (NI_pos hp) (NI_pos hq) h']
theorem eqv_app {a b c d : List It} (h1 : Eqv a b) (h2 : Eqv c d) : Eqv (a ++ c) (b ++ d) := fun t => by
  have h1 := h1 t
  have h2 := h2 t
  simp only [NI_ofL, List.map_append, cnt_app] at *
  omega
theorem eqv_perm {a b : List It} (h : a.Perm b) : Eqv a b := fun t => by
  simp only [NI_ofL]
  exact cnt_perm t (h.map _)
theorem Eqv.trans {a b c : List It} (h1 : Eqv a b) (h2 : Eqv b c) : Eqv a c := fun t => (h1 t).trans (h2 t)
theorem Eqv.refl {a : List It} : Eqv a a := fun _ => rfl
end Dl
/-! Pf5: the program's keys and the law's keys, sorting and joining. -/
namespace Dl
open PySem PySem.Spec PyProof.Rows L2 NdefX
theorem key_d (p : Pa) : ∃ r, p.key = .tup (.int (p.size : Int) :: r) := by
  cases p <;> exact ⟨_, rfl⟩
structure HasKy (tbl : Nat → Option DefB) : Prop extends HasLS tbl where
  t101 : tbl 101 = some ⟨1, 3, b_plan_key⟩
  t102 : tbl 102 = some ⟨1, 5, b_part_key⟩
  t108 : tbl 108 = some ⟨1, 5, b__law_key⟩
  t103 : tbl 103 = some ⟨1, 1, fun C => sRet (b_sorted_items'clo C)⟩
  t104 : tbl 104 = some ⟨1, 1, bLow 103⟩
  t105 : tbl 105 = some ⟨1, 4, b_sorted_items⟩
  t109 : tbl 109 = some ⟨1, 1, fun C => sRet (b__law_joined'clo C)⟩
  t110 : tbl 110 = some ⟨1, 1, bLow 109⟩
  t111 : tbl 111 = some ⟨1, 4, b__law_joined⟩
theorem rk_1 : t_RANKS.lookup (Str.ofString "name") = some (.int 0) := by rfl
theorem rk_2 : t_RANKS.lookup (Str.ofString "mark") = some (.int 1) := by rfl
theorem rk_3 : t_RANKS.lookup (Str.ofString "got") = some (.int 2) := by rfl
theorem rk_4 : t_RANKS.lookup (Str.ofString "letter") = some (.int 3) := by rfl
theorem rk_5 : t_RANKS.lookup (Str.ofString "wait") = some (.int 4) := by rfl
abbrev ranksS : List Str := ["name", "mark", "got", "letter", "wait"]
theorem ri_1 : ranksS.findIdx? (· == Str.ofString "name") = some 0 := by decide +kernel
theorem ri_2 : ranksS.findIdx? (· == Str.ofString "mark") = some 1 := by decide +kernel
theorem ri_3 : ranksS.findIdx? (· == Str.ofString "got") = some 2 := by decide +kernel
theorem ri_4 : ranksS.findIdx? (· == Str.ofString "letter") = some 3 := by decide +kernel
theorem ri_5 : ranksS.findIdx? (· == Str.ofString "wait") = some 4 := by decide +kernel
theorem ksz_go {w : World} {A0 A1 A2 : Sl} : ∀ r : Pl, r.lim →
    compGo (gT 2 (gsCons (gN 3) (gsCons (gN 4) gsNil))) tYes' (dBin gMul (dName 4) (dBin gIx (dName 3) (dC (.int 0)))) [A0, A1, A2, .un, .un] r.keys w = .ok (r.szs.map .int) w
  | .nil, _ => rfl
  | .cons c p r, h => by
    obtain ⟨l1, l2, l3, l4⟩ := h
    have ih := ksz_go r l4 (w := w) (A0 := A0) (A1 := A1) (A2 := A2)
    obtain ⟨k, ek⟩ := key_d p
    have mo : mulOk (c : Int) (p.size : Int) = true := mulOk_nat l1 l2
    simp [Pl.keys, go_cons, ek, at_0, mo, ih, Pl.szs]
section
variable {tbl : Nat → Option DefB} (T : HasKy tbl)
include T
mutual
theorem c_pkey : ∀ (p : Pa) (n : Nat) (w : World), 2 * p.dep + 1 ≤ n → p.lim → (Den tbl n).call 102 [.dat p.d] w = .ok (.dat p.key) w
  | .name x, n, w, hn, hl => by
    obtain ⟨m, rfl, hm⟩ := succ_of (k := 0) (n := n) (by omega)
    rw [den_succ T.t102]
    simp [runB, initE, toSl, b_part_key, Pa.d, Pa.key, at_0, at_1, gGetK, rk_1, cSum_l, intsOf, go_nil]
  | .mark j, n, w, hn, hl => by
    obtain ⟨m, rfl, hm⟩ := succ_of (k := 0) (n := n) (by omega)
    rw [den_succ T.t102]
    simp [runB, initE, toSl, b_part_key, Pa.d, Pa.key, at_0, at_1, gGetK, rk_2, cSum_l, intsOf, go_nil]
  | .got j, n, w, hn, hl => by
    obtain ⟨m, rfl, hm⟩ := succ_of (k := 0) (n := n) (by omega)
    rw [den_succ T.t102]
    simp [runB, initE, toSl, b_part_key, Pa.d, Pa.key, at_0, at_1, gGetK, rk_3, cSum_l, intsOf, go_nil]
  | .letter x b, n, w, hn, hl => by
    simp only [Pa.dep] at hn
    obtain ⟨m, rfl, hm⟩ := succ_of (k := 1) (n := n) (by omega)
    obtain ⟨m', rfl, hm'⟩ := succ_of (k := 0) (n := m) (by omega)
    rw [den_succ T.t102]
    have hb : (Den tbl (m' + 1)).call 101 [.dat (.tup b.ds)] w = .ok (.dat (.tup b.keys)) w := by
      rw [den_succ T.t101]
      have g := c_keyLoop b (.tup b.ds) m' w (by omega) hl
      simp [runB, initE, toSl, b_plan_key, g]
    have g2 := ksz_go b hl (w := w) (A0 := .dat (.tup [.str "letter", .str x, .tup b.ds])) (A1 := .dat (.tup b.keys)) (A2 := .un)
    have hs := sum_szs b
    simp [runB, initE, toSl, b_part_key, Pa.d, Pa.key, at_0, at_1, at_2, gGetK, rk_4, hb, g2, -cSum_l, hs]
    omega
  | .wait x b, n, w, hn, hl => by
    simp only [Pa.dep] at hn
    obtain ⟨m, rfl, hm⟩ := succ_of (k := 1) (n := n) (by omega)
    obtain ⟨m', rfl, hm'⟩ := succ_of (k := 0) (n := m) (by omega)
    rw [den_succ T.t102]
    have hb : (Den tbl (m' + 1)).call 101 [.dat (.tup b.ds)] w = .ok (.dat (.tup b.keys)) w := by
      rw [den_succ T.t101]
      have g := c_keyLoop b (.tup b.ds) m' w (by omega) hl
      simp [runB, initE, toSl, b_plan_key, g]
    have g2 := ksz_go b hl (w := w) (A0 := .dat (.tup [.str "wait", .str x, .tup b.ds])) (A1 := .dat (.tup b.keys)) (A2 := .un)
    have hs := sum_szs b
    simp [runB, initE, toSl, b_part_key, Pa.d, Pa.key, at_0, at_1, at_2, gGetK, rk_5, hb, g2, -cSum_l, hs]
    omega
theorem c_keyLoop : ∀ (r : Pl) (P : D) (m : Nat) (w : World), 2 * r.dep + 1 ≤ m → r.lim →
    compGo (gT 2 (gsCons (gN 1) (gsCons (gN 2) gsNil))) tYes' (dTup (aCons (dCall (Den tbl m) 102 (aCons (dName 2) aNil)) (aCons (dName 1) aNil))) [.dat P, .un, .un] r.ds w = .ok r.keys w
  | .nil, P, m, w, hm, hl => rfl
  | .cons c p r, P, m, w, hm, hl => by
    simp only [Pl.dep] at hm
    obtain ⟨l1, l2, l3, l4⟩ := hl
    have h1 := c_pkey p m w (by omega) l3
    have h2 := c_keyLoop r P m w (by omega) l4
    simp [Pl.ds, go_cons, h1, h2, Pl.keys]
end
mutual
theorem c_lkey : ∀ (p : Pa) (n : Nat) (w : World), 2 * p.dep + 2 ≤ n → p.lim → (Den tbl n).call 108 [.dat p.d] w = .ok (.dat p.key) w
  | .name x, n, w, hn, hl => by
    obtain ⟨m, rfl, hm⟩ := succ_of (k := 1) (n := n) (by omega)
    have hz := c_lpsize T.toHasLS (.name x) m w (by simp only [Pa.dep]; omega) hl
    rw [den_succ T.t108]
    simp only [Pa.d, Pa.size] at hz
    simp [runB, initE, toSl, b__law_key, Pa.d, Pa.key, at_0, at_1, strsOf, ri_1, hz]
  | .mark j, n, w, hn, hl => by
    obtain ⟨m, rfl, hm⟩ := succ_of (k := 1) (n := n) (by omega)
    have hz := c_lpsize T.toHasLS (.mark j) m w (by simp only [Pa.dep]; omega) hl
    rw [den_succ T.t108]
    simp only [Pa.d, Pa.size] at hz
    simp [runB, initE, toSl, b__law_key, Pa.d, Pa.key, at_0, at_1, strsOf, ri_2, hz]
  | .got j, n, w, hn, hl => by
    obtain ⟨m, rfl, hm⟩ := succ_of (k := 1) (n := n) (by omega)
    have hz := c_lpsize T.toHasLS (.got j) m w (by simp only [Pa.dep]; omega) hl
    rw [den_succ T.t108]
    simp only [Pa.d, Pa.size] at hz
    simp [runB, initE, toSl, b__law_key, Pa.d, Pa.key, at_0, at_1, strsOf, ri_3, hz]
  | .letter x b, n, w, hn, hl => by
    have hn' := hn
    simp only [Pa.dep] at hn
    obtain ⟨m, rfl, hm⟩ := succ_of (k := 1) (n := n) (by omega)
    have hz := c_lpsize T.toHasLS (.letter x b) m w (by omega) hl
    have g := fun A0 A1 A2 => c_lkeyLoop b A0 A1 A2 m w (by omega) hl
    rw [den_succ T.t108]
    simp only [Pa.d, Pa.size] at hz
    simp [runB, initE, toSl, b__law_key, Pa.d, Pa.key, at_0, at_1, at_2, strsOf, ri_4, hz, g]
  | .wait x b, n, w, hn, hl => by
    have hn' := hn
    simp only [Pa.dep] at hn
    obtain ⟨m, rfl, hm⟩ := succ_of (k := 1) (n := n) (by omega)
    have hz := c_lpsize T.toHasLS (.wait x b) m w (by omega) hl
    have g := fun A0 A1 A2 => c_lkeyLoop b A0 A1 A2 m w (by omega) hl
    rw [den_succ T.t108]
    simp only [Pa.d, Pa.size] at hz
    simp [runB, initE, toSl, b__law_key, Pa.d, Pa.key, at_0, at_1, at_2, strsOf, ri_5, hz, g]
theorem c_lkeyLoop : ∀ (r : Pl) (A0 A1 A2 : Sl) (m : Nat) (w : World), 2 * r.dep + 2 ≤ m → r.lim →
    compGo (gT 2 (gsCons (gN 3) (gsCons (gN 4) gsNil))) tYes' (dTup (aCons (dCall (Den tbl m) 108 (aCons (dName 4) aNil)) (aCons (dName 3) aNil))) [A0, A1, A2, .un, .un] r.ds w = .ok r.keys w
  | .nil, A0, A1, A2, m, w, hm, hl => rfl
  | .cons c p r, A0, A1, A2, m, w, hm, hl => by
    simp only [Pl.dep] at hm
    obtain ⟨l1, l2, l3, l4⟩ := hl
    have h1 := c_lkey p m w (by omega) l3
    have h2 := c_lkeyLoop r A0 A1 A2 m w (by omega) l4
    simp [Pl.ds, go_cons, h1, h2, Pl.keys]
end
end
end Dl
/-! Pf6: sorting and joining computed. -/
namespace Dl
open PySem PySem.Spec PyProof.Rows L2 NdefX
theorem at_last {α : Type} {A : List α} {x : α} : atI (A ++ [x]) (-1) = some x := by
  unfold atI ixN
  rw [if_neg (by decide), if_pos (by simp; omega)]
  simp only [List.length_append, List.length_singleton, Option.bind_some]
  rw [show (-1 + ((A.length + 1 : Nat) : Int)).toNat = A.length by omega]
  simp
theorem ix_last {n : Nat} : ixN (n + 1) (-1) = some n := by
  unfold ixN
  rw [if_neg (by decide), if_pos (by omega)]
  congr 1
  omega
theorem set_last {α : Type} {A : List α} {x y : α} : (A ++ [x]).set A.length y = A ++ [y] := by
  rw [List.set_append_right _ _ (Nat.le_refl _)]
  simp
mutual
theorem Pa.key_dep : ∀ p : Pa, p.key.dep ≤ 3 * p.dep + 2
  | .name x => by simp [Pa.key]
  | .mark n => by simp [Pa.key]
  | .got n => by simp [Pa.key]
  | .letter x b => by have := Pl.keys_dep b; simp only [Pa.key, Pa.dep, dept_c, dept_n, dep_s, dep_i] at *; omega
  | .wait x b => by have := Pl.keys_dep b; simp only [Pa.key, Pa.dep, dept_c, dept_n, dep_s, dep_i] at *; omega
theorem Pl.keys_dep : ∀ p : Pl, (D.tup p.keys).dep ≤ 3 * p.dep + 4
  | .nil => by simp [Pl.keys]
  | .cons c p r => by have h1 := Pa.key_dep p; have h2 := Pl.keys_dep r; simp only [Pl.keys, Pl.dep, dept_c, dept_n, dep_i] at *; omega
end
abbrev keysI (l : List It) : List D := l.map fun i => i.2.key
theorem keysI_dep : ∀ l : List It, PyData.depthAll (D.pyAll (keysI l)) ≤ 3 * deL l + 2
  | [] => by simp [keysI, D.pyAll, PyData.depthAll]
  | i :: l => by
    have h1 := Pa.key_dep i.2
    have h2 := keysI_dep l
    have e : PyData.depthAll (D.pyAll (keysI (i :: l))) = max i.2.key.dep (PyData.depthAll (D.pyAll (keysI l))) := rfl
    rw [e]
    simp only [deL]
    omega
theorem keys_fit {rm : Nat} {l : List It} (h : 3 * deL l + 4 ≤ rm) : keysFit rm (keysI l) = true := by
  unfold keysFit
  simp only [Bool.and_eq_true, decide_eq_true_eq]
  refine ⟨⟨List.all_eq_true.mpr fun x hx => ?_, List.all_eq_true.mpr fun x hx => List.all_eq_true.mpr fun y hy => ?_⟩, ?_⟩
  · obtain ⟨i, _, rfl⟩ := List.mem_map.mp hx
    obtain ⟨r, e⟩ := key_tup i.2
    rw [e]
    rfl
  · obtain ⟨i, _, rfl⟩ := List.mem_map.mp hx
    obtain ⟨j, _, rfl⟩ := List.mem_map.mp hy
    rcases Pa.cmp i.2 j.2 with ⟨_, _, _, e, _⟩ | ⟨_, _, _, ⟨e, _⟩ | ⟨e, _⟩⟩ <;> simp only [e, Option.isSome_some]
  · have := keysI_dep l
    omega
theorem insK_insI (x : It) : ∀ l : List It, insK (x.2.key.py, itD x) (l.map fun i => (i.2.key.py, itD i)) = (insI x l).map fun i => (i.2.key.py, itD i)
  | [] => rfl
  | y :: r => by
    simp only [List.map_cons, insK, insI]
    by_cases h : klt y.2 x.2 = true
    · rw [if_pos h, if_pos (show tokLt y.2.key.py x.2.key.py = true from h), insK_insI x r, List.map_cons]
    · rw [if_neg h, if_neg (show ¬ tokLt y.2.key.py x.2.key.py = true from h), List.map_cons, List.map_cons]
theorem sortK_sortI : ∀ l : List It, sortK (l.map fun i => (i.2.key.py, itD i)) = (sortI l).map fun i => (i.2.key.py, itD i)
  | [] => rfl
  | x :: l => by simp only [List.map_cons, sortK, sortI, sortK_sortI l, insK_insI]
theorem sortD_I (l : List It) : sortD (keysI l) (l.map itD) = (sortI l).map itD := by
  have e : (D.pyAll (keysI l)).zip (l.map itD) = l.map fun i => (i.2.key.py, itD i) := by
    rw [pyAll_eq]
    induction l with
    | nil => rfl
    | cons i l ih => simp only [keysI, List.map_cons, List.zip_cons_cons] at *; rw [ih]
  unfold sortD
  rw [e, sortK_sortI, List.map_map]
  rfl
abbrev siBody (C : Cs) : Sd := (sIf (tAnd' (dTst (dBin (gGt C.room) (dBlt cLen (rCons (dName 1) rNil)) (dC (.int 0)))) (dTst (dBin (gEq C.room) (dBin gIx (dBin gIx (dName 1) (dUn gNeg (dC (.int 1)))) (dC (.int 1))) (dName 3)))) (sSetIx 1 (dUn gNeg (dC (.int 1))) (dTup (aCons (dBin gAdd (dBin gIx (dBin gIx (dName 1) (dUn gNeg (dC (.int 1)))) (dC (.int 0))) (dName 2)) (aCons (dName 3) aNil)))) (sAppend 1 (dTup (aCons (dName 2) (aCons (dName 3) aNil)))))
theorem gEq_p {rm : Nat} {p q : Pa} (h : 3 * p.dep + 2 ≤ rm) : gEq rm p.d q.d = some (.dat (.bl (decide (p = q)))) := by
  unfold gEq
  have := Pa.dep_le p
  rw [if_pos (by omega)]
  congr 3
  rw [Bool.eq_iff_iff]
  simp only [decide_eq_true_eq]
  exact Pa.eq_iff p q
theorem gEq_p2 {rm : Nat} {p q : Pa} (h : 3 * q.dep + 2 ≤ rm) : gEq rm p.d q.d = some (.dat (.bl (decide (p = q)))) := by
  unfold gEq
  have := Pa.dep_le q
  rw [if_pos (by omega)]
  congr 3
  rw [Bool.eq_iff_iff]
  simp only [decide_eq_true_eq]
  exact Pa.eq_iff p q
theorem join_loop {C : Cs} {P : Sl} {w : World} : ∀ (r : List It) (A : List D) (c : Nat) (p : Pa) (s2 s3 : Sl), A.length + 1 + r.length < 16777216 → 3 * p.dep + 2 ≤ C.room → 3 * deL r + 2 ≤ C.room →
    ∃ s2' s3', forGo (gT 2 (gsCons (gN 2) (gsCons (gN 3) gsNil))) (siBody C) (r.map itD) [P, .own (A ++ [itD (c, p)]), s2, s3] w = .ok (.nx [P, .own (A ++ (jg c p r).map itD), s2', s3']) w
  | [], A, c, p, s2, s3, hz, h1, h2 => ⟨s2, s3, rfl⟩
  | (d, q) :: r, A, c, p, s2, s3, hz, h1, h2 => by
    simp only [deL] at h2
    simp only [List.length_cons] at hz
    have g := gEq_p (rm := C.room) (p := p) (q := q) h1
    have hl : (0 : Int) < ((A ++ [itD (c, p)]).length : Nat) := by simp
    by_cases e : p = q
    · subst e
      obtain ⟨t2, t3, ih⟩ := join_loop (C := C) (P := P) (w := w) r A (c + d) p (.dat (.int d)) (.dat p.d) (by omega) h1 (by omega)
      refine ⟨t2, t3, ?_⟩
      simp only [jg, if_true]
      rw [← ih]
      have ea := at_last (A := A) (x := itD (c, p))
      have es := set_last (A := A) (x := itD (c, p)) (y := D.tup [.int ((c : Int) + d), p.d])
      have ei : ixN ((A ++ [itD (c, p)]).length) (-1) = some A.length := by rw [List.length_append]; exact ix_last
      simp only [itD] at ea es ei g hl
      have hz2 : A.length + 1 < 16777216 := by omega
      simp at hl ei
      simp [itD, for_cons, ea, at_0, at_1, g, ei, es, hl]
    · obtain ⟨t2, t3, ih⟩ := join_loop (C := C) (P := P) (w := w) r (A ++ [itD (c, p)]) d q (.dat (.int d)) (.dat q.d) (by simp; omega) (by omega) (by omega)
      refine ⟨t2, t3, ?_⟩
      simp only [jg, if_neg e, List.map_cons]
      have ea := at_last (A := A) (x := itD (c, p))
      have hz1 : A.length + 1 < 16777216 := by omega
      simp only [itD] at ea g hl ih
      simp at hl
      simp only [List.append_assoc, List.cons_append, List.nil_append] at ih
      simp [itD, for_cons, ea, at_0, at_1, g, e, hl, hz1, ih]
structure Sz (l : List It) (m : Nat) : Prop where
  len : l.length < 16777216
  dep : 2 * deL l + 3 ≤ m
  lim : ∀ i ∈ l, i.2.lim
section
variable {tbl : Nat → Option DefB} (T : HasKy tbl)
include T
theorem c_low {m : Nat} {w : World} {i : It} (hm : 2 * i.2.dep + 3 ≤ m) (hl : i.2.lim) : (Den tbl m).call 104 [.dat (itD i)] w = .ok (.dat i.2.key) w := by
  obtain ⟨m1, rfl, h1⟩ := succ_of (k := 2 * i.2.dep + 2) (n := m) (by omega)
  obtain ⟨m2, rfl, h2⟩ := succ_of (k := 2 * i.2.dep + 1) (n := m1) (by omega)
  rw [den_succ T.t104]
  have e : (Den tbl (m2 + 1)).call 103 [.dat (itD i)] w = .ok (.dat i.2.key) w := by
    rw [den_succ T.t103]
    have := c_pkey T i.2 m2 w h2 hl
    simp [runB, initE, toSl, b_sorted_items'clo, itD, at_1, this]
  simp [runB, initE, toSl, bLow, e]
theorem keys_low {m : Nat} {w : World} : ∀ l : List It, (∀ i ∈ l, 2 * i.2.dep + 3 ≤ m ∧ i.2.lim) → keysK (Den tbl m) 104 (l.map itD) w = .ok (keysI l) w
  | [], _ => rfl
  | i :: l, h => by
    have h1 := h i (.head _)
    have h2 := keys_low (w := w) l fun j hj => h j (.tail _ hj)
    simp only [List.map_cons, keysK, c_low T h1.1 h1.2, h2, keysI]
theorem c_lowL {m : Nat} {w : World} {i : It} (hm : 2 * i.2.dep + 4 ≤ m) (hl : i.2.lim) : (Den tbl m).call 110 [.dat (itD i)] w = .ok (.dat i.2.key) w := by
  obtain ⟨m1, rfl, h1⟩ := succ_of (k := 2 * i.2.dep + 3) (n := m) (by omega)
  obtain ⟨m2, rfl, h2⟩ := succ_of (k := 2 * i.2.dep + 2) (n := m1) (by omega)
  rw [den_succ T.t110]
  have e : (Den tbl (m2 + 1)).call 109 [.dat (itD i)] w = .ok (.dat i.2.key) w := by
    rw [den_succ T.t109]
    have := c_lkey T i.2 m2 w h2 hl
    simp [runB, initE, toSl, b__law_joined'clo, itD, at_1, this]
  simp [runB, initE, toSl, bLow, e]
theorem keys_lowL {m : Nat} {w : World} : ∀ l : List It, (∀ i ∈ l, 2 * i.2.dep + 4 ≤ m ∧ i.2.lim) → keysK (Den tbl m) 110 (l.map itD) w = .ok (keysI l) w
  | [], _ => rfl
  | i :: l, h => by
    have h1 := h i (.head _)
    have h2 := keys_lowL (w := w) l fun j hj => h j (.tail _ hj)
    simp only [List.map_cons, keysK, c_lowL T h1.1 h1.2, h2, keysI]
theorem run_join {C : Cs} {P : Sl} {w : World} {l : List It} (hz : l.length < 16777216) (hd : 3 * deL l + 2 ≤ C.room) :
    ∃ s2' s3', forGo (gT 2 (gsCons (gN 2) (gsCons (gN 3) gsNil))) (siBody C) ((sortI l).map itD) [P, .own [], .un, .un] w = .ok (.nx [P, .own ((J l).map itD), s2', s3']) w := by
  have pm := sortI_perm l
  unfold J
  have hz : (sortI l).length < 16777216 := by rw [pm.length_eq]; exact hz
  have hd : 3 * deL (sortI l) + 2 ≤ C.room := by
    have : deL (sortI l) ≤ deL l := deL_le.mpr fun i hi => deL_le.mp (Nat.le_refl _) i (pm.mem_iff.mp hi)
    omega
  generalize sortI l = m at *
  cases m with
  | nil => exact ⟨.un, .un, rfl⟩
  | cons a r =>
    obtain ⟨c, p⟩ := a
    simp only [deL] at hd
    simp only [List.length_cons] at hz
    obtain ⟨t2, t3, e⟩ := join_loop (C := C) (P := P) (w := w) r [] c p (.dat (.int c)) (.dat p.d) (by simp; omega) (by omega) (by omega)
    refine ⟨t2, t3, ?_⟩
    simp only [List.nil_append, itD] at e
    simp [joinL, itD, for_cons, e]
theorem c_sorted {n : Nat} {w : World} {l : List It} (hn : 2 * deL l + 4 ≤ n) (hz : l.length < 16777216) (hl : ∀ i ∈ l, i.2.lim) : (Den tbl n).call 105 [.dat (.lst (l.map itD))] w = .ok (.dat (ofL (J l)).d) w := by
  obtain ⟨m, rfl, hm⟩ := succ_of (k := 2 * deL l + 3) (n := n) (by omega)
  rw [den_succ T.t105]
  have hr : (Den tbl m).room = 16 * m + 200 := den_room tbl m
  have ek := keys_low T (m := m) (w := w) l fun i hi => ⟨by have := deL_le.mp (Nat.le_refl (deL l)) i hi; omega, hl i hi⟩
  have ef := keys_fit (rm := (Den tbl m).room) (l := l) (by omega)
  obtain ⟨t2, t3, e⟩ := run_join T (C := Den tbl m) (P := .dat (.lst (l.map itD))) (w := w) hz (by omega)
  have es := sortD_I l
  have ed := ds_ofL (J l)
  simp [runB, initE, toSl, b_sorted_items, ek, ef, es, e, ed]
theorem c_joined {n : Nat} {w : World} {l : List It} (hn : 2 * deL l + 5 ≤ n) (hz : l.length < 16777216) (hl : ∀ i ∈ l, i.2.lim) : (Den tbl n).call 111 [.dat (.lst (l.map itD))] w = .ok (.dat (ofL (J l)).d) w := by
  obtain ⟨m, rfl, hm⟩ := succ_of (k := 2 * deL l + 4) (n := n) (by omega)
  rw [den_succ T.t111]
  have hr : (Den tbl m).room = 16 * m + 200 := den_room tbl m
  have ek := keys_lowL T (m := m) (w := w) l fun i hi => ⟨by have := deL_le.mp (Nat.le_refl (deL l)) i hi; omega, hl i hi⟩
  have ef := keys_fit (rm := (Den tbl m).room) (l := l) (by omega)
  obtain ⟨t2, t3, e⟩ := run_join T (C := Den tbl m) (P := .dat (.lst (l.map itD))) (w := w) hz (by omega)
  have es := sortD_I l
  have ed := ds_ofL (J l)
  simp [runB, initE, toSl, b__law_joined, ek, ef, es, e, ed]
end
end Dl
/-! Pf7: the program's folding and plain forms computed. -/
namespace Dl
open PySem PySem.Spec PyProof.Rows L2 NdefX
section
variable {α : Type} {A B : List α} {x : α} {i : Nat}
theorem mid_cut (h : A.length = i) : cutD (A ++ B) none (some (i : Int)) = A := by
  rw [cutD_to]
  subst h
  simp
theorem mid_cut1 (h : A.length = i) : cutD (A ++ x :: B) (some ((i : Int) + 1)) none = B := by
  have := cutD_from (l := A ++ x :: B) (k := i + 1)
  rw [show (((i + 1 : Nat)) : Int) = (i : Int) + 1 by omega] at this
  rw [this]
  subst h
  simp [List.drop_append]
end
/-- what a plan must be for the runs -/
structure Fit (k : Nat) (p : Pl) : Prop where
  ok : p.ok k = true
  sz : p.size < limN
  wi : p.within.length < 16777216
theorem Fit.N {k : Nat} {p : Pl} (h : Fit k p) : Fit k p.N := ⟨Pl.N_ok h.ok, by rw [Pl.N_size]; exact h.sz, Nat.lt_of_le_of_lt (Pl.N_wi p) h.wi⟩
theorem Fit.cls {k : Nat} {p : Pl} (h : Fit k p) : p.cls := (Pl.lim_size p k h.ok h.sz).2
theorem Fit.lim {k : Nat} {p : Pl} (h : Fit k p) : p.lim := (Pl.lim_size p k h.ok h.sz).1
theorem len_ofL (l : List It) : (ofL l).within.length ≥ l.length := by
  rw [within_ofL]
  induction l with
  | nil => exact Nat.le_refl _
  | cons i l ih => rw [wiL_cons, List.length_cons]; omega
theorem Fit.sub {k : Nat} {l m : List It} (h : Fit k (ofL l)) (s : m.Sublist l) : Fit k (ofL m) := by
  refine ⟨?_, ?_, ?_⟩
  · have := h.ok
    rw [ok_ofL] at *
    exact List.all_eq_true.mpr fun i hi => List.all_eq_true.mp this i (s.subset hi)
  · have := h.sz
    rw [size_ofL] at *
    have e : szL m ≤ szL l := by
      clear h this
      induction s with
      | slnil => exact Nat.le_refl _
      | cons a _ ih => rw [szL_cons]; omega
      | cons_cons a _ ih => rw [szL_cons, szL_cons]; omega
    omega
  · have := h.wi
    rw [within_ofL] at *
    have e : wiL m ≤ wiL l := by
      clear h this
      induction s with
      | slnil => exact Nat.le_refl _
      | cons a _ ih => rw [wiL_cons]; omega
      | cons_cons a _ ih => rw [wiL_cons, wiL_cons]; omega
    omega
structure HasRz (tbl : Nat → Option DefB) : Prop extends HasM tbl where
  t55 : tbl 55 = some ⟨4, 4, b_raised'clo⟩
  t57 : tbl 57 = some ⟨3, 4, b_raised⟩
section
variable {tbl : Nat → Option DefB} (T : HasRz tbl)
include T
theorem act_raiseN {a l : Nat} {w : World} : ActOk tbl 1 55 [.int l, .int a] w (raiseF a l) := by
  intro p k n hp hn
  obtain ⟨m, rfl, hm⟩ := succ_of (k := 0) hn
  rw [den_succ T.t55]
  cases p with
  | name y => simp [runB, initE, toSl, b_raised'clo, Pa.d, at_0, ne_14, raiseF, Pl.ds, Pa.raised]
  | mark j => simp [runB, initE, toSl, b_raised'clo, Pa.d, at_0, ne_15, raiseF, Pl.ds, Pa.raised]
  | got j =>
    by_cases h : k + l ≤ j
    · have h' : (k : Int) + l ≤ j := by omega
      simp [runB, initE, toSl, b_raised'clo, Pa.d, at_0, at_1, h, h', raiseF, Pl.ds, Pa.raised]
    · have h' : ¬ (k : Int) + l ≤ j := by omega
      simp [runB, initE, toSl, b_raised'clo, Pa.d, at_0, at_1, h, h', raiseF, Pl.ds, Pa.raised]
  | letter d b => cases hp
  | wait d b => cases hp
theorem c_raisedN {a l : Nat} {p : Pl} {n : Nat} {w : World} (hw : allL w = true) (hn : p.dep + 3 ≤ n) (hp : p.cls) (hz : p.within.length < 16777216) : (Den tbl n).call 57 [.dat p.d, .dat (.int a), .dat (.int l)] w = .ok (.dat (p.raised a l 0).d) w := by
  obtain ⟨m, rfl, hm⟩ := succ_of (k := p.dep + 2) hn
  rw [den_succ T.t57]
  have big := limN_big
  have e := c_mapped T.toHasM hw (act_raiseN T (a := a) (l := l) (w := w)) (fun p k _ => ⟨by omega, trivial⟩) p 0 m (by omega) hp (by rw [Pl.mapA_raise, Pl.raised_len]; exact hz)
  rw [Pl.mapA_raise] at e
  simp only [Pl.d, Int.cast_ofNat_Int] at e
  simp [runB, initE, toSl, b_raised, sDefRet, dClo, capsOf, cloK, hw, e, Pa.d]
end
structure HasF (tbl : Nat → Option DefB) : Prop extends HasKy tbl, HasRz tbl where
  t106 : tbl 106 = some ⟨1, 6, b_plain_of⟩
  t107 : tbl 107 = some ⟨2, 6, b_folded⟩
abbrev fdBody (C : Cs) : Sd := (sIf (tAnd' (dTst (dBin (gEq C.room) (dBin gIx (dName 4) (dC (.int 0))) (dC (.str "wait")))) (dTst (dBin (gEq C.room) (dBin gIx (dName 4) (dC (.int 1))) (dName 0)))) (sSeq (sSet 5 (dBin gAdd (dSl (dName 1) none (some (dName 2))) (dSl (dName 1) (some (dBin gAdd (dName 2) (dC (.int 1)))) none)))
  (sIf (dTst (dBin (gEq C.room) (dBin gIx (dName 4) (dC (.int 2))) (dCall C 57 (aCons (dName 5) (aCons (dC (.int 1)) (aCons (dC (.int 1)) aNil)))))) (sRet (dTup (aCons (dBin gAdd (dName 3) (dC (.int 1))) (aCons (dTup (aCons (dC (.str "wait")) (aCons (dName 0) (aCons (dName 5) aNil)))) aNil)))) sNil)) sNil)
/-- of a plain row the last item alone can be folded -/
theorem fold_last {x : Str} {A s : List It} {m : Nat} (ss : SS (A ++ (m, .wait x (ofL (A ++ s)).up) :: s)) (hp : posI (A ++ (m, .wait x (ofL (A ++ s)).up) :: s)) : s = [] := by
  cases s with
  | nil => rfl
  | cons j r =>
    exfalso
    obtain ⟨_, s2, _⟩ := List.pairwise_append.mp ss
    have h := klt_size ((List.pairwise_cons.mp s2).1 j (.head _))
    have hj : j ∈ A ++ j :: r := by simp
    have hp' : posI (A ++ j :: r) := fun i hi => hp i (by
      rcases List.mem_append.mp hi with hi | hi
      · exact List.mem_append_left _ hi
      · exact List.mem_append_right _ (.tail _ hi))
    have := mem_size hp' hj
    simp only [Pa.size, Pl.raised_size, size_ofL] at h
    omega
instance : DecidableEq Pl := fun p q => decidable_of_iff ((D.tup p.ds).eq (.tup q.ds) = true) (Pl.eq_iff p q)
theorem gEq_pl {rm : Nat} {p q : Pl} (h : 3 * p.dep + 4 ≤ rm) : gEq rm (.tup p.ds) (.tup q.ds) = some (.dat (.bl (decide (p = q)))) := by
  unfold gEq
  have := Pl.dep_le p
  simp only [Pl.d] at this
  rw [if_pos (by omega)]
  congr 3
  rw [Bool.eq_iff_iff]
  simp only [decide_eq_true_eq]
  exact Pl.eq_iff p q
section
variable {tbl : Nat → Option DefB} (T : HasF tbl) {w : World}
include T
theorem fd_step {k : Nat} {x : Str} {m : Nat} (hw : allL w = true) {A s : List It} {c : Nat} {p : Pa} (s5 : Sl) (hf : Fit k (ofL (A ++ (c, p) :: s))) (hm : deL (A ++ (c, p) :: s) + 3 ≤ m) :
    ∃ s5', fdBody (Den tbl m) [.dat (.str x), .dat (.tup ((A ++ (c, p) :: s).map itD)), .dat (.int A.length), .dat (.int c), .dat p.d, s5] w = if p = .wait x (ofL (A ++ s)).up then .ok (.rt (.dat (.tup [.int ((c + 1 : Nat) : Int), (Pa.wait x (ofL (A ++ s))).d]))) w
      else .ok (.nx [.dat (.str x), .dat (.tup ((A ++ (c, p) :: s).map itD)), .dat (.int A.length), .dat (.int c), .dat p.d, s5']) w := by
  have hr : (Den tbl m).room = 16 * m + 200 := den_room tbl m
  rw [deL_app] at hm
  simp only [deL] at hm
  cases p with
  | name y => exact ⟨s5, by simp [Pa.d, at_0, ne_7]⟩
  | mark y => exact ⟨s5, by simp [Pa.d, at_0, ne_9]⟩
  | got y => exact ⟨s5, by simp [Pa.d, at_0, ne_11]⟩
  | letter y b => exact ⟨s5, by simp [Pa.d, at_0, ne_4]⟩
  | wait y b =>
    by_cases hy : y = x
    · subst hy
      have hsub : Fit k (ofL (A ++ s)) := hf.sub (List.Sublist.append (List.Sublist.refl _) (List.sublist_cons_self _ _))
      have cr := c_raisedN T.toHasRz (a := 1) (l := 1) (p := ofL (A ++ s)) (n := m) hw (by rw [dep_ofL, deL_app]; omega) hsub.cls hsub.wi
      simp only [Pa.dep] at hm
      have g := gEq_pl (rm := (Den tbl m).room) (p := b) (q := (ofL (A ++ s)).up) (by omega)
      have c1 : ∀ X : D, cutD (A.map itD ++ X :: s.map itD) none (some (A.length : Int)) = A.map itD := fun X => mid_cut (by simp)
      have c2 : ∀ X : D, cutD (A.map itD ++ X :: s.map itD) (some ((A.length : Int) + 1)) none = s.map itD := fun X => mid_cut1 (by simp)
      have dr : (ofL (A ++ s)).ds = A.map itD ++ s.map itD := by rw [ds_ofL, List.map_append]
      have hz : A.length + s.length ≤ sizeLine := by
        have := len_ofL (A ++ s)
        have := hsub.wi
        rw [List.length_append] at *
        rw [sizeLine_eq]
        omega
      refine ⟨.dat (.tup (A.map itD ++ s.map itD)), ?_⟩
      simp only [Pl.d, dr, Int.cast_ofNat_Int] at cr
      simp only [Pl.up] at g
      by_cases hb : b = (ofL (A ++ s)).up
      · subst hb
        simp only [decide_true] at g
        simp [Pa.d, at_0, at_1, at_2, itD, cr, g, c1, c2, hz, dr]
      · have hb' : ¬ b = (ofL (A ++ s)).raised 1 1 0 := hb
        simp [Pa.d, at_0, at_1, at_2, itD, cr, g, hb', c1, c2, hz, dr]
    · exact ⟨s5, by simp [Pa.d, at_0, at_1, hy]⟩
abbrev fdTg : Tgt := gT 2 (gsCons (gN 2) (gsCons (gT 2 (gsCons (gN 3) (gsCons (gN 4) gsNil))) gsNil))
theorem fd_loop {k : Nat} {x : Str} {m : Nat} {l : List It} (hw : allL w = true) (ss : SS l) (hp : posI l) (hf : Fit k (ofL l)) (hm : deL l + 3 ≤ m) : ∀ (s A : List It) (s2 s3 s4 s5 : Sl), A ++ s = l →
    (∃ s2' s3' s4' s5', forGo fdTg (fdBody (Den tbl m)) (enumD A.length (s.map itD)) [.dat (.str x), .dat (.tup (l.map itD)), s2, s3, s4, s5] w = .ok (.nx [.dat (.str x), .dat (.tup (l.map itD)), s2', s3', s4', s5']) w ∧ (s ≠ [] → ∀ r M, l ≠ r ++ [(M, .wait x (ofL r).up)])) ∨
    (∃ r M, l = r ++ [(M, .wait x (ofL r).up)] ∧ forGo fdTg (fdBody (Den tbl m)) (enumD A.length (s.map itD)) [.dat (.str x), .dat (.tup (l.map itD)), s2, s3, s4, s5] w = .ok (.rt (.dat (.tup [.int ((M + 1 : Nat) : Int), (Pa.wait x (ofL r)).d]))) w)
  | [], A, s2, s3, s4, s5, e => .inl ⟨s2, s3, s4, s5, rfl, fun z => absurd rfl z⟩
  | (c, p) :: s, A, s2, s3, s4, s5, e => by
    subst e
    obtain ⟨s5', st⟩ := fd_step T (x := x) (m := m) hw s5 hf hm
    by_cases hp' : p = .wait x (ofL (A ++ s)).up
    · rw [if_pos hp'] at st
      subst hp'
      have es := fold_last ss hp
      subst es
      refine .inr ⟨A, c, by simp, ?_⟩
      simp only [List.map_cons, List.map_nil, enumD, List.append_nil] at st ⊢
      rw [for_cons]
      simp [itD] at st ⊢
      rw [st]
      rfl
    · rw [if_neg hp'] at st
      have hnx : forGo fdTg (fdBody (Den tbl m)) (enumD A.length (((c, p) :: s).map itD)) [.dat (.str x), .dat (.tup ((A ++ (c, p) :: s).map itD)), s2, s3, s4, s5] w = forGo fdTg (fdBody (Den tbl m)) (enumD (A ++ [(c, p)]).length (s.map itD)) [.dat (.str x), .dat (.tup ((A ++ (c, p) :: s).map itD)), .dat (.int A.length), .dat (.int c), .dat p.d, s5'] w := by
        simp only [List.map_cons, enumD, List.length_append, List.length_singleton]
        rw [for_cons]
        simp [itD] at st ⊢
        rw [st]
        rfl
      rcases fd_loop hw ss hp hf hm s (A ++ [(c, p)]) (.dat (.int A.length)) (.dat (.int c)) (.dat p.d) s5' (by simp) with ⟨t2, t3, t4, t5, h1, h2⟩ | ⟨r, M, h1, h2⟩
      · refine .inl ⟨t2, t3, t4, t5, hnx.trans h1, fun _ r M z => ?_⟩
        by_cases hs : s = []
        · subst hs
          obtain ⟨q1, q2⟩ := List.append_inj' z rfl
          subst q1
          simp only [List.cons.injEq, Prod.mk.injEq, and_true] at q2
          exact hp' (by rw [List.append_nil]; exact q2.2)
        · exact h2 hs r M z
      · exact .inr ⟨r, M, h1, hnx.trans h2⟩
theorem c_foldP {k : Nat} {x : Str} {n : Nat} {l : List It} (hw : allL w = true) (ss : SS l) (hf : Fit k (ofL l)) (hn : deL l + 4 ≤ n) : (Den tbl n).call 107 [.dat (.str x), .dat (ofL l).d] w = .ok (.dat (.tup [.int ((foldL x l).1 : Int), (foldL x l).2.d])) w := by
  obtain ⟨m, rfl, hm⟩ := succ_of (k := deL l + 3) (n := n) (by omega)
  have hp : posI l := okI_pos (k := k) (by have := hf.ok; rw [ok_ofL] at this; exact this)
  rw [den_succ T.t107]
  have ed := ds_ofL l
  have ed2 : (ofL l).d = .tup (l.map itD) := by show D.tup (ofL l).ds = _; rw [ed]
  have hnil : ∀ (h : ∀ r M, l ≠ r ++ [(M, .wait x (ofL r).up)]), foldL x l = (1, .wait x (ofL l)) := fun h => by
    rcases foldL_cases x l with g | ⟨r, M, g, _⟩
    · exact g
    · exact absurd g (h r M)
  rcases fd_loop T (x := x) hw ss hp hf hm l [] .un .un .un .un rfl with ⟨t2, t3, t4, t5, h1, h2⟩ | ⟨r, M, h1, h2⟩
  · have hfl : foldL x l = (1, .wait x (ofL l)) := by
      by_cases hl : l = []
      · subst hl; rfl
      · exact hnil (h2 hl)
    rw [hfl]
    simp only [List.length_nil] at h1
    simp [runB, initE, toSl, b_folded, ed, ed2, h1, Pa.d]
  · have hfl : foldL x l = (M + 1, .wait x (ofL r)) := by rw [h1]; exact foldL_last
    rw [hfl]
    simp only [List.length_nil] at h2
    simp [runB, initE, toSl, b_folded, ed2, h2]
end
end Dl
/-! Pf8: the program's plain forms computed. -/
namespace Dl
open PySem PySem.Spec PyProof.Rows L2 NdefX
structure HasAl (tbl : Nat → Option DefB) : Prop extends HasF tbl, HasK tbl where
  t60 : tbl 60 = some ⟨2, 2, b_check_two⟩
  t115 : tbl 115 = some ⟨2, 2, b_alike⟩
structure HasPo (tbl : Nat → Option DefB) : Prop extends HasAl tbl, HasZ0 tbl where
  t48 : tbl 48 = some ⟨1, 1, b_is_plan⟩
  t116 : tbl 116 = some ⟨1, 1, b_plain⟩
  t117 : tbl 117 = some ⟨1, 1, b_is_plain⟩
abbrev poTg : Tgt := gT 2 (gsCons (gN 2) (gsCons (gN 3) gsNil))
abbrev poBody (C : Cs) : Sd := (sIf (dTst (dBin (gEq C.room) (dBin gIx (dName 3) (dC (.int 0))) (dC (.str "letter")))) (sAppend 1 (dTup (aCons (dName 2) (aCons (dTup (aCons (dC (.str "letter")) (aCons (dBin gIx (dName 3) (dC (.int 1))) (aCons (dCall C 106 (aCons (dBin gIx (dName 3) (dC (.int 2))) aNil)) aNil)))) aNil)))) (sIf (dTst (dBin (gEq C.room) (dBin gIx (dName 3) (dC (.int 0))) (dC (.str "wait")))) (sSeq (sAsg (gT 2 (gsCons (gN 4) (gsCons (gN 5) gsNil))) (dCall C 107 (aCons (dBin gIx (dName 3) (dC (.int 1))) (aCons (dCall C 106 (aCons (dBin gIx (dName 3) (dC (.int 2))) aNil)) aNil))))
  (sAppend 1 (dTup (aCons (dBin gMul (dName 2) (dName 4)) (aCons (dName 5) aNil))))) (sAppend 1 (dTup (aCons (dName 2) (aCons (dName 3) aNil))))))
theorem Fit.head {k c : Nat} {p : Pa} {r : Pl} (h : Fit k (.cons c p r)) : 1 ≤ c ∧ p.ok k = true ∧ p.size < limN ∧ p.within.length < 16777216 ∧ c < limN ∧ Fit k r := by
  have ok := h.ok
  have sz := h.sz
  have wi := h.wi
  simp only [Pl.ok, Bool.and_eq_true, decide_eq_true_eq] at ok
  simp only [Pl.size] at sz
  simp only [Pl.within, List.length_cons, List.length_append] at wi
  have h1 := Nat.le_mul_of_pos_left p.size ok.1.1
  have h2 := Nat.le_mul_of_pos_right c (psize_pos p)
  exact ⟨ok.1.1, ok.1.2, by omega, by omega, by omega, ok.2, by omega, by omega⟩
theorem NI_lim {k : Nat} {p : Pl} (h : Fit k p) : (∀ i ∈ p.NI, i.2.lim) ∧ p.NI.length < 16777216 := by
  have ok := Pl.NI_ok p k h.ok
  have sz := Pl.NI_size p
  have hp := okI_pos ok
  refine ⟨fun i hi => ?_, ?_⟩
  · have := mem_size hp hi
    have o := List.all_eq_true.mp ok i hi
    unfold okI at o
    simp only [Bool.and_eq_true] at o
    have := h.sz
    exact (Pa.lim_size i.2 k o.2 (by omega)).1
  · have := len_within p
    have := h.wi
    rw [NI_L, List.length_map, ← List.length_map (f := itD), ← ds_L]
    omega
section
variable {tbl : Nat → Option DefB} (T : HasF tbl) {w : World}
include T
/-- what the loop does over the items of r -/
def PoOk (tbl : Nat → Option DefB) (w : World) (m : Nat) (r : Pl) : Prop := ∀ (P : Sl) (acc : List D) (s2 s3 s4 s5 : Sl), acc.length + r.within.length < 16777216 →
  ∃ s2' s3' s4' s5', forGo poTg (poBody (Den tbl m)) r.ds [P, .own acc, s2, s3, s4, s5] w = .ok (.nx [P, .own (acc ++ r.NI.map itD), s2', s3', s4', s5']) w
omit T in
theorem sublevel {a b m : Nat} (h : a + 1 ≤ b) (h2 : 2 * b + 5 ≤ m) : ∃ m', m = m' + 1 ∧ 2 * a + 5 ≤ m' := ⟨m - 1, by omega, by omega⟩
theorem po_call {k m : Nat} {b : Pl} (hf : Fit k b) (hm : 2 * b.dep + 5 ≤ m) (h : PoOk tbl w m b) : (Den tbl (m + 1)).call 106 [.dat (.tup b.ds)] w = .ok (.dat (.tup b.N.ds)) w := by
  obtain ⟨t2, t3, t4, t5, e⟩ := h (.dat (.tup b.ds)) [] .un .un .un .un (by have := hf.wi; simpa using this)
  obtain ⟨l1, l2⟩ := NI_lim hf
  have hd := Pl.NI_dep b
  have cs := c_sorted T.toHasKy (w := w) (n := m) (l := b.NI) (by omega) l2 l1
  rw [den_succ T.t106]
  simp only [List.nil_append] at e
  have en : b.N.ds = (ofL (J b.NI)).ds := rfl
  simp only [Pl.d] at cs
  simp [runB, initE, toSl, b_plain_of, e, cs, en]
theorem po_loop (hw : allL w = true) : ∀ (r : Pl) (k m : Nat), Fit k r → 2 * r.dep + 5 ≤ m → PoOk tbl w m r
  | .nil, k, m, hf, hm => fun P acc s2 s3 s4 s5 hz => ⟨s2, s3, s4, s5, by simp [Pl.ds, Pl.NI]⟩
  | .cons c p r, k, m, hf, hm => fun P acc s2 s3 s4 s5 hz => by
    obtain ⟨hc, pok, psz, pwi, hcl, hr⟩ := hf.head
    simp only [Pl.dep] at hm
    simp only [Pl.within, List.length_cons, List.length_append] at hz
    have h1 : acc.length < 16777216 := by omega
    have nx := fun s2 s3 s4 s5 => po_loop hw r k m hr (by omega) P (acc ++ [itD (c * p.N.1, p.N.2)]) s2 s3 s4 s5 (by simp; omega)
    cases p with
    | name y =>
      obtain ⟨t2, t3, t4, t5, e⟩ := nx (.dat (.int c)) (.dat (Pa.name y).d) s4 s5
      refine ⟨t2, t3, t4, t5, ?_⟩
      simp [Pa.N, itD, Pa.d] at e
      simp [for_cons, Pl.ds, Pl.NI, Pa.N, itD, Pa.d, at_0, ne_6, ne_7, h1, e]
    | mark y =>
      obtain ⟨t2, t3, t4, t5, e⟩ := nx (.dat (.int c)) (.dat (Pa.mark y).d) s4 s5
      refine ⟨t2, t3, t4, t5, ?_⟩
      simp [Pa.N, itD, Pa.d] at e
      simp [for_cons, Pl.ds, Pl.NI, Pa.N, itD, Pa.d, at_0, ne_8, ne_9, h1, e]
    | got y =>
      obtain ⟨t2, t3, t4, t5, e⟩ := nx (.dat (.int c)) (.dat (Pa.got y).d) s4 s5
      refine ⟨t2, t3, t4, t5, ?_⟩
      simp [Pa.N, itD, Pa.d] at e
      simp [for_cons, Pl.ds, Pl.NI, Pa.N, itD, Pa.d, at_0, ne_10, ne_11, h1, e]
    | letter y b =>
      simp only [Pa.dep] at hm
      simp only [Pa.ok, Bool.and_eq_true] at pok
      simp only [Pa.size] at psz
      simp only [Pa.within] at pwi
      have fb : Fit k b := ⟨pok.2, by omega, by omega⟩
      obtain ⟨m', rfl, hm'⟩ := sublevel (a := b.dep) (b := b.dep + 1) (m := m) (Nat.le_refl _) (by omega)
      have cb := po_call T fb hm' (po_loop hw b k m' fb hm')
      obtain ⟨t2, t3, t4, t5, e⟩ := nx (.dat (.int c)) (.dat (Pa.letter y b).d) s4 s5
      refine ⟨t2, t3, t4, t5, ?_⟩
      have en : b.N.ds = (ofL (J b.NI)).ds := rfl
      rw [en] at cb
      simp [Pa.N, itD, Pa.d] at e
      simp [for_cons, Pl.ds, Pl.NI, Pa.N, itD, Pa.d, at_0, at_1, at_2, cb, h1, e]
    | wait y b =>
      simp only [Pa.dep] at hm
      simp only [Pa.ok, Bool.and_eq_true] at pok
      simp only [Pa.size] at psz
      simp only [Pa.within] at pwi
      have fb : Fit (k + 1) b := ⟨pok.2, by omega, by omega⟩
      obtain ⟨m', rfl, hm'⟩ := sublevel (a := b.dep) (b := b.dep + 1) (m := m) (Nat.le_refl _) (by omega)
      have cb := po_call T fb hm' (po_loop hw b (k + 1) m' fb hm')
      have en : b.N.ds = (ofL (J b.NI)).ds := rfl
      have hdj : deL (J b.NI) ≤ b.dep := Nat.le_trans (J_de _) (Pl.NI_dep b)
      have cf := c_foldP T (w := w) (x := y) (n := m' + 1) (l := J b.NI) (k := k + 1) hw (J_ss _) fb.N (by omega)
      obtain ⟨t2, t3, t4, t5, e⟩ := nx (.dat (.int c)) (.dat (Pa.wait y b).d) (.dat (.int (foldL y (J b.NI)).1)) (.dat (foldL y (J b.NI)).2.d)
      refine ⟨t2, t3, t4, t5, ?_⟩
      rw [en] at cb
      simp only [Pl.d] at cf
      have hmu : (foldL y (J b.NI)).1 ≤ (Pa.wait y b).size := by
        have := Pa.N_size (.wait y b)
        have h2 := Nat.le_mul_of_pos_right (Pa.wait y b).N.1 (psize_pos (Pa.wait y b).N.2)
        simp only [Pa.N] at this h2
        omega
      have mo : mulOk (c : Int) ((foldL y (J b.NI)).1 : Int) = true := mulOk_nat hcl (by simp only [Pa.size] at hmu; omega)
      simp [Pa.N, itD, Pa.d] at e
      simp [for_cons, Pl.ds, Pl.NI, Pa.N, itD, Pa.d, at_0, at_1, at_2, ne_5, cb, cf, mo, h1, e]
theorem c_plainOf {k n : Nat} {p : Pl} (hw : allL w = true) (hf : Fit k p) (hn : 2 * p.dep + 6 ≤ n) : (Den tbl n).call 106 [.dat p.d] w = .ok (.dat p.N.d) w := by
  obtain ⟨m, rfl, hm⟩ := succ_of (k := 2 * p.dep + 5) (n := n) (by omega)
  exact po_call T hf hm (po_loop T hw p k m hf hm)
end
section
variable {tbl : Nat → Option DefB} (T : HasAl tbl) {w : World}
include T
theorem c_checkTwo {n : Nat} {p q : Pl} (hp : p.ok 0 = true) (hq : q.ok 0 = true) (h1 : 2 * p.dep + 6 ≤ n) (h2 : 2 * q.dep + 6 ≤ n) : (Den tbl n).call 60 [.dat p.d, .dat q.d] w = .ok (.dat .non) w := by
  obtain ⟨m, rfl, hm⟩ := succ_of (k := 2 * p.dep + 5) (n := n) (by omega)
  rw [den_succ T.t60]
  have e1 := c_checkPlan T.toHasK (w := w) (n := m) (p := p) (by omega) hp
  have e2 := c_checkPlan T.toHasK (w := w) (n := m) (p := q) (by omega) hq
  simp [runB, initE, toSl, b_check_two, e1, e2]
theorem c_alike {n : Nat} {p q : Pl} (hw : allL w = true) (hp : Fit 0 p) (hq : Fit 0 q) (h1 : 2 * p.dep + 7 ≤ n) (h2 : 2 * q.dep + 7 ≤ n) : (Den tbl n).call 115 [.dat p.d, .dat q.d] w = .ok (.dat (.bl (decide (p.N = q.N)))) w := by
  obtain ⟨m, rfl, hm⟩ := succ_of (k := 2 * p.dep + 6) (n := n) (by omega)
  rw [den_succ T.t115]
  have hr : (Den tbl m).room = 16 * m + 200 := den_room tbl m
  have e0 := c_checkTwo T (w := w) (n := m) hp.ok hq.ok hm (by omega)
  have e1 := c_plainOf T.toHasF (n := m) hw hp hm
  have e2 := c_plainOf T.toHasF (n := m) hw hq (by omega)
  have hd := Pl.N_dep p
  have g := gEq_pl (rm := (Den tbl m).room) (p := p.N) (q := q.N) (by omega)
  simp only [Pl.d] at e1 e2
  simp [runB, initE, toSl, b_alike, e0, e1, e2, g]
end
section
variable {tbl : Nat → Option DefB} (T : HasPo tbl) {w : World}
include T
theorem c_isPlanN {p : Pl} {n : Nat} {w : World} (hn : 2 * p.dep + 5 ≤ n) : (Den tbl n).call 48 [.dat p.d] w = .ok (.dat (.bl (p.ok 0))) w := by
  obtain ⟨m, rfl, hm⟩ := succ_of (k := 2 * p.dep + 4) hn
  rw [den_succ T.t48]
  have e := c_plan_in T.toHasC p 0 m w hm
  simp only [Pl.d, Int.cast_ofNat_Int] at e
  simp [runB, initE, toSl, b_is_plan, e]
theorem c_plain {n : Nat} {p : Pl} (hw : allL w = true) (hf : Fit 0 p) (hn : 2 * p.dep + 7 ≤ n) : (Den tbl n).call 116 [.dat p.d] w = .ok (.dat p.N.d) w := by
  obtain ⟨m, rfl, hm⟩ := succ_of (k := 2 * p.dep + 6) (n := n) (by omega)
  rw [den_succ T.t116]
  have e1 := c_checkPlan T.toHasK (w := w) (n := m) (p := p) (by omega) hf.ok
  have e2 := c_plainOf T.toHasF (n := m) hw hf hm
  simp [runB, initE, toSl, b_plain, e1, e2]
theorem c_isPlain {n : Nat} {p : Pl} (hw : allL w = true) (hp : Fit 0 p) (h1 : 2 * p.dep + 7 ≤ n) : (Den tbl n).call 117 [.dat p.d] w = .ok (.dat (.bl (decide (p.N = p)))) w := by
  obtain ⟨m, rfl, hm⟩ := succ_of (k := 2 * p.dep + 6) (n := n) (by omega)
  rw [den_succ T.t117]
  have hr : (Den tbl m).room = 16 * m + 200 := den_room tbl m
  have e0 := c_plan_in T.toHasC p 0 m w (by omega)
  have e1 := c_plainOf T.toHasF (n := m) hw hp hm
  have hd := Pl.N_dep p
  have g := gEq_pl (rm := (Den tbl m).room) (p := p.N) (q := p) (by omega)
  rw [hp.ok] at e0
  simp only [Pl.d, Int.cast_ofNat_Int] at e0 e1
  simp [runB, initE, toSl, b_is_plain, e0, e1, g]
end
end Dl
/-! Pf9: the law's forms computed. -/
namespace Dl
open PySem PySem.Spec PyProof.Rows L2 NdefX
structure HasRa (tbl : Nat → Option DefB) : Prop where
  t88 : tbl 88 = some ⟨3, 6, b__law_raise⟩
abbrev raBdN (C : Cs) : Sd := (sSeq (sIf (tAnd' (dTst (dBin (gEq C.room) (dBin gIx (dName 5) (dC (.int 0))) (dC (.str "got")))) (dTst (dBin (gGe C.room) (dBin gIx (dName 5) (dC (.int 1))) (dName 2)))) (sSet 5 (dTup (aCons (dC (.str "got")) (aCons (dBin gAdd (dBin gIx (dName 5) (dC (.int 1))) (dName 1)) aNil)))) sNil)
  (sSeq (sIf (dTst (dBin (gEq C.room) (dBin gIx (dName 5) (dC (.int 0))) (dC (.str "letter")))) (sSet 5 (dTup (aCons (dC (.str "letter")) (aCons (dBin gIx (dName 5) (dC (.int 1))) (aCons (dCall C 88 (aCons (dBin gIx (dName 5) (dC (.int 2))) (aCons (dName 1) (aCons (dName 2) aNil)))) aNil))))) sNil)
  (sSeq (sIf (dTst (dBin (gEq C.room) (dBin gIx (dName 5) (dC (.int 0))) (dC (.str "wait")))) (sSet 5 (dTup (aCons (dC (.str "wait")) (aCons (dBin gIx (dName 5) (dC (.int 1))) (aCons (dCall C 88 (aCons (dBin gIx (dName 5) (dC (.int 2))) (aCons (dName 1) (aCons (dBin gAdd (dName 2) (dC (.int 1))) aNil)))) aNil))))) sNil)
  (sAppend 3 (dTup (aCons (dName 4) (aCons (dName 5) aNil)))))))
section
variable {tbl : Nat → Option DefB} (T : HasRa tbl) {w : World} {a : Nat}
include T
theorem raN_loop : ∀ (r : Pl) (P : D) (k m : Nat) (acc : List D) (s4 s5 : Sl), r.dep ≤ m → acc.length + r.within.length < 16777216 →
    ∃ s4' s5', forGo (gT 2 (gsCons (gN 4) (gsCons (gN 5) gsNil))) (raBdN (Den tbl m)) r.ds [.dat P, .dat (.int a), .dat (.int k), .own acc, s4, s5] w = .ok (.nx [.dat P, .dat (.int a), .dat (.int k), .own (acc ++ (r.raised a 0 k).ds), s4', s5']) w
  | .nil, P, k, m, acc, s4, s5, hm, hz => ⟨s4, s5, by simp [Pl.ds, Pl.raised]⟩
  | .cons c p r, P, k, m, acc, s4, s5, hm, hz => by
    simp only [Pl.dep] at hm
    simp only [Pl.within, List.length_cons, List.length_append] at hz
    obtain ⟨s4', s5', e⟩ := raN_loop r P k m (acc ++ [.tup [.int c, (p.raised a 0 k).d]]) (.dat (.int c)) (.dat (p.raised a 0 k).d) (by omega) (by simp; omega)
    refine ⟨s4', s5', ?_⟩
    have h1 : acc.length < 16777216 := by omega
    simp only [List.append_assoc, List.cons_append, List.nil_append] at e
    cases p with
    | name y => simp [Pa.raised, Pa.d] at e; simp [for_cons, Pl.ds, Pl.raised, Pa.raised, Pa.d, at_0, ne_14, ne_6, ne_7, h1, e]
    | mark j => simp [Pa.raised, Pa.d] at e; simp [for_cons, Pl.ds, Pl.raised, Pa.raised, Pa.d, at_0, ne_15, ne_8, ne_9, h1, e]
    | got j =>
      by_cases h : k ≤ j
      · have h' : (k : Int) ≤ j := by omega
        simp [Pa.raised, h, Pa.d] at e
        simp [for_cons, Pl.ds, Pl.raised, Pa.raised, Pa.d, h, h', at_0, at_1, ne_10, ne_11, h1, e]
      · have h' : ¬ (k : Int) ≤ j := by omega
        simp [Pa.raised, h, Pa.d] at e
        simp [for_cons, Pl.ds, Pl.raised, Pa.raised, Pa.d, h, h', at_0, at_1, ne_10, ne_11, h1, e]
    | letter d b =>
      simp only [Pa.dep] at hm
      simp only [Pa.within] at hz
      obtain ⟨m', rfl, hm'⟩ := succ_of (k := b.dep) (n := m) (by omega)
      obtain ⟨t4, t5, eb⟩ := raN_loop b (.tup b.ds) k m' [] .un .un (by omega) (by simp; omega)
      have hc : (Den tbl (m' + 1)).call 88 [.dat (.tup b.ds), .dat (.int a), .dat (.int k)] w = .ok (.dat (.tup (b.raised a 0 k).ds)) w := by
        rw [den_succ T.t88]
        simp only [List.nil_append] at eb
        simp [runB, initE, toSl, b__law_raise, eb]
      simp [Pa.raised, Pa.d] at e
      simp [for_cons, Pl.ds, Pl.raised, Pa.raised, Pa.d, at_0, at_1, at_2, ne_16, ne_4, hc, h1, e]
    | wait d b =>
      simp only [Pa.dep] at hm
      simp only [Pa.within] at hz
      obtain ⟨m', rfl, hm'⟩ := succ_of (k := b.dep) (n := m) (by omega)
      obtain ⟨t4, t5, eb⟩ := raN_loop b (.tup b.ds) (k + 1) m' [] .un .un (by omega) (by simp; omega)
      have hc : (Den tbl (m' + 1)).call 88 [.dat (.tup b.ds), .dat (.int a), .dat (.int (k + 1))] w = .ok (.dat (.tup (b.raised a 0 (k + 1)).ds)) w := by
        rw [den_succ T.t88]
        simp only [List.nil_append] at eb
        simp at eb
        simp [runB, initE, toSl, b__law_raise, eb]
      simp [Pa.raised, Pa.d] at e
      simp [for_cons, Pl.ds, Pl.raised, Pa.raised, Pa.d, at_0, at_1, at_2, ne_17, ne_5, hc, h1, e]
theorem c_lraiseN {p : Pl} {n : Nat} (hn : p.dep + 1 ≤ n) (hz : p.within.length < 16777216) : (Den tbl n).call 88 [.dat p.d, .dat (.int 1), .dat (.int 1)] w = .ok (.dat p.up.d) w := by
  obtain ⟨m, rfl, hm⟩ := succ_of (k := p.dep) (n := n) (by omega)
  obtain ⟨t4, t5, eb⟩ := raN_loop T (w := w) (a := 1) p (.tup p.ds) 1 m [] .un .un (by omega) (by simpa using hz)
  rw [den_succ T.t88]
  have e : p.up = p.raised 1 0 1 := Pl.rs 1 1 p 0
  rw [e]
  simp only [List.nil_append, Int.cast_ofNat_Int] at eb
  simp [runB, initE, toSl, b__law_raise, eb]
end
structure HasLf (tbl : Nat → Option DefB) : Prop extends HasKy tbl, HasRa tbl where
  t112 : tbl 112 = some ⟨1, 9, b__law_form⟩
abbrev lfInner (C : Cs) : Sd := (sSeq (sSet 7 (dBlt cTuple (rCons (dComp (iSeq (dName 4)) [8] (gN 8) (dTst (dBin (gNe C.room) (dBin gIx (dName 8) (dC (.int 1))) (dName 6))) (dName 8)) rNil)))
  (sIf (tAnd' (dTst (dBin (gEq C.room) (dBin gIx (dName 6) (dC (.int 0))) (dC (.str "wait")))) (tAnd' (dTst (dBin (gEq C.room) (dBin gIx (dName 6) (dC (.int 1))) (dBin gIx (dName 3) (dC (.int 1))))) (dTst (dBin (gEq C.room) (dBin gIx (dName 6) (dC (.int 2))) (dCall C 88 (aCons (dName 7) (aCons (dC (.int 1)) (aCons (dC (.int 1)) aNil)))))))) (sSeq (sSet 4 (dName 7))
  (sSeq (sSet 2 (dBin gMul (dName 2) (dBin gAdd (dName 5) (dC (.int 1)))))
  sBreak)) sNil))
abbrev lfBody (C : Cs) : Sd := (sSeq (sIf (dTst (dBin (gEq C.room) (dBin gIx (dName 3) (dC (.int 0))) (dC (.str "letter")))) (sSet 3 (dTup (aCons (dC (.str "letter")) (aCons (dBin gIx (dName 3) (dC (.int 1))) (aCons (dCall C 112 (aCons (dBin gIx (dName 3) (dC (.int 2))) aNil)) aNil))))) sNil)
  (sSeq (sIf (dTst (dBin (gEq C.room) (dBin gIx (dName 3) (dC (.int 0))) (dC (.str "wait")))) (sSeq (sSet 4 (dCall C 112 (aCons (dBin gIx (dName 3) (dC (.int 2))) aNil)))
  (sSeq (sFor (iSeq (dName 4)) (gT 2 (gsCons (gN 5) (gsCons (gN 6) gsNil))) (lfInner C))
  (sSet 3 (dTup (aCons (dC (.str "wait")) (aCons (dBin gIx (dName 3) (dC (.int 1))) (aCons (dName 4) aNil))))))) sNil)
  (sAppend 1 (dTup (aCons (dName 2) (aCons (dName 3) aNil))))))
theorem gNe_p {rm : Nat} {p q : Pa} (h : 3 * q.dep + 2 ≤ rm) : gNe rm p.d q.d = some (.dat (.bl (!decide (p = q)))) := by
  have g := gEq_p2 (rm := rm) (p := p) (q := q) h
  unfold gEq at g
  unfold gNe
  split at g
  · rename_i hc
    rw [if_pos hc]
    simp only [Option.some.injEq, RV.dat.injEq, D.bl.injEq] at g
    rw [g]
  · cases g
theorem rest_go {rm : Nat} {w : World} {E : Ev} {q : Pa} (h6 : E[6]? = some (.dat q.d)) (hl : 8 < E.length) (hd : 3 * q.dep + 2 ≤ rm) : ∀ l : List It,
    compGo (gN 8) (dTst (dBin (gNe rm) (dBin gIx (dName 8) (dC (.int 1))) (dName 6))) (dName 8) E (l.map itD) w = .ok ((l.filter fun i => !decide (i.2 = q)).map itD) w
  | [] => rfl
  | (c, p) :: l => by
    have ih := rest_go h6 hl hd l (w := w)
    have g := gNe_p (rm := rm) (p := p) (q := q) hd
    have e8 : (E.set 8 (.dat (.tup [.int c, p.d])))[8]? = some (.dat (.tup [.int c, p.d])) := List.getElem?_set_self hl
    have e6 : (E.set 8 (.dat (.tup [.int c, p.d])))[6]? = some (.dat q.d) := by rw [List.getElem?_set_ne (by decide)]; exact h6
    by_cases e : p = q
    · subst e
      simp only [decide_true, Bool.not_true] at g
      simp [itD, go_cons, e8, e6, at_1, g, ih]
    · simp only [e, decide_false, Bool.not_false] at g
      simp [itD, go_cons, e8, e6, at_1, g, ih, e]
theorem ss_filter {A s : List It} {c : Nat} {q : Pa} (ss : SS (A ++ (c, q) :: s)) : (A ++ (c, q) :: s).filter (fun i => !decide (i.2 = q)) = A ++ s := by
  obtain ⟨s1, s2, s3⟩ := List.pairwise_append.mp ss
  have h1 : A.filter (fun i => !decide (i.2 = q)) = A := List.filter_eq_self.mpr fun i hi => by
    have := klt_ne (s3 i hi (c, q) (.head _))
    simpa using this
  have h2 : s.filter (fun i => !decide (i.2 = q)) = s := List.filter_eq_self.mpr fun i hi => by
    have := klt_ne ((List.pairwise_cons.mp s2).1 i hi)
    simpa using fun z : i.2 = q => this z.symm
  rw [List.filter_append, h1, List.filter_cons]
  simp [h2]
section
variable {tbl : Nat → Option DefB} (T : HasLf tbl) {w : World}
include T
theorem lf_inner {k : Nat} {x : Str} {m c : Nat} {l : List It} {P : Sl} {acc : List D} {Z : D} (ss : SS l) (hp : posI l) (hf : Fit k (ofL l)) (hm : deL l + 3 ≤ m) (hc : c < limN) (hz : szL l + 1 < limN) : ∀ (s A : List It) (s5 s6 s7 s8 : Sl), A ++ s = l →
    (∃ s5' s6' s7' s8', forGo (gT 2 (gsCons (gN 5) (gsCons (gN 6) gsNil))) (lfInner (Den tbl m)) (s.map itD) [P, .own acc, .dat (.int c), .dat (.tup [.str "wait", .str x, Z]), .dat (.tup (l.map itD)), s5, s6, s7, s8] w = .ok (.nx [P, .own acc, .dat (.int c), .dat (.tup [.str "wait", .str x, Z]), .dat (.tup (l.map itD)), s5', s6', s7', s8']) w ∧ (s ≠ [] → ∀ r M, l ≠ r ++ [(M, .wait x (ofL r).up)])) ∨
    (∃ r M s5' s6' s7' s8', l = r ++ [(M, .wait x (ofL r).up)] ∧ forGo (gT 2 (gsCons (gN 5) (gsCons (gN 6) gsNil))) (lfInner (Den tbl m)) (s.map itD) [P, .own acc, .dat (.int c), .dat (.tup [.str "wait", .str x, Z]), .dat (.tup (l.map itD)), s5, s6, s7, s8] w = .ok (.nx [P, .own acc, .dat (.int ((c * (M + 1) : Nat) : Int)), .dat (.tup [.str "wait", .str x, Z]), .dat (.tup (r.map itD)), s5', s6', s7', s8']) w)
  | [], A, s5, s6, s7, s8, e => .inl ⟨s5, s6, s7, s8, rfl, fun z => absurd rfl z⟩
  | (d, p) :: s, A, s5, s6, s7, s8, e => by
    subst e
    have hr : (Den tbl m).room = 16 * m + 200 := den_room tbl m
    have hm' := hm
    rw [deL_app] at hm'
    simp only [deL] at hm'
    have fl := ss_filter ss
    have rg := rest_go (rm := (Den tbl m).room) (w := w) (E := [P, .own acc, .dat (.int c), .dat (.tup [.str "wait", .str x, Z]), .dat (.tup ((A ++ (d, p) :: s).map itD)), .dat (.int d), .dat p.d, s7, .un]) (q := p) rfl (by simp) (by omega) (A ++ (d, p) :: s)
    rw [fl] at rg
    have hsub : Fit k (ofL (A ++ s)) := hf.sub (List.Sublist.append (List.Sublist.refl _) (List.sublist_cons_self _ _))
    have lr := c_lraiseN T.toHasRa (w := w) (p := ofL (A ++ s)) (n := m) (by rw [dep_ofL, deL_app]; omega) hsub.wi
    have dr : (ofL (A ++ s)).ds = (A ++ s).map itD := ds_ofL _
    simp only [Pl.d, dr] at lr
    have hl1 : (A ++ (d, p) :: s).map itD = A.map itD ++ itD (d, p) :: s.map itD := by simp
    -- one turn that goes on
    have go : p ≠ .wait x (ofL (A ++ s)).up → ∃ t7 t8, forGo (gT 2 (gsCons (gN 5) (gsCons (gN 6) gsNil))) (lfInner (Den tbl m)) (((d, p) :: s).map itD) [P, .own acc, .dat (.int c), .dat (.tup [.str "wait", .str x, Z]), .dat (.tup ((A ++ (d, p) :: s).map itD)), s5, s6, s7, s8] w =
        forGo (gT 2 (gsCons (gN 5) (gsCons (gN 6) gsNil))) (lfInner (Den tbl m)) (s.map itD) [P, .own acc, .dat (.int c), .dat (.tup [.str "wait", .str x, Z]), .dat (.tup ((A ++ (d, p) :: s).map itD)), .dat (.int d), .dat p.d, t7, t8] w := fun hp' => by
      refine ⟨.dat (.tup ((A ++ s).map itD)), s8, ?_⟩
      generalize hG : (A ++ (d, p) :: s).map itD = G at rg
      cases p with
      | name y => simp only [Pa.d] at rg; simp [for_cons, itD, rg, Pa.d, at_0, ne_7]
      | mark y => simp only [Pa.d] at rg; simp [for_cons, itD, rg, Pa.d, at_0, ne_9]
      | got y => simp only [Pa.d] at rg; simp [for_cons, itD, rg, Pa.d, at_0, ne_11]
      | letter y b => simp only [Pa.d] at rg; simp [for_cons, itD, rg, Pa.d, at_0, ne_4]
      | wait y b =>
        by_cases hy : y = x
        · subst hy
          simp only [Pa.dep] at hm'
          have g := gEq_pl (rm := (Den tbl m).room) (p := b) (q := (ofL (A ++ s)).up) (by omega)
          have hb : ¬ b = (ofL (A ++ s)).up := fun z => hp' (by rw [z])
          simp only [hb, decide_false] at g
          simp only [List.map_append] at lr
          simp only [Pa.d] at rg
          simp [for_cons, itD, rg, Pa.d, at_0, at_1, at_2, lr, g]
        · simp only [Pa.d] at rg; simp [for_cons, itD, rg, Pa.d, at_0, at_1, hy]
    by_cases hp' : p = .wait x (ofL (A ++ s)).up
    · subst hp'
      have es := fold_last ss hp
      subst es
      have hd : d + 1 < limN := by
        rw [szL_app, szL_cons] at hz
        have := Nat.le_mul_of_pos_right d (psize_pos (Pa.wait x (ofL (A ++ [])).up))
        simp only at hz
        omega
      have mo : mulOk (c : Int) ((d : Int) + 1) = true := mulOk_nat (i := c) (j := d + 1) hc hd
      have g := gEq_pl (rm := (Den tbl m).room) (p := (ofL (A ++ [])).up) (q := (ofL (A ++ [])).up) (by simp only [Pa.dep] at hm'; omega)
      simp only [decide_true] at g
      refine .inr ⟨A, d, .dat (.int d), .dat (Pa.wait x (ofL (A ++ [])).up).d, .dat (.tup (A.map itD)), s8, by simp, ?_⟩
      generalize hG : (A ++ [(d, Pa.wait x (ofL (A ++ [])).up)]).map itD = G at rg
      simp only [List.append_nil] at rg lr g
      simp only [Pa.d] at rg
      simp [for_cons, itD, rg, Pa.d, at_0, at_1, at_2, lr, g, mo]
    · obtain ⟨t7, t8, hnx⟩ := go hp'
      rcases lf_inner ss hp hf hm hc hz s (A ++ [(d, p)]) (.dat (.int d)) (.dat p.d) t7 t8 (by simp) with ⟨a5, a6, a7, a8, h1, h2⟩ | ⟨r, M, a5, a6, a7, a8, h1, h2⟩
      · refine .inl ⟨a5, a6, a7, a8, hnx.trans h1, fun _ r M z => ?_⟩
        by_cases hs : s = []
        · subst hs
          obtain ⟨q1, q2⟩ := List.append_inj' z rfl
          subst q1
          simp only [List.cons.injEq, Prod.mk.injEq, and_true] at q2
          exact hp' (by rw [List.append_nil]; exact q2.2)
        · exact h2 hs r M z
      · exact .inr ⟨r, M, a5, a6, a7, a8, h1, hnx.trans h2⟩
end
end Dl
/-! Pf10: the law's forms computed. -/
namespace Dl
open PySem PySem.Spec PyProof.Rows L2 NdefX
section
variable {tbl : Nat → Option DefB} (T : HasLf tbl) {w : World}
include T
def LfOk (tbl : Nat → Option DefB) (w : World) (m : Nat) (r : Pl) : Prop := ∀ (P : Sl) (acc : List D) (s2 s3 s4 s5 s6 s7 s8 : Sl), acc.length + r.within.length < 16777216 →
  ∃ s2' s3' s4' s5' s6' s7' s8', forGo poTg (lfBody (Den tbl m)) r.ds [P, .own acc, s2, s3, s4, s5, s6, s7, s8] w = .ok (.nx [P, .own (acc ++ r.NI.map itD), s2', s3', s4', s5', s6', s7', s8']) w
omit T in
theorem sublevel2 {a b m : Nat} (h : a + 1 ≤ b) (h2 : 2 * b + 6 ≤ m) : ∃ m', m = m' + 1 ∧ 2 * a + 6 ≤ m' := ⟨m - 1, by omega, by omega⟩
theorem lf_call {k m : Nat} {b : Pl} (hf : Fit k b) (hm : 2 * b.dep + 6 ≤ m) (h : LfOk tbl w m b) : (Den tbl (m + 1)).call 112 [.dat (.tup b.ds)] w = .ok (.dat (.tup b.N.ds)) w := by
  obtain ⟨t2, t3, t4, t5, t6, t7, t8, e⟩ := h (.dat (.tup b.ds)) [] .un .un .un .un .un .un .un (by have := hf.wi; simpa using this)
  obtain ⟨l1, l2⟩ := NI_lim hf
  have hd := Pl.NI_dep b
  have cs := c_joined T.toHasKy (w := w) (n := m) (l := b.NI) (by omega) l2 l1
  rw [den_succ T.t112]
  simp only [List.nil_append] at e
  have en : b.N.ds = (ofL (J b.NI)).ds := rfl
  simp only [Pl.d] at cs
  simp [runB, initE, toSl, b__law_form, e, cs, en]
theorem lf_loop : ∀ (r : Pl) (k m : Nat), Fit k r → 2 * r.dep + 6 ≤ m → LfOk tbl w m r
  | .nil, k, m, hf, hm => fun P acc s2 s3 s4 s5 s6 s7 s8 hz => ⟨s2, s3, s4, s5, s6, s7, s8, by simp [Pl.ds, Pl.NI]⟩
  | .cons c p r, k, m, hf, hm => fun P acc s2 s3 s4 s5 s6 s7 s8 hz => by
    obtain ⟨hc, pok, psz, pwi, hcl, hr⟩ := hf.head
    simp only [Pl.dep] at hm
    simp only [Pl.within, List.length_cons, List.length_append] at hz
    have h1 : acc.length < 16777216 := by omega
    have nx := fun s2 s3 s4 s5 s6 s7 s8 => lf_loop r k m hr (by omega) P (acc ++ [itD (c * p.N.1, p.N.2)]) s2 s3 s4 s5 s6 s7 s8 (by simp; omega)
    cases p with
    | name y =>
      obtain ⟨t2, t3, t4, t5, t6, t7, t8, e⟩ := nx (.dat (.int c)) (.dat (Pa.name y).d) s4 s5 s6 s7 s8
      refine ⟨t2, t3, t4, t5, t6, t7, t8, ?_⟩
      simp [Pa.N, itD, Pa.d] at e
      simp [for_cons, Pl.ds, Pl.NI, Pa.N, itD, Pa.d, at_0, ne_6, ne_7, h1, e]
    | mark y =>
      obtain ⟨t2, t3, t4, t5, t6, t7, t8, e⟩ := nx (.dat (.int c)) (.dat (Pa.mark y).d) s4 s5 s6 s7 s8
      refine ⟨t2, t3, t4, t5, t6, t7, t8, ?_⟩
      simp [Pa.N, itD, Pa.d] at e
      simp [for_cons, Pl.ds, Pl.NI, Pa.N, itD, Pa.d, at_0, ne_8, ne_9, h1, e]
    | got y =>
      obtain ⟨t2, t3, t4, t5, t6, t7, t8, e⟩ := nx (.dat (.int c)) (.dat (Pa.got y).d) s4 s5 s6 s7 s8
      refine ⟨t2, t3, t4, t5, t6, t7, t8, ?_⟩
      simp [Pa.N, itD, Pa.d] at e
      simp [for_cons, Pl.ds, Pl.NI, Pa.N, itD, Pa.d, at_0, ne_10, ne_11, h1, e]
    | letter y b =>
      simp only [Pa.dep] at hm
      simp only [Pa.ok, Bool.and_eq_true] at pok
      simp only [Pa.size] at psz
      simp only [Pa.within] at pwi
      have fb : Fit k b := ⟨pok.2, by omega, by omega⟩
      obtain ⟨m', rfl, hm'⟩ := sublevel2 (a := b.dep) (b := b.dep + 1) (m := m) (Nat.le_refl _) (by omega)
      have cb := lf_call T fb hm' (lf_loop b k m' fb hm')
      have en : b.N.ds = (ofL (J b.NI)).ds := rfl
      rw [en] at cb
      obtain ⟨t2, t3, t4, t5, t6, t7, t8, e⟩ := nx (.dat (.int c)) (.dat (Pa.letter y (ofL (J b.NI))).d) s4 s5 s6 s7 s8
      refine ⟨t2, t3, t4, t5, t6, t7, t8, ?_⟩
      simp [Pa.N, itD, Pa.d] at e
      simp [for_cons, Pl.ds, Pl.NI, Pa.N, itD, Pa.d, at_0, at_1, at_2, ne_4, cb, h1, e]
    | wait y b =>
      simp only [Pa.dep] at hm
      simp only [Pa.ok, Bool.and_eq_true] at pok
      simp only [Pa.size] at psz
      simp only [Pa.within] at pwi
      have fb : Fit (k + 1) b := ⟨pok.2, by omega, by omega⟩
      obtain ⟨m', rfl, hm'⟩ := sublevel2 (a := b.dep) (b := b.dep + 1) (m := m) (Nat.le_refl _) (by omega)
      have cb := lf_call T fb hm' (lf_loop b (k + 1) m' fb hm')
      have hj : (ofL (J b.NI)).ds = (J b.NI).map itD := ds_ofL _
      have en : b.N.ds = (J b.NI).map itD := hj
      rw [en] at cb
      have hdj : deL (J b.NI) ≤ b.dep := Nat.le_trans (J_de _) (Pl.NI_dep b)
      have ss := J_ss b.NI
      have hp := J_pos (NI_pos fb.ok)
      have hsz : szL (J b.NI) + 1 < limN := by rw [J_sz, Pl.NI_size]; exact psz
      have fj : Fit (k + 1) (ofL (J b.NI)) := fb.N
      have key := fun A8 => lf_inner T (x := y) (c := c) (P := P) (acc := acc) (Z := .tup b.ds) (m := m' + 1) (w := w) ss hp fj (by omega) hcl hsz (J b.NI) [] s5 s6 s7 A8 rfl
      rcases key s8 with ⟨a5, a6, a7, a8, h3, h2⟩ | ⟨r', M, a5, a6, a7, a8, hl, h3⟩
      · have hfl : foldL y (J b.NI) = (1, .wait y (ofL (J b.NI))) := by
          rcases foldL_cases y (J b.NI) with g | ⟨r', M, g, _⟩
          · exact g
          · by_cases hn : J b.NI = []
            · rw [hn]; rfl
            · exact absurd g (h2 hn r' M)
        obtain ⟨t2, t3, t4, t5, t6, t7, t8, e⟩ := nx (.dat (.int c)) (.dat (Pa.wait y (ofL (J b.NI))).d) (.dat (.tup ((J b.NI).map itD))) a5 a6 a7 a8
        refine ⟨t2, t3, t4, t5, t6, t7, t8, ?_⟩
        simp only [Pa.N, hfl] at e
        simp [itD, Pa.d, hj] at e h3 cb
        simp [for_cons, Pl.ds, Pl.NI, Pa.N, hfl, itD, Pa.d, at_0, at_1, at_2, ne_5, cb, h3, h1, e, hj]
      · have hfl : foldL y (J b.NI) = (M + 1, .wait y (ofL r')) := by rw [hl]; exact foldL_last
        have hr' : (ofL r').ds = r'.map itD := ds_ofL _
        obtain ⟨t2, t3, t4, t5, t6, t7, t8, e⟩ := nx (.dat (.int ((c * (M + 1) : Nat) : Int))) (.dat (Pa.wait y (ofL r')).d) (.dat (.tup (r'.map itD))) a5 a6 a7 a8
        refine ⟨t2, t3, t4, t5, t6, t7, t8, ?_⟩
        simp only [Pa.N, hfl] at e
        simp [itD, Pa.d, hr'] at e h3 cb
        simp [for_cons, Pl.ds, Pl.NI, Pa.N, hfl, itD, Pa.d, at_0, at_1, at_2, ne_5, cb, h3, h1, e, hr']
theorem c_lform {k n : Nat} {p : Pl} (hf : Fit k p) (hn : 2 * p.dep + 7 ≤ n) : (Den tbl n).call 112 [.dat p.d] w = .ok (.dat p.N.d) w := by
  obtain ⟨m, rfl, hm⟩ := succ_of (k := 2 * p.dep + 6) (n := n) (by omega)
  exact lf_call T hf hm (lf_loop T p k m hf hm)
end
end Dl
/-! Pf11: plans written otherwise. -/
namespace Dl
open PySem PySem.Spec PyProof.Rows L2 NdefX
/-- M: the item j parted, unfolded, within changed likewise -/
structure Pc (k : Nat) (j : It) (M : List It) : Prop where
  e : Eqv M [j]
  sz : szL M = j.1 * j.2.size
  ok : M.all (okI k) = true
  len : M.length ≤ 2
  dep : ∀ i ∈ M, i.2.dep ≤ 2 * j.2.dep
  wi : wiL M ≤ 4 ^ (j.2.dep + 1) * (1 + j.2.within.length)
structure Sp (k : Nat) (L M : List It) : Prop where
  e : Eqv M L
  sz : szL M = szL L
  ok : M.all (okI k) = true
  len : M.length ≤ 2 * L.length
  dep : deL M ≤ 2 * deL L
  wi : wiL M ≤ 4 ^ (deL L + 1) * wiL L
  per : ∀ i ∈ M, ∃ j ∈ L, i.1 * i.2.size ≤ j.1 * j.2.size ∧ i.2.dep ≤ 2 * j.2.dep ∧ 1 + i.2.within.length ≤ 4 ^ (j.2.dep + 1) * (1 + j.2.within.length)
theorem Sp.nil {k : Nat} : Sp k [] [] := ⟨.refl, rfl, rfl, Nat.le_refl _, Nat.le_refl _, Nat.zero_le _, fun i hi => nomatch hi⟩
theorem mem_szL {l : List It} {i : It} (hi : i ∈ l) : i.1 * i.2.size ≤ szL l := by
  induction l with
  | nil => cases hi
  | cons a r ih =>
    rw [szL_cons]
    rcases List.mem_cons.mp hi with rfl | hi
    · omega
    · have := ih hi; omega
theorem mem_wiL {l : List It} {i : It} (hi : i ∈ l) : 1 + i.2.within.length ≤ wiL l := by
  induction l with
  | nil => cases hi
  | cons a r ih =>
    rw [wiL_cons]
    rcases List.mem_cons.mp hi with rfl | hi
    · omega
    · have := ih hi; omega
theorem Sp.cons {k : Nat} {j : It} {L M1 M2 : List It} (h : Pc k j M1) (t : Sp k L M2) : Sp k (j :: L) (M1 ++ M2) where
  e := eqv_app h.e t.e
  sz := by rw [szL_app, szL_cons, h.sz, t.sz]
  ok := by rw [List.all_append, h.ok, t.ok]; rfl
  len := by have := h.len; have := t.len; rw [List.length_append, List.length_cons]; omega
  dep := by
    have h1 : deL M1 ≤ 2 * j.2.dep := deL_le.mpr h.dep
    have := t.dep
    rw [deL_app]
    simp only [deL]
    omega
  wi := by
    have h1 := h.wi
    have h2 := t.wi
    rw [wiL_app, wiL_cons]
    simp only [deL]
    have a1 : 4 ^ (j.2.dep + 1) ≤ 4 ^ (max j.2.dep (deL L) + 1) := Nat.pow_le_pow_right (by omega) (by omega)
    have a2 : 4 ^ (deL L + 1) ≤ 4 ^ (max j.2.dep (deL L) + 1) := Nat.pow_le_pow_right (by omega) (by omega)
    have b1 := Nat.mul_le_mul_right (1 + j.2.within.length) a1
    have b2 := Nat.mul_le_mul_right (wiL L) a2
    rw [Nat.mul_add]
    omega
  per := fun i hi => by
    rcases List.mem_append.mp hi with hi | hi
    · exact ⟨j, .head _, by have := mem_szL hi; rw [h.sz] at this; exact this, h.dep i hi, Nat.le_trans (mem_wiL hi) h.wi⟩
    · obtain ⟨j', hj, z⟩ := t.per i hi
      exact ⟨j', .tail _ hj, z⟩
theorem Sp.perm {k : Nat} {L M M' : List It} (h : Sp k L M) (p : M'.Perm M) : Sp k L M' where
  e := (eqv_perm p).trans h.e
  sz := (szL_perm p).trans h.sz
  ok := by rw [← h.ok]; exact p.all_eq
  len := by rw [p.length_eq]; exact h.len
  dep := deL_le.mpr fun i hi => deL_le.mp h.dep i (p.mem_iff.mp hi)
  wi := by rw [wiL_perm p]; exact h.wi
  per := fun i hi => h.per i (p.mem_iff.mp hi)
theorem Sp.N_eq {k : Nat} {b : Pl} {M : List It} (h : Sp k b.L M) (hb : b.ok k = true) : (ofL M).N = b.N := by
  refine N_of_eqv (j := k) (by rw [ok_ofL]; exact h.ok) hb ?_
  rw [L_ofL]
  exact h.e
theorem J_of_N {a b : Pl} (h : a.N = b.N) : J a.NI = J b.NI := by
  have := congrArg Pl.L h
  unfold Pl.N at this
  rwa [L_ofL, L_ofL] at this
/-- p1: the part p, changed within -/
structure Pw (k : Nat) (p p1 : Pa) : Prop where
  n : p1.N = p.N
  sz : p1.size = p.size
  ok : p1.ok k = true
  dep : p1.dep + 1 ≤ 2 * p.dep ∨ (p1.leaf = true ∧ p1.dep = 0)
  wi : p1.within.length ≤ 4 ^ p.dep * p.within.length
theorem Pw.leaf {k : Nat} {p : Pa} (h : p.ok k = true) (hl : p.leaf = true) : Pw k p p := by
  refine ⟨rfl, rfl, h, .inr ⟨hl, ?_⟩, ?_⟩
  · cases p <;> first | rfl | cases hl
  · have : p.within = [] := by cases p <;> first | rfl | cases hl
    rw [this]
    exact Nat.zero_le _
theorem Pw.letter {k : Nat} {x : Str} {b : Pl} {M : List It} (h : (Pa.letter x b).ok k = true) (s : Sp k b.L M) : Pw k (.letter x b) (.letter x (ofL M)) := by
  simp only [Pa.ok, Bool.and_eq_true] at h
  refine ⟨?_, ?_, ?_, .inl ?_, ?_⟩
  · simp only [Pa.N, J_of_N (s.N_eq h.2)]
  · simp only [Pa.size, size_ofL, s.sz, ← size_L]
  · simp only [Pa.ok, ok_ofL, s.ok, h.1, Bool.and_self]
  · have := s.dep
    rw [← dep_L] at this
    simp only [Pa.dep, dep_ofL]
    omega
  · have := s.wi
    rw [← dep_L, ← within_L] at this
    simp only [Pa.within, within_ofL, Pa.dep]
    exact this
theorem Pw.wait {k : Nat} {x : Str} {b : Pl} {M : List It} (h : (Pa.wait x b).ok k = true) (s : Sp (k + 1) b.L M) : Pw k (.wait x b) (.wait x (ofL M)) := by
  simp only [Pa.ok, Bool.and_eq_true] at h
  refine ⟨?_, ?_, ?_, .inl ?_, ?_⟩
  · simp only [Pa.N, J_of_N (s.N_eq h.2)]
  · simp only [Pa.size, size_ofL, s.sz, ← size_L]
  · simp only [Pa.ok, ok_ofL, s.ok, h.1, Bool.and_self]
  · have := s.dep
    rw [← dep_L] at this
    simp only [Pa.dep, dep_ofL]
    omega
  · have := s.wi
    rw [← dep_L, ← within_L] at this
    simp only [Pa.within, within_ofL, Pa.dep]
    exact this
/-- (c2, p2): the item (c, p1), perhaps unfolded -/
structure Un (k c : Nat) (p1 : Pa) (c2 : Nat) (p2 : Pa) : Prop where
  e : c2 * p2.N.1 = c * p1.N.1 ∧ p2.N.2 = p1.N.2
  sz : c2 * p2.size = c * p1.size
  ok : p2.ok k = true
  pos : 1 ≤ c2
  dep : p2.dep ≤ p1.dep + 1 ∧ (p1.leaf = true → p2.dep = 0)
  wi : p2.within.length ≤ 2 * p1.within.length + 1
theorem Un.same {k c : Nat} {p1 : Pa} (h : p1.ok k = true) (hc : 1 ≤ c) : Un k c p1 c p1 := by
  refine ⟨⟨rfl, rfl⟩, rfl, h, hc, ⟨by omega, fun z => ?_⟩, by omega⟩
  cases p1 <;> first | rfl | cases z
abbrev copied (x : Str) (b : Pl) (j : Nat) : Pl := b.app (.cons (j - 1) (.wait x b.up) .nil)
theorem Un.unf {k c j : Nat} {x : Str} {b : Pl} (h : (Pa.wait x b).ok k = true) (hc : 1 ≤ c) (hj : 2 ≤ j) (hd : c % j = 0) : Un k c (.wait x b) (c / j) (.wait x (copied x b j)) := by
  have hcj : c / j * j = c := Nat.div_mul_cancel (Nat.dvd_of_mod_eq_zero hd)
  have h' := h
  simp only [Pa.ok, Bool.and_eq_true] at h'
  have hu := unfold_N (x := x) (b := b) (k := j) (j := k + 1) hj h'.2
  have hcj2 : ∀ n, c / j * (j * n) = c * n := fun n => by rw [← Nat.mul_assoc, hcj]
  refine ⟨?_, ?_, ?_, ?_, ⟨?_, fun z => by cases z⟩, ?_⟩
  · rw [hu]
    exact ⟨hcj2 _, rfl⟩
  · have e : (Pa.wait x (copied x b j)).size = j * (Pa.wait x b).size := by
      simp only [Pa.size, app_size, Pl.size, Pl.raised_size]
      obtain ⟨j', rfl⟩ : ∃ j', j = j' + 1 := ⟨j - 1, by omega⟩
      simp only [Nat.add_sub_cancel, Nat.add_mul, Nat.one_mul, Nat.mul_add, Nat.mul_one]
      omega
    rw [e]
    exact hcj2 _
  · have u := Pl.up_ok b 0 (k + 1) h'.2
    simp only [Pa.ok, Bool.and_eq_true, app_ok, Pl.ok, decide_eq_true_eq]
    exact ⟨h'.1, h'.2, ⟨⟨by omega, h'.1, u⟩, trivial⟩⟩
  · rcases Nat.eq_zero_or_pos (c / j) with z | z
    · rw [z, Nat.zero_mul] at hcj; omega
    · exact z
  · simp only [Pa.dep, app_dep, Pl.dep, Pl.raised_dep]
    omega
  · simp only [Pa.within, app_within, Pl.within, List.length_append, List.length_cons, Pl.raised_len, List.length_nil]
    omega
theorem pc_of {k c c2 : Nat} {p p1 p2 : Pa} {M : List It} (h1 : Pw k p p1) (h2 : Un k c p1 c2 p2) (hM : M = [(c2, p2)] ∨ ∃ o, 1 ≤ o ∧ o < c2 ∧ M = [(o, p2), (c2 - o, p2)]) : Pc k (c, p) M := by
  have w1 := h1.wi
  have w2 := h2.wi
  have d2 := h2.dep
  have hp : (4 : Nat) ^ (p.dep + 1) = 4 * 4 ^ p.dep := by rw [Nat.pow_succ]; omega
  have hone : 1 ≤ 4 ^ p.dep := Nat.pow_pos (by decide)
  have wt : 2 * (1 + p2.within.length) ≤ 4 ^ (p.dep + 1) * (1 + p.within.length) := by
    have e : 4 ^ p.dep * (1 + p.within.length) = 4 ^ p.dep + 4 ^ p.dep * p.within.length := by rw [Nat.mul_add, Nat.mul_one]
    rw [hp, Nat.mul_assoc, e]
    clear hp e
    generalize 4 ^ p.dep = Z at *
    generalize Z * p.within.length = Y at *
    omega
  have dp : p2.dep ≤ 2 * p.dep := by
    rcases h1.dep with z | ⟨z1, z2⟩
    · omega
    · have := d2.2 z1; omega
  rcases hM with rfl | ⟨o, ho, ho2, rfl⟩
  · refine ⟨fun t => ?_, ?_, ?_, by simp, fun i hi => ?_, ?_⟩
    · simp only [NI_ofL, List.map_cons, List.map_nil, cnt, h2.e.1, h2.e.2, h1.n]
    · rw [szL_cons, szL_nil]
      simp only [h2.sz, h1.sz, Nat.add_zero]
    · simp only [List.all_cons, List.all_nil, okI, h2.ok, Bool.and_true, decide_eq_true_eq]
      exact h2.pos
    · rw [List.mem_singleton.mp hi]; exact dp
    · have : wiL [(c2, p2)] = 1 + p2.within.length := by simp [wiL]
      rw [this]
      exact Nat.le_trans (by omega) wt
  · refine ⟨fun t => ?_, ?_, ?_, by simp, fun i hi => ?_, ?_⟩
    · have e : o * p2.N.1 + (c2 - o) * p2.N.1 = c * p.N.1 := by
        rw [← Nat.add_mul, Nat.add_sub_cancel' (Nat.le_of_lt ho2), h2.e.1, h1.n]
      simp only [NI_ofL, List.map_cons, List.map_nil, cnt, h2.e.2, h1.n] at e ⊢
      split <;> omega
    · have e : o * p2.size + (c2 - o) * p2.size = c * p.size := by
        rw [← Nat.add_mul, Nat.add_sub_cancel' (Nat.le_of_lt ho2), h2.sz, h1.sz]
      rw [szL_cons, szL_cons, szL_nil]
      simp only
      omega
    · simp only [List.all_cons, List.all_nil, okI, h2.ok, Bool.and_true, decide_eq_true_eq, Bool.and_eq_true]
      exact ⟨ho, by omega⟩
    · simp only [List.mem_cons, List.not_mem_nil, or_false] at hi
      rcases hi with rfl | rfl <;> exact dp
    · have : wiL [(o, p2), (c2 - o, p2)] = 2 * (1 + p2.within.length) := by simp [wiL]; omega
      rw [this]
      exact wt
end Dl
/-! Pf12: the law writes a plan otherwise. -/
namespace Dl
open PySem PySem.Spec PyProof.Rows L2 NdefX
@[irreducible] def capS : Nat := 2 ^ 4000
theorem log_capS {k : Nat} (h : k ≤ capS) : k.log2 < 8990 := by
  unfold capS at h
  by_cases h0 : k = 0
  · subst h0; exact (by decide : (Nat.log2 0) < 8990)
  · refine (Nat.log2_lt h0).mpr (Nat.lt_of_le_of_lt h ?_)
    exact Nat.pow_lt_pow_right (by decide) (by decide)
structure HasSp (tbl : Nat → Option DefB) : Prop extends HasRa tbl, HasPk tbl where
  t113 : tbl 113 = some ⟨3, 3, b__law_copied⟩
  t114 : tbl 114 = some ⟨3, 10, b__law_spread⟩
abbrev sp1 (C : Cs) : Sd := (sIf (dTst (dBin (gEq C.room) (dBlt cLen (rCons (dName 5) rNil)) (dC (.int 3)))) (sSet 5 (dTup (aCons (dBin gIx (dName 5) (dC (.int 0))) (aCons (dBin gIx (dName 5) (dC (.int 1))) (aCons (dCall C 114 (aCons (dName 0) (aCons (dBin gIx (dName 5) (dC (.int 2))) (aCons (dName 2) aNil)))) aNil))))) sNil)
abbrev sp2 (C : Cs) : Sd := (sIf (tAnd' (dTst (dBin (gEq C.room) (dBin gIx (dName 5) (dC (.int 0))) (dC (.str "wait")))) (tAnd' (dTst (dBin (gGt C.room) (dName 4) (dC (.int 1)))) (dTst (dBin (gEq C.room) (dCall C 11 (aCons (dName 0) (aCons (dC (.int 2)) aNil))) (dC (.int 0)))))) (sSeq (sSet 6 (dBin gIx (dLst (aCons (dName 4) (aCons (dC (.int 2)) (aCons (dC (.int 3)) aNil)))) (dCall C 11 (aCons (dName 0) (aCons (dC (.int 3)) aNil)))))
  (sIf (dTst (dBin (gEq C.room) (dBin gMod (dBlt cInt (rCons (dName 4) rNil)) (dName 6)) (dC (.int 0)))) (sSeq (sSet 5 (dTup (aCons (dC (.str "wait")) (aCons (dBin gIx (dName 5) (dC (.int 1))) (aCons (dCall C 113 (aCons (dBin gIx (dName 5) (dC (.int 1))) (aCons (dBin gIx (dName 5) (dC (.int 2))) (aCons (dName 6) aNil)))) aNil)))))
  (sSet 4 (dBin gFdiv (dName 4) (dName 6)))) sNil)) sNil)
abbrev sp3 (C : Cs) : Sd := (sIf (tAnd' (dTst (dBin (gGt C.room) (dName 4) (dC (.int 1)))) (dTst (dBin (gEq C.room) (dCall C 11 (aCons (dName 0) (aCons (dC (.int 2)) aNil))) (dC (.int 0))))) (sSeq (sSet 7 (dBin gAdd (dC (.int 1)) (dCall C 11 (aCons (dName 0) (aCons (dBlt cMin2 (rCons (dBin gSub (dName 4) (dC (.int 1))) (rCons (dC (.int 50)) rNil))) aNil)))))
  (sSeq (sAppend 3 (dTup (aCons (dName 7) (aCons (dName 5) aNil))))
  (sSet 4 (dBin gSub (dName 4) (dName 7))))) sNil)
abbrev sp4 (C : Cs) : Sd := (sAppend 3 (dTup (aCons (dName 4) (aCons (dName 5) aNil))))
abbrev spBody (C : Cs) : Sd := (sSeq (sp1 C) (sSeq (sp2 C) (sSeq (sp3 C) (sp4 C))))
theorem sq_nx {a b : Sd} {env env' : Ev} {w w' : World} (h : a env w = .ok (.nx env') w') : sSeq a b env w = b env' w' := by
  simp [h]
section
variable {tbl : Nat → Option DefB} (T : HasSp tbl)
include T
theorem c_copied {n j : Nat} {x : Str} {b : Pl} {w : World} (hj : 2 ≤ j) (hn : b.dep + 2 ≤ n) (hz : b.within.length < 16777215) : (Den tbl n).call 113 [.dat (.str x), .dat (.tup b.ds), .dat (.int j)] w = .ok (.dat (.tup (copied x b j).ds)) w := by
  obtain ⟨m, rfl, hm⟩ := succ_of (k := b.dep + 1) (n := n) (by omega)
  rw [den_succ T.t113]
  have e := c_lraiseN T.toHasRa (w := w) (p := b) (n := m) hm (by omega)
  have hne : ¬ ((j : Int) = 1) := by omega
  have hl := len_within b
  have hz2 : b.ds.length + 1 ≤ sizeLine := by rw [sizeLine_eq]; omega
  have hcast : ((j - 1 : Nat) : Int) = (j : Int) - 1 := by omega
  have er : (b.app (.cons (j - 1) (.wait x b.up) .nil)).ds = b.ds ++ [.tup [.int ((j : Int) - 1), .tup [.str "wait", .str x, .tup b.up.ds]]] := by
    rw [app_ds]
    simp [Pl.ds, Pa.d, hcast]
  simp only [Pl.d] at e
  simp [runB, initE, toSl, b__law_copied, hne, e, hz2, er]
/-- perhaps unfolded -/
theorem run_sp2 {k m c : Nat} {p1 : Pa} {rest w : World} {P S : Sl} {acc : List D} {s6 s7 s8 s9 : Sl} (ht : TapeOk rest w) (hc : 1 ≤ c) (hcap : c ≤ capS) (hp : p1.ok k = true) (hm : p1.dep + 2 ≤ m) (hz : p1.within.length < 16777215) :
    ∃ c2 p2 s6' w', sp2 (Den tbl m) [.wref 0, P, S, .own acc, .dat (.int c), .dat p1.d, s6, s7, s8, s9] w = .ok (.nx [.wref 0, P, S, .own acc, .dat (.int ((c2 : Nat) : Int)), .dat p2.d, s6', s7, s8, s9]) w' ∧ TapeOk rest w' ∧ Un k c p1 c2 p2 := by
  have same := Un.same (k := k) hp hc
  cases p1 with
  | name y => exact ⟨c, _, s6, w, by simp [Pa.d, at_0, ne_7], ht, same⟩
  | mark y => exact ⟨c, _, s6, w, by simp [Pa.d, at_0, ne_9], ht, same⟩
  | got y => exact ⟨c, _, s6, w, by simp [Pa.d, at_0, ne_11], ht, same⟩
  | letter y b => exact ⟨c, _, s6, w, by simp [Pa.d, at_0, ne_4], ht, same⟩
  | wait y b =>
    by_cases h1 : 1 < c
    · have h1' : (1 : Int) < c := by omega
      obtain ⟨r, w1, e1, t1, r1⟩ := c_pick T.toHasPk (n := m) (by omega) ht (m := 2) (by decide) (by decide)
      by_cases hr : r = 0
      · subst hr
        obtain ⟨r3, w2, e2, t2, r2⟩ := c_pick T.toHasPk (n := m) (by omega) t1 (m := 3) (by decide) (by decide)
        obtain ⟨j, hj, j2, jc⟩ : ∃ j : Nat, atI [D.int (c : Int), .int 2, .int 3] (r3 : Int) = some (.int (j : Int)) ∧ 2 ≤ j ∧ j ≤ capS := by
          have h3 : 3 ≤ capS := by unfold capS; exact Nat.le_trans (by decide : 3 ≤ 2 ^ 2) (Nat.pow_le_pow_right (by decide) (by decide))
          have : r3 = 0 ∨ r3 = 1 ∨ r3 = 2 := by omega
          rcases this with rfl | rfl | rfl
          · exact ⟨c, by simp [at_0], h1, hcap⟩
          · exact ⟨2, by simp [at_1], Nat.le_refl _, by omega⟩
          · exact ⟨3, by simp [at_2], by decide, h3⟩
        have hjp : (0 : Int) < j := by omega
        have hjn : 0 < j := by omega
        by_cases hd : c % j = 0
        · have hd' : (c : Int) % j = 0 := by omega
          have hlog : (j : Int) < 1073741824 ∨ j.log2 < 8990 := .inr (log_capS jc)
          have cc := c_copied T (n := m) (x := y) (b := b) (w := w2) j2 (by simp only [Pa.dep] at hm; omega) (by simp only [Pa.within] at hz; exact hz)
          refine ⟨c / j, .wait y (copied y b j), .dat (.int j), w2, ?_, t2, Un.unf hp hc j2 hd⟩
          simp [Pa.d, at_0, at_1, at_2, h1', e1, e2, hj, hjp, hjn, hd', hlog, cc]
        · have hd' : ¬ ((c : Int) % j = 0) := by omega
          refine ⟨c, .wait y b, .dat (.int j), w2, ?_, t2, same⟩
          simp [Pa.d, at_0, h1', e1, e2, hj, hjp, hjn, hd']
      · have hr' : ¬ ((r : Int) = 0) := by omega
        exact ⟨c, _, s6, w1, by simp [Pa.d, at_0, h1', e1, hr], t1, same⟩
    · have h1' : ¬ ((1 : Int) < c) := by omega
      exact ⟨c, _, s6, w, by simp [Pa.d, at_0, h1'], ht, same⟩
/-- perhaps parted, and put behind -/
theorem run_sp34 {m c : Nat} {p : Pa} {rest w : World} {P S : Sl} {acc : List D} {s6 s7 s8 s9 : Sl} (ht : TapeOk rest w) (hc : 1 ≤ c) (hm : 1 ≤ m) (hz : acc.length + 2 ≤ 16777216) :
    ∃ M s4' s7' w', (sSeq (sp3 (Den tbl m)) (sp4 (Den tbl m))) [.wref 0, P, S, .own acc, .dat (.int c), .dat p.d, s6, s7, s8, s9] w = .ok (.nx [.wref 0, P, S, .own (acc ++ M.map itD), s4', .dat p.d, s6, s7', s8, s9]) w' ∧ TapeOk rest w' ∧ (M = [(c, p)] ∨ ∃ o, 1 ≤ o ∧ o < c ∧ M = [(o, p), (c - o, p)]) := by
  have hz1 : acc.length < 16777216 := by omega
  have hz2 : acc.length + 1 < 16777216 := by omega
  by_cases h1 : 1 < c
  · have h1' : (1 : Int) < c := by omega
    obtain ⟨r, w1, e1, t1, r1⟩ := c_pick T.toHasPk (n := m) hm ht (m := 2) (by decide) (by decide)
    by_cases hr : r = 0
    · subst hr
      obtain ⟨r2, w2, e2, t2, q2⟩ := c_pick T.toHasPk (n := m) hm t1 (m := if (50 : Int) < (c : Int) - 1 then 50 else (c : Int) - 1) (by split <;> omega) (by split <;> omega)
      have ho : 1 + r2 < c := by
        split at q2 <;> omega
      refine ⟨[(1 + r2, p), (c - (1 + r2), p)], .dat (.int ((c : Int) - (1 + r2))), .dat (.int (1 + r2)), w2, ?_, t2, .inr ⟨1 + r2, by omega, ho, rfl⟩⟩
      have hcast : ((c - (1 + r2) : Nat) : Int) = (c : Int) - (1 + r2) := by omega
      have hcast2 : ((1 + r2 : Nat) : Int) = 1 + (r2 : Int) := by omega
      simp [h1', e1, e2, hz1, hz2, itD, hcast]
    · have hr' : ¬ ((r : Int) = 0) := by omega
      exact ⟨[(c, p)], .dat (.int c), s7, w1, by simp [h1', e1, hr, hz1, itD], t1, .inl rfl⟩
  · have h1' : ¬ ((1 : Int) < c) := by omega
    exact ⟨[(c, p)], .dat (.int c), s7, w, by simp [h1', hz1, itD], ht, .inl rfl⟩
end
end Dl
/-! Pf13: the law writes a whole plan otherwise. -/
namespace Dl
open PySem PySem.Spec PyProof.Rows L2 NdefX
def Hi (j : It) : Prop := j.1 * j.2.size < 1000000 ∨ 4 ^ (j.2.dep + 1) * (1 + j.2.within.length) < 1000000
structure HiL (l : List It) : Prop where
  len : l.length ≤ 1000000
  hi : ∀ j ∈ l, Hi j
theorem len_szL {l : List It} (hp : posI l) : l.length ≤ szL l := by
  induction l with
  | nil => exact Nat.le_refl _
  | cons a r ih =>
    have h1 := hp a (.head _)
    have h2 := psize_pos a.2
    have h3 := Nat.mul_pos h1 h2
    have := ih fun i hi => hp i (.tail _ hi)
    rw [szL_cons, List.length_cons]
    omega
theorem len_wiL (l : List It) : l.length ≤ wiL l := by
  induction l with
  | nil => exact Nat.le_refl _
  | cons a r ih => rw [wiL_cons, List.length_cons]; omega
theorem Hi.body {c k : Nat} {p : Pa} {b : Pl} (h : Hi (c, p)) (hc : 1 ≤ c) (hs : p.size = b.size + 1) (hd : p.dep = b.dep + 1) (hw : p.within = b.within) (hb : b.ok k = true) :
    HiL b.L ∧ ∀ M, Sp k b.L M → (ofL M).within.length < 1000000 := by
  have hb' := hb
  rw [ok_L] at hb'
  have hp := okI_pos hb'
  rcases h with h | h
  · have hz : p.size < 1000000 := Nat.lt_of_le_of_lt (Nat.le_mul_of_pos_left _ hc) h
    have hz2 : b.size < 1000000 := by omega
    refine ⟨⟨?_, fun j hj => .inl ?_⟩, fun M hM => ?_⟩
    · have := len_szL hp
      rw [← size_L] at this
      omega
    · have := mem_szL hj
      rw [← size_L] at this
      omega
    · have := Pl.within_size (ofL M) k (by rw [ok_ofL]; exact hM.ok)
      rw [size_ofL, hM.sz, ← size_L] at this
      omega
  · simp only [hd, hw] at h
    have hbig : 4 ^ (b.dep + 1) * b.within.length < 1000000 := by
      refine Nat.lt_of_le_of_lt ?_ h
      exact Nat.mul_le_mul (Nat.pow_le_pow_right (by decide) (by omega)) (by omega)
    have hone : 1 ≤ 4 ^ (b.dep + 1) := Nat.pow_pos (by decide)
    refine ⟨⟨?_, fun j hj => .inr ?_⟩, fun M hM => ?_⟩
    · have h1 := len_wiL b.L
      rw [← within_L] at h1
      have := Nat.le_mul_of_pos_left b.within.length hone
      omega
    · refine Nat.lt_of_le_of_lt (Nat.mul_le_mul ?_ ?_) hbig
      · refine Nat.pow_le_pow_right (by decide) ?_
        have := deL_le.mp (Nat.le_refl (deL b.L)) j hj
        rw [← dep_L] at this
        omega
      · have := mem_wiL hj
        rw [← within_L] at this
        exact this
    · rw [within_ofL]
      have := hM.wi
      rw [← dep_L, ← within_L] at this
      omega
section
variable {tbl : Nat → Option DefB} (T : HasSp tbl)
include T
theorem turn_loop {m : Nat} (hm : 1 ≤ m) {rest w : World} {P S s4 s5 s6 s7 s9 : Sl} {I : List It} (ht : TapeOk rest w) (hz : I.length < 16777216) :
    ∃ (Y : List It) (s9' : Sl) (w' : World), forGo (gN 9) (sAppPop 8 3 (dCall (Den tbl m) 11 (aCons (dName 0) (aCons (dBlt cLen (rCons (dName 3) rNil)) aNil)))) (rngD 0 (I.length : Int)) [.wref 0, P, S, .own (I.map itD), s4, s5, s6, s7, .own [], s9] w = .ok (.nx [.wref 0, P, S, .own [], s4, s5, s6, s7, .own (Y.map itD), s9']) w' ∧ TapeOk rest w' ∧ Y.Perm I := by
  have step := for_inv (i := 9) (s := sAppPop 8 3 (dCall (Den tbl m) 11 (aCons (dName 0) (aCons (dBlt cLen (rCons (dName 3) rNil)) aNil)))) (l := rngD 0 (I.length : Int)) (k := 0)
    (P := fun j env w => ∃ (X Y : List It) (s9 : Sl), env = [.wref 0, P, S, .own (X.map itD), s4, s5, s6, s7, .own (Y.map itD), s9] ∧ (Y ++ X).Perm I ∧ X.length + j = I.length ∧ TapeOk rest w)
    (env := [.wref 0, P, S, .own (I.map itD), s4, s5, s6, s7, .own [], s9]) (w := w) ⟨I, [], s9, rfl, List.Perm.refl _, rfl, ht⟩ (fun j d env w hP hd => by
      obtain ⟨X, Y, s9, rfl, pm, hl, ht⟩ := hP
      have hj : j < I.length := by
        have := (List.getElem?_eq_some_iff.mp hd).1
        rw [rngD_nat] at this
        simpa using this
      have hx : 0 < X.length := by omega
      obtain ⟨r, w1, e1, t1, r1⟩ := c_pick T.toHasPk (n := m) hm ht (m := (X.length : Int)) (by omega) (by omega)
      have hr : r < X.length := by omega
      refine ⟨[.wref 0, P, S, .own ((X.eraseIdx r).map itD), s4, s5, s6, s7, .own ((Y ++ [X[r]]).map itD), .dat d], w1, ?_, X.eraseIdx r, Y ++ [X[r]], .dat d, rfl, ?_, ?_, t1⟩
      · have hy : Y.length < 16777216 := by
          have := pm.length_eq
          rw [List.length_append] at this
          omega
        have he : (X.map itD).eraseIdx r = (X.eraseIdx r).map itD := by
          rw [List.eraseIdx_eq_take_drop_succ, List.eraseIdx_eq_take_drop_succ, List.map_append, List.map_take, List.map_drop]
        simp [e1, hr, hy, he]
      · have : (X.eraseIdx r ++ [X[r]]).Perm X := by
          rw [List.eraseIdx_eq_take_drop_succ]
          have e := List.take_append_drop r X
          rw [List.drop_eq_getElem_cons hr] at e
          conv => rhs; rw [← e]
          rw [List.append_assoc]
          exact List.Perm.append_left _ (List.perm_append_comm)
        refine List.Perm.trans ?_ pm
        rw [List.append_assoc]
        exact List.Perm.append_left _ (List.perm_append_comm.trans this)
      · rw [List.length_eraseIdx_of_lt hr]
        omega)
  obtain ⟨env', w', e, X, Y, s9', rfl, pm, hl, ht'⟩ := step
  rw [rngD_nat] at hl
  simp only [List.length_map, List.length_range, Nat.zero_add] at hl
  have hX : X = [] := List.length_eq_zero_iff.mp (by omega)
  subst hX
  rw [List.append_nil] at pm
  exact ⟨Y, s9', w', e, ht', pm⟩
def SpOk (tbl : Nat → Option DefB) (m k : Nat) (r : Pl) : Prop := ∀ (rest w : World) (P : Sl) (acc : List D) (s4 s5 s6 s7 s8 s9 : Sl), TapeOk rest w → acc.length + 2 * r.L.length ≤ 16777216 →
  ∃ M s4' s5' s6' s7' w', forGo (gT 2 (gsCons (gN 4) (gsCons (gN 5) gsNil))) (spBody (Den tbl m)) r.ds [.wref 0, P, .dat (.int 1), .own acc, s4, s5, s6, s7, s8, s9] w = .ok (.nx [.wref 0, P, .dat (.int 1), .own (acc ++ M.map itD), s4', s5', s6', s7', s8, s9]) w' ∧ TapeOk rest w' ∧ Sp k r.L M
theorem sp_call {m k : Nat} {b : Pl} (hm : 1 ≤ m) (hl : HiL b.L) (h : SpOk tbl m k b) {rest w : World} (ht : TapeOk rest w) :
    ∃ M w', (Den tbl (m + 1)).call 114 [.wref 0, .dat (.tup b.ds), .dat (.int 1)] w = .ok (.dat (.tup (ofL M).ds)) w' ∧ TapeOk rest w' ∧ Sp k b.L M := by
  have hz := hl.len
  obtain ⟨M, s4, s5, s6, s7, w1, e, t1, sp⟩ := h rest w (.dat (.tup b.ds)) [] .un .un .un .un .un .un ht (by simp; omega)
  have hlen := sp.len
  obtain ⟨Y, s9', w2, e2, t2, pm⟩ := turn_loop T (m := m) hm (P := .dat (.tup b.ds)) (S := .dat (.int 1)) (s4 := s4) (s5 := s5) (s6 := s6) (s7 := s7) (s9 := .un) (I := M) t1 (by omega)
  refine ⟨Y, w2, ?_, t2, sp.perm pm⟩
  rw [den_succ T.t114]
  have ed : (ofL Y).ds = Y.map itD := ds_ofL Y
  simp only [List.nil_append] at e
  have hM : (M.length : Int) ≤ 16777216 ∧ (M.length : Int) < 4611686018427387904 := by omega
  simp [runB, initE, toSl, b__law_spread, e, e2, ed, hM]
end
end Dl
/-! Pf14: the law writes a whole plan otherwise, all items. -/
namespace Dl
open PySem PySem.Spec PyProof.Rows L2 NdefX
section
variable {tbl : Nat → Option DefB} (T : HasSp tbl)
include T
omit T in
theorem HiL.tail {c : Nat} {p : Pa} {r : Pl} (h : HiL (Pl.cons c p r).L) : HiL r.L ∧ Hi (c, p) := by
  have h1 := h.len
  simp only [Pl.L, List.length_cons] at h1
  exact ⟨⟨by omega, fun j hj => h.hi j (.tail _ hj)⟩, h.hi (c, p) (.head _)⟩
theorem sp_loop : ∀ (r : Pl) (k m : Nat), r.ok k = true → HiL r.L → r.size ≤ capS → 2 * r.dep + 3 ≤ m → SpOk tbl m k r
  | .nil, k, m, ho, hh, hs, hm => fun rest w P acc s4 s5 s6 s7 s8 s9 ht hz => ⟨[], s4, s5, s6, s7, w, by simp [Pl.ds], ht, .nil⟩
  | .cons c p r, k, m, ho, hh, hs, hm => fun rest w P acc s4 s5 s6 s7 s8 s9 ht hz => by
    simp only [Pl.ok, Bool.and_eq_true, decide_eq_true_eq] at ho
    obtain ⟨⟨hc, hp⟩, hr⟩ := ho
    obtain ⟨hh1, hhi⟩ := hh.tail
    simp only [Pl.dep] at hm
    simp only [Pl.size] at hs
    simp only [Pl.L, List.length_cons] at hz
    have hcs := Nat.le_mul_of_pos_right c (psize_pos p)
    have hps := Nat.le_mul_of_pos_left p.size hc
    have hpz : p.size ≤ capS := by omega
    have st1 : ∃ p1 w1, sp1 (Den tbl m) [.wref 0, P, .dat (.int 1), .own acc, .dat (.int c), .dat p.d, s6, s7, s8, s9] w = .ok (.nx [.wref 0, P, .dat (.int 1), .own acc, .dat (.int c), .dat p1.d, s6, s7, s8, s9]) w1 ∧ TapeOk rest w1 ∧ Pw k p p1 ∧ p1.within.length < 16777215 ∧ p1.dep + 2 ≤ m := by
      cases p with
      | name y => exact ⟨_, w, by simp [Pa.d], ht, .leaf hp rfl, by simp [Pa.within], by simp only [Pa.dep]; omega⟩
      | mark y => exact ⟨_, w, by simp [Pa.d], ht, .leaf hp rfl, by simp [Pa.within], by simp only [Pa.dep]; omega⟩
      | got y => exact ⟨_, w, by simp [Pa.d], ht, .leaf hp rfl, by simp [Pa.within], by simp only [Pa.dep]; omega⟩
      | letter y b =>
        have hp' := hp
        simp only [Pa.ok, Bool.and_eq_true] at hp'
        obtain ⟨hb, hw⟩ := hhi.body (k := k) hc rfl rfl rfl hp'.2
        simp only [Pa.dep] at hm
        simp only [Pa.size] at hpz
        obtain ⟨m', rfl, hm'⟩ := succ_of (k := 2 * b.dep + 3) (n := m) (by omega)
        obtain ⟨M, w1, e, t1, sp⟩ := sp_call T (by omega) hb (sp_loop b k m' hp'.2 hb (by omega) hm') ht
        have pw := Pw.letter hp sp
        refine ⟨.letter y (ofL M), w1, ?_, t1, pw, by have := hw M sp; simp only [Pa.within]; omega, ?_⟩
        · simp [Pa.d, at_0, at_1, at_2, e]
        · rcases pw.dep with z | ⟨z, _⟩
          · simp only [Pa.dep] at z ⊢; omega
          · cases z
      | wait y b =>
        have hp' := hp
        simp only [Pa.ok, Bool.and_eq_true] at hp'
        obtain ⟨hb, hw⟩ := hhi.body (k := k + 1) hc rfl rfl rfl hp'.2
        simp only [Pa.dep] at hm
        simp only [Pa.size] at hpz
        obtain ⟨m', rfl, hm'⟩ := succ_of (k := 2 * b.dep + 3) (n := m) (by omega)
        obtain ⟨M, w1, e, t1, sp⟩ := sp_call T (by omega) hb (sp_loop b (k + 1) m' hp'.2 hb (by omega) hm') ht
        have pw := Pw.wait hp sp
        refine ⟨.wait y (ofL M), w1, ?_, t1, pw, by have := hw M sp; simp only [Pa.within]; omega, ?_⟩
        · simp [Pa.d, at_0, at_1, at_2, e]
        · rcases pw.dep with z | ⟨z, _⟩
          · simp only [Pa.dep] at z ⊢; omega
          · cases z
    obtain ⟨p1, w1, e1, t1, pw, wi1, d1⟩ := st1
    obtain ⟨c2, p2, s6', w2, e2, t2, un⟩ := run_sp2 T (P := P) (S := .dat (.int 1)) (acc := acc) (s6 := s6) (s7 := s7) (s8 := s8) (s9 := s9) (m := m) t1 hc (by omega) pw.ok d1 wi1
    obtain ⟨M1, s4', s7', w3, e3, t3, hM⟩ := run_sp34 T (P := P) (S := .dat (.int 1)) (acc := acc) (s6 := s6') (s7 := s7) (s8 := s8) (s9 := s9) (m := m) (p := p2) t2 un.pos (by omega) (by omega)
    have pc : Pc k (c, p) M1 := pc_of pw un hM
    have hlen := pc.len
    obtain ⟨M2, a4, a5, a6, a7, w4, e4, t4, sp⟩ := sp_loop r k m hr hh1 (by omega) (by omega) rest w3 P (acc ++ M1.map itD) s4' (.dat p2.d) s6' s7' s8 s9 t3 (by simp; omega)
    refine ⟨M1 ++ M2, a4, a5, a6, a7, w4, ?_, t4, Sp.cons pc sp⟩
    have hstep : spBody (Den tbl m) [.wref 0, P, .dat (.int 1), .own acc, .dat (.int c), .dat p.d, s6, s7, s8, s9] w = .ok (.nx [.wref 0, P, .dat (.int 1), .own (acc ++ M1.map itD), s4', .dat p2.d, s6', s7', s8, s9]) w3 :=
      (sq_nx e1).trans ((sq_nx e2).trans e3)
    have hg : gT 2 (gsCons (gN 4) (gsCons (gN 5) gsNil)) (.tup [.int c, p.d]) [.wref 0, P, .dat (.int 1), .own acc, s4, s5, s6, s7, s8, s9] = some [.wref 0, P, .dat (.int 1), .own acc, .dat (.int c), .dat p.d, s6, s7, s8, s9] := by simp
    rw [show (Pl.cons c p r).ds = .tup [.int c, p.d] :: r.ds from rfl, for_cons, hg]
    show ((spBody (Den tbl m) [.wref 0, P, .dat (.int 1), .own acc, .dat (.int c), .dat p.d, s6, s7, s8, s9] w).bind _) = _
    rw [hstep, List.map_append, ← List.append_assoc]
    exact e4
theorem c_spread {n k : Nat} {p : Pl} (ho : p.ok k = true) (hh : HiL p.L) (hs : p.size ≤ capS) (hn : 2 * p.dep + 4 ≤ n) {rest w : World} (ht : TapeOk rest w) :
    ∃ M w', (Den tbl n).call 114 [.wref 0, .dat p.d, .dat (.int 1)] w = .ok (.dat (ofL M).d) w' ∧ TapeOk rest w' ∧ Sp k p.L M := by
  obtain ⟨m, rfl, hm⟩ := succ_of (k := 2 * p.dep + 3) (n := n) (by omega)
  exact sp_call T (by omega) hh (sp_loop T p k m ho hh hs hm) ht
end
end Dl
/-! Pf15: likeness is kept by what is put for leaves. -/
namespace Dl
open PySem PySem.Spec PyProof.Rows L2 NdefX
mutual
/-- counts from 1 on, at any place -/
def Pa.pp : Pa → Prop
  | .letter _ b => b.pp
  | .wait _ b => b.pp
  | _ => True
def Pl.pp : Pl → Prop
  | .nil => True
  | .cons c p r => 1 ≤ c ∧ p.pp ∧ r.pp
end
mutual
theorem Pa.ok_pp : ∀ (p : Pa) (k : Nat), p.ok k = true → p.pp
  | .name y, k, h => trivial
  | .mark n, k, h => trivial
  | .got n, k, h => trivial
  | .letter d b, k, h => by
    simp only [Pa.ok, Bool.and_eq_true] at h
    exact Pl.ok_pp b k h.2
  | .wait d b, k, h => by
    simp only [Pa.ok, Bool.and_eq_true] at h
    exact Pl.ok_pp b (k + 1) h.2
theorem Pl.ok_pp : ∀ (p : Pl) (k : Nat), p.ok k = true → p.pp
  | .nil, k, h => trivial
  | .cons c p r, k, h => by
    simp only [Pl.ok, Bool.and_eq_true, decide_eq_true_eq] at h
    exact ⟨h.1.1, Pa.ok_pp p k h.1.2, Pl.ok_pp r k h.2⟩
end
theorem pp_pos : ∀ {p : Pl}, p.pp → posI p.NI
  | .nil, _ => fun i hi => nomatch hi
  | .cons c p r, h => fun i hi => by
    obtain ⟨h1, h2, h3⟩ := h
    simp only [Pl.NI, List.mem_cons] at hi
    rcases hi with rfl | hi
    · exact Nat.mul_pos h1 (N_pos p)
    · exact pp_pos h3 i hi
theorem pp_app : ∀ {p q : Pl}, p.pp → q.pp → (p.app q).pp
  | .nil, q, _, h => h
  | .cons c p r, q, h, h' => ⟨h.1, h.2.1, pp_app h.2.2 h'⟩
theorem pp_times {c : Nat} (hc : 1 ≤ c) : ∀ {p : Pl}, p.pp → (p.times c).pp
  | .nil, _ => trivial
  | .cons n p r, h => ⟨Nat.mul_pos hc h.1, h.2.1, pp_times hc h.2.2⟩
theorem pp_ofL : ∀ l : List It, (ofL l).pp ↔ ∀ i ∈ l, 1 ≤ i.1 ∧ i.2.pp
  | [] => by simp [ofL, Pl.pp]
  | (c, p) :: l => by simp [ofL, Pl.pp, pp_ofL l, and_assoc]
theorem pp_L (p : Pl) : p.pp ↔ ∀ i ∈ p.L, 1 ≤ i.1 ∧ i.2.pp := by
  conv => lhs; rw [← ofL_L p]
  exact pp_ofL p.L
theorem pp_J {l : List It} (h : ∀ i ∈ l, 1 ≤ i.1 ∧ i.2.pp) : ∀ i ∈ J l, 1 ≤ i.1 ∧ i.2.pp := fun i hi => by
  obtain ⟨j, hj, e⟩ := J_mem hi
  exact ⟨J_pos (fun i hi => (h i hi).1) i hi, by rw [← e]; exact (h j hj).2⟩
mutual
theorem Pa.N_pp : ∀ p : Pa, p.pp → p.N.2.pp
  | .name y, h => trivial
  | .mark n, h => trivial
  | .got n, h => trivial
  | .letter d b, h => (pp_ofL _).mpr (pp_J (NI_pp b h))
  | .wait d b, h => by
    have e := pp_J (NI_pp b h)
    simp only [Pa.N]
    rcases foldL_cases d (J b.NI) with g | ⟨r, M, hl, g⟩
    · rw [g]; exact (pp_ofL _).mpr e
    · rw [g]
      rw [hl] at e
      exact (pp_ofL _).mpr fun i hi => e i (List.mem_append_left _ hi)
theorem NI_pp : ∀ p : Pl, p.pp → ∀ i ∈ p.NI, 1 ≤ i.1 ∧ i.2.pp
  | .nil, h => fun i hi => nomatch hi
  | .cons c p r, h => fun i hi => by
    have h1 := Pa.N_pp p h.2.1
    have h2 := NI_pp r h.2.2
    simp only [Pl.NI, List.mem_cons] at hi
    rcases hi with rfl | hi
    · exact ⟨Nat.mul_pos h.1 (N_pos p), h1⟩
    · exact h2 i hi
end
theorem pp_ofJ {p : Pl} (h : p.pp) : (ofL (J p.NI)).pp := (pp_ofL _).mpr (pp_J (NI_pp p h))
theorem pp_N {p : Pl} (h : p.pp) : p.N.pp := pp_ofJ h
theorem ofL_app : ∀ (r s : List It), ofL (r ++ s) = (ofL r).app (ofL s)
  | [], s => rfl
  | (c, p) :: r, s => by simp [ofL, Pl.app, ofL_app r s]
theorem pp_left : ∀ {p q : Pl}, (p.app q).pp → p.pp
  | .nil, q, _ => trivial
  | .cons c p r, q, h => ⟨h.1, h.2.1, pp_left h.2.2⟩
theorem app_assoc : ∀ p q r : Pl, (p.app q).app r = p.app (q.app r)
  | .nil, q, r => rfl
  | .cons c p s, q, r => by simp [Pl.app, app_assoc s q r]
theorem map_app {f : Pa → Nat → Pl} (k : Nat) : ∀ p q : Pl, (p.app q).mapA f k = (p.mapA f k).app (q.mapA f k)
  | .nil, q => rfl
  | .cons c p r, q => by simp [Pl.app, Pl.mapA, map_app k r q, app_assoc]
theorem N_J {p q : Pl} (hp : p.pp) (hq : q.pp) (h : ∀ t, cnt t p.NI = cnt t q.NI) : J p.NI = J q.NI := J_eq (pp_pos hp) (pp_pos hq) h
theorem N_cnt {p q : Pl} (h : p.N = q.N) (t : Pa) : cnt t p.NI = cnt t q.NI := by
  have := congrArg (cnt t) (J_of_N h)
  rwa [J_cnt, J_cnt] at this
theorem N_iff {p q : Pl} (hp : p.pp) (hq : q.pp) : p.N = q.N ↔ ∀ t, cnt t p.NI = cnt t q.NI :=
  ⟨fun h t => N_cnt h t, fun h => by unfold Pl.N; rw [N_J hp hq h]⟩
theorem unfold_P {x : Str} {b : Pl} {k : Nat} (hk : 2 ≤ k) (hp : posI b.NI) : (Pa.wait x (b.app (.cons (k - 1) (.wait x b.up) .nil))).N = (k * (Pa.wait x b).N.1, (Pa.wait x b).N.2) := by
  have hw : (Pa.wait x b.up).N = ((Pa.wait x b).N.1, (Pa.wait x b).N.2.sh 1 0) := by rw [wait_up]; exact Pa.N_sh 1 _ 0
  have hn : (b.app (.cons (k - 1) (.wait x b.up) .nil)).NI = b.NI ++ [((k - 1) * (Pa.wait x b).N.1, (Pa.wait x b).N.2.sh 1 0)] := by
    rw [NI_app]
    simp only [Pl.NI, hw]
  simp only [Pa.N] at hn ⊢
  rw [hn]
  have ss := J_ss b.NI
  have pp := J_pos hp
  have cc : ∀ t, cnt t (J b.NI) = cnt t b.NI := fun t => J_cnt t b.NI
  generalize hB : J b.NI = B at *
  rcases foldL_cases x B with g | ⟨r, M, hl, g⟩
  · rw [g]
    have e : J (b.NI ++ [((k - 1) * 1, (Pa.wait x (ofL B)).sh 1 0)]) = B ++ [(k - 1, .wait x (ofL B).up)] := by
      rw [Nat.mul_one, ← wait_up]
      refine J_of (ss_snoc ss pp) (fun i hi => ?_) (fun i hi => ?_) fun t => ?_
      · rcases List.mem_append.mp hi with hi | hi
        · exact pp i hi
        · rw [List.mem_singleton.mp hi]
          show 1 ≤ k - 1
          omega
      · rcases List.mem_append.mp hi with hi | hi
        · exact hp i hi
        · rw [List.mem_singleton.mp hi]
          show 1 ≤ k - 1
          omega
      · rw [cnt_app, cnt_app, cc]
    simp only
    rw [e, foldL_last]
    refine Prod.ext ?_ rfl
    show k - 1 + 1 = k * 1
    omega
  · rw [g]
    subst hl
    obtain ⟨s1, _, _⟩ := List.pairwise_append.mp ss
    have pr : posI r := fun i hi => pp i (List.mem_append_left _ hi)
    have hM : 1 ≤ M := pp (M, .wait x (ofL r).up) (by simp)
    have e : J (b.NI ++ [((k - 1) * (M + 1), (Pa.wait x (ofL r)).sh 1 0)]) = r ++ [(M + (k - 1) * (M + 1), .wait x (ofL r).up)] := by
      rw [← wait_up]
      have h1 : 1 ≤ (k - 1) * (M + 1) := Nat.mul_pos (by omega) (by omega)
      refine J_of (ss_snoc s1 pr) (fun i hi => ?_) (fun i hi => ?_) fun t => ?_
      · rcases List.mem_append.mp hi with hi | hi
        · exact pr i hi
        · rw [List.mem_singleton.mp hi]
          show 1 ≤ M + (k - 1) * (M + 1)
          omega
      · rcases List.mem_append.mp hi with hi | hi
        · exact hp i hi
        · rw [List.mem_singleton.mp hi]
          exact h1
      · have c := cc t
        rw [cnt_app] at c
        rw [cnt_app, cnt_app, ← c]
        simp only [cnt]
        split <;> omega
    simp only
    rw [e, foldL_last]
    refine Prod.ext ?_ rfl
    show M + (k - 1) * (M + 1) + 1 = k * (M + 1)
    obtain ⟨k', rfl⟩ : ∃ k', k = k' + 1 := ⟨k - 1, by omega⟩
    simp only [Nat.add_sub_cancel, Nat.add_mul, Nat.one_mul]
    omega
/-! weights -/
def wgt (h : Pa → Nat) : List It → Nat
  | [] => 0
  | i :: r => i.1 * h i.2 + wgt h r
theorem wgt_app (h : Pa → Nat) : ∀ a b : List It, wgt h (a ++ b) = wgt h a + wgt h b
  | [], b => by simp [wgt]
  | i :: a, b => by simp [wgt, wgt_app h a b]; omega
theorem wgt_perm (h : Pa → Nat) {a b : List It} (p : a.Perm b) : wgt h a = wgt h b := by
  induction p with
  | nil => rfl
  | cons x _ ih => simp only [wgt, ih]
  | swap x y l => simp only [wgt]; omega
  | trans _ _ h1 h2 => exact h1.trans h2
theorem jg_wgt (h : Pa → Nat) : ∀ (r : List It) (c : Nat) (p : Pa), wgt h (jg c p r) = c * h p + wgt h r
  | [], c, p => rfl
  | (d, q) :: r, c, p => by
    unfold jg
    split
    · rename_i e
      subst e
      rw [jg_wgt h r]
      simp only [wgt, Nat.add_mul]
      omega
    · simp only [wgt, jg_wgt h r]
theorem J_wgt (h : Pa → Nat) (l : List It) : wgt h (J l) = wgt h l := by
  unfold J
  rw [← wgt_perm h (sortI_perm l)]
  cases sortI l with
  | nil => rfl
  | cons a r => exact jg_wgt h r a.1 a.2
/-! ### leaves changed -/
/-- the change goes along with raising -/
structure Cm (f : Pa → Nat → Pl) : Prop where
  sh : ∀ (l : Pa) (s k : Nat), l.leaf = true → s ≤ k → f (l.sh 1 s) (k + 1) = (f l k).sh 1 s
  pp : ∀ (l : Pa) (k : Nat), l.leaf = true → (f l k).pp
theorem times_sh (a t c : Nat) : ∀ p : Pl, (p.times c).sh a t = (p.sh a t).times c
  | .nil => rfl
  | .cons n p r => by
    have := times_sh a t c r
    simp only [Pl.sh] at this
    simp only [Pl.times, Pl.sh, Pl.raised, this]
theorem app_sh (a t : Nat) : ∀ p q : Pl, (p.app q).sh a t = (p.sh a t).app (q.sh a t)
  | .nil, q => rfl
  | .cons c p r, q => by
    have := app_sh a t r q
    simp only [Pl.sh] at this
    simp only [Pl.app, Pl.sh, Pl.raised, this]
section
variable {f : Pa → Nat → Pl} (F : Cm f)
include F
mutual
theorem Pa.map_sh : ∀ (p : Pa) (s k c : Nat) (_ : s ≤ k), (p.sh 1 s).mapA f (k + 1) c = (p.mapA f k c).sh 1 s
  | .name y, s, k, c, h => by
    have e := F.sh (.name y) s k rfl h
    show (f (Pa.name y) (k + 1)).times c = ((f (Pa.name y) k).times c).sh 1 s
    rw [times_sh, ← e]
    rfl
  | .mark y, s, k, c, h => by
    have e := F.sh (.mark y) s k rfl h
    show (f (Pa.mark y) (k + 1)).times c = ((f (Pa.mark y) k).times c).sh 1 s
    rw [times_sh, ← e]
    rfl
  | .got y, s, k, c, h => by
    have e := F.sh (.got y) s k rfl h
    have e2 : ((Pa.got y).sh 1 s).mapA f (k + 1) c = (f ((Pa.got y).sh 1 s) (k + 1)).times c := by rw [sh_got]; rfl
    rw [e2, e]
    show _ = ((f (Pa.got y) k).times c).sh 1 s
    rw [times_sh]
  | .letter d b, s, k, c, h => by
    have := Pl.map_sh b s k h
    simp only [Pl.sh] at this
    simp only [Pa.sh, Pa.raised, Pa.mapA, Pl.sh, Pl.raised, this]
  | .wait d b, s, k, c, h => by
    have := Pl.map_sh b (s + 1) (k + 1) (by omega)
    simp only [Pl.sh] at this
    simp only [Pa.sh, Pa.raised, Pa.mapA, Pl.sh, Pl.raised, this]
theorem Pl.map_sh : ∀ (p : Pl) (s k : Nat) (_ : s ≤ k), (p.sh 1 s).mapA f (k + 1) = (p.mapA f k).sh 1 s
  | .nil, s, k, h => rfl
  | .cons c p r, s, k, h => by
    have h1 := Pa.map_sh p s k c h
    have h2 := Pl.map_sh r s k h
    have h3 := app_sh 1 s (p.mapA f k c) (r.mapA f k)
    simp only [Pl.sh, Pa.sh] at h1 h2 h3
    simp only [Pl.sh, Pl.raised, Pl.mapA, h1, h2, h3]
end
mutual
theorem Pa.map_pp : ∀ (p : Pa) (k c : Nat), 1 ≤ c → p.pp → (p.mapA f k c).pp
  | .name y, k, c, hc, h => pp_times hc (F.pp _ _ rfl)
  | .mark y, k, c, hc, h => pp_times hc (F.pp _ _ rfl)
  | .got y, k, c, hc, h => pp_times hc (F.pp _ _ rfl)
  | .letter d b, k, c, hc, h => ⟨hc, Pl.map_pp b k h, trivial⟩
  | .wait d b, k, c, hc, h => ⟨hc, Pl.map_pp b (k + 1) h, trivial⟩
theorem Pl.map_pp : ∀ (p : Pl) (k : Nat), p.pp → (p.mapA f k).pp
  | .nil, k, h => trivial
  | .cons c p r, k, h => pp_app (Pa.map_pp p k c h.1 h.2.1) (Pl.map_pp r k h.2.2)
end
omit F in
theorem cnt_times (t : Pa) (c : Nat) : ∀ p : Pl, cnt t (p.times c).NI = c * cnt t p.NI
  | .nil => by simp [Pl.times, Pl.NI, cnt]
  | .cons n p r => by
    simp only [Pl.times, Pl.NI, cnt, cnt_times t c r, Nat.mul_add]
    split
    · rw [Nat.mul_assoc]
    · omega
omit F in
theorem map_lin (t : Pa) (k c : Nat) (p : Pa) : cnt t (p.mapA f k c).NI = c * cnt t (p.mapA f k 1).NI := by
  cases p with
  | letter d b => simp only [Pa.mapA, Pl.NI, cnt]; split <;> simp
  | wait d b => simp only [Pa.mapA, Pl.NI, cnt]; split <;> simp
  | _ => simp only [Pa.mapA, cnt_times, Nat.one_mul]
/-- how often t stands in what one p becomes -/
abbrev gP (f : Pa → Nat → Pl) (t : Pa) (k : Nat) (p : Pa) : Nat := cnt t (p.mapA f k 1).NI
omit F in
theorem map_wgt (t : Pa) (k : Nat) : ∀ p : Pl, cnt t (p.mapA f k).NI = wgt (gP f t k) p.L
  | .nil => rfl
  | .cons c p r => by
    simp only [Pl.mapA, NI_app, cnt_app, Pl.L, wgt, map_wgt t k r]
    rw [map_lin t k c p]
mutual
theorem Pa.map_N : ∀ (p : Pa) (k : Nat) (t : Pa), p.pp → gP f t k p = p.N.1 * gP f t k p.N.2
  | .name y, k, t, h => by simp only [Pa.N, Nat.one_mul]
  | .mark y, k, t, h => by simp only [Pa.N, Nat.one_mul]
  | .got y, k, t, h => by simp only [Pa.N, Nat.one_mul]
  | .letter d b, k, t, h => by
    have e := N_J (Pl.map_pp F b k h) (Pl.map_pp F b.N k (by unfold Pl.N; exact pp_ofJ h)) (fun t => Pl.map_N b k t h)
    simp only [Pa.N, Nat.one_mul, gP, Pa.mapA, Pl.NI, e]
    rfl
  | .wait d b, k, t, h => by
    have hb := Pl.map_pp F b (k + 1) h
    have hN : b.N.pp := by unfold Pl.N; exact pp_ofJ h
    have e := N_J hb (Pl.map_pp F b.N (k + 1) hN) (fun t => Pl.map_N b (k + 1) t h)
    have l1 : (Pa.wait d (b.mapA f (k + 1))).N = (Pa.wait d (b.N.mapA f (k + 1))).N := by simp only [Pa.N, e]
    simp only [gP, Pa.mapA, Pl.NI, l1]
    rcases foldL_cases d (J b.NI) with g | ⟨r, M, hl, g⟩
    · simp only [Pa.N] at g ⊢
      rw [g]
      simp only [Nat.one_mul, Pa.mapA, Pl.NI, Pa.N]
      rfl
    · have e1 : b.N = (ofL r).app (.cons M (.wait d (ofL r).up) .nil) := by
        unfold Pl.N
        rw [hl]
        exact ofL_app r _
      have hr : (ofL r).pp := by
        rw [e1] at hN
        exact pp_left hN
      have hM : 1 ≤ M := by
        have := J_pos (pp_pos h)
        rw [hl] at this
        exact this (M, .wait d (ofL r).up) (by simp)
      have e2 : b.N.mapA f (k + 1) = ((ofL r).mapA f (k + 1)).app (.cons M (.wait d ((ofL r).mapA f (k + 1)).up) .nil) := by
        rw [e1, map_app]
        congr 1
        simp only [Pl.mapA, Pa.mapA, Pl.app]
        have := Pl.map_sh F (ofL r) 1 (k + 1) (by omega)
        rw [up_sh, this, up_sh]
      have hu := unfold_P (x := d) (b := (ofL r).mapA f (k + 1)) (k := M + 1) (by omega) (pp_pos (Pl.map_pp F _ _ hr))
      rw [Nat.add_sub_cancel] at hu
      rw [e2, hu]
      have hn : (Pa.wait d b).N = (M + 1, .wait d (ofL r)) := by simp only [Pa.N]; exact g
      rw [hn]
      simp only [Pa.mapA, Pl.NI, cnt, Nat.one_mul, Nat.add_zero]
      split <;> simp
theorem Pl.map_N : ∀ (p : Pl) (k : Nat) (t : Pa), p.pp → cnt t (p.mapA f k).NI = cnt t (p.N.mapA f k).NI
  | .nil, k, t, h => rfl
  | .cons c p r, k, t, h => by
    have e : ∀ q : Pl, q.pp → wgt (gP f t k) q.N.L = wgt (gP f t k) q.NI := fun q _ => by unfold Pl.N; rw [L_ofL, J_wgt]
    have h2 := Pl.map_N r k t h.2.2
    rw [map_wgt, map_wgt, e r h.2.2] at h2
    have h1 := Pa.map_N p k t h.2.1
    rw [map_wgt, map_wgt, e _ h]
    simp only [Pl.L, Pl.NI, wgt, h2, h1, Nat.mul_assoc]
end
end
end Dl
/-! Pf16: likeness in surroundings. -/
namespace Dl
open PySem PySem.Spec PyProof.Rows L2 NdefX
theorem cong_map {f : Pa → Nat → Pl} (F : Cm f) {p q : Pl} (hp : p.pp) (hq : q.pp) (k : Nat) (h : p.N = q.N) : (p.mapA f k).N = (q.mapA f k).N := by
  refine (N_iff (Pl.map_pp F p k hp) (Pl.map_pp F q k hq)).mpr fun t => ?_
  rw [Pl.map_N F p k t hp, Pl.map_N F q k t hq, h]
/-! names and marks put -/
abbrev nmT (x : Str) : D := .tup [.str "name", .str x]
abbrev mkT (j : Nat) : D := .tup [.str "mark", .int j]
theorem cm_put {old : D} {o : Pl} (ho : o.ok 0 = true) (hold : ∀ n, (Pa.got n).d.eq old = false) : Cm (putF old o) where
  sh := fun l s k hl hs => by
    have hos : o.sh 1 s = o := Pl.raised_ok 1 o s (Pl.ok_mono o 0 s (by omega) ho)
    cases l with
    | got n =>
      rw [sh_got]
      unfold putF
      rw [hold, hold]
      simp only [Bool.false_eq_true, if_false, Pl.sh, Pl.raised]
      rw [show (Pa.got n).raised 1 0 s = (Pa.got n).sh 1 s from rfl, sh_got]
    | name y =>
      show putF old o (.name y) (k + 1) = (putF old o (.name y) k).sh 1 s
      unfold putF
      split
      · rw [hos]
      · rfl
    | mark y =>
      show putF old o (.mark y) (k + 1) = (putF old o (.mark y) k).sh 1 s
      unfold putF
      split
      · rw [hos]
      · rfl
    | letter y b => cases hl
    | wait y b => cases hl
  pp := fun l k hl => by
    unfold putF
    split
    · exact Pl.ok_pp o 0 ho
    · exact ⟨Nat.le_refl _, by cases l <;> first | trivial | cases hl, trivial⟩
theorem cm_bind (x : Str) : Cm (bindF x) where
  sh := fun l s k hl hs => by
    cases l with
    | got n => rw [sh_got]; simp only [bindF, Pl.sh, Pl.raised]; rw [show (Pa.got n).raised 1 0 s = (Pa.got n).sh 1 s from rfl, sh_got]
    | name y =>
      show bindF x (.name y) (k + 1) = (bindF x (.name y) k).sh 1 s
      simp only [bindF, Pl.sh, Pl.raised]
      split
      · have : (Pa.got k).raised 1 0 s = .got (k + 1) := by
          rw [show (Pa.got k).raised 1 0 s = (Pa.got k).sh 1 s from rfl, sh_got, if_pos hs]
        rw [this]
      · rfl
    | mark y => rfl
    | letter y b => cases hl
    | wait y b => cases hl
  pp := fun l k hl => by
    cases l with
    | name y => exact ⟨Nat.le_refl _, by show (if y = x then Pa.got k else Pa.name y).pp; split <;> trivial, trivial⟩
    | got n => exact ⟨Nat.le_refl _, trivial, trivial⟩
    | mark n => exact ⟨Nat.le_refl _, trivial, trivial⟩
    | letter y b => cases hl
    | wait y b => cases hl
def freeF (x : Str) (p : Pa) (k : Nat) : Pl := match p with
  | .got n => .cons 1 (if n = k then .name x else .got n) .nil
  | p => .cons 1 p .nil
theorem cm_free (x : Str) : Cm (freeF x) where
  sh := fun l s k hl hs => by
    cases l with
    | got n =>
      rw [sh_got]
      simp only [freeF, Pl.sh, Pl.raised]
      by_cases h : n = k
      · subst h
        rw [if_pos hs]
        simp [Pa.raised]
      · have : ¬ (if s ≤ n then n + 1 else n) = k + 1 := by split <;> omega
        rw [if_neg h, if_neg this]
        rw [show (Pa.got n).raised 1 0 s = (Pa.got n).sh 1 s from rfl, sh_got]
    | name y => rfl
    | mark y => rfl
    | letter y b => cases hl
    | wait y b => cases hl
  pp := fun l k hl => by
    cases l with
    | got n => exact ⟨Nat.le_refl _, by show (if n = k then Pa.name x else Pa.got n).pp; split <;> trivial, trivial⟩
    | name y => exact ⟨Nat.le_refl _, trivial, trivial⟩
    | mark n => exact ⟨Nat.le_refl _, trivial, trivial⟩
    | letter y b => cases hl
    | wait y b => cases hl
mutual
theorem Pa.mapA_free (x : Str) : ∀ (p : Pa) (k c : Nat), p.mapA (freeF x) k c = .cons c (p.freed x k) .nil
  | .name y, k, c => by simp [Pa.mapA, freeF, Pl.times, Pa.freed]
  | .mark n, k, c => by simp [Pa.mapA, freeF, Pl.times, Pa.freed]
  | .got n, k, c => by simp [Pa.mapA, freeF, Pl.times, Pa.freed]
  | .letter d b, k, c => by simp [Pa.mapA, Pa.freed, Pl.mapA_free x b k]
  | .wait d b, k, c => by simp [Pa.mapA, Pa.freed, Pl.mapA_free x b (k + 1)]
theorem Pl.mapA_free (x : Str) : ∀ (p : Pl) (k : Nat), p.mapA (freeF x) k = p.freed x k
  | .nil, k => rfl
  | .cons c p r, k => by simp [Pl.mapA, Pl.freed, Pa.mapA_free x p k c, Pl.mapA_free x r k, Pl.app]
end
/-! ### letters and waits round about -/
theorem J_one (i : It) : J [i] = [i] := rfl
theorem one_N (p : Pa) : (Pl.cons 1 p .nil).N = .cons p.N.1 p.N.2 .nil := by
  show ofL (J [(1 * p.N.1, p.N.2)]) = _
  rw [J_one, Nat.one_mul]
  rfl
theorem letter_iff {x y : Str} {p q : Pl} : (Pl.cons 1 (.letter x p) .nil).N = (Pl.cons 1 (.letter y q) .nil).N ↔ x = y ∧ p.N = q.N := by
  rw [one_N, one_N]
  constructor
  · intro h
    simp only [Pa.N, Pl.cons.injEq, Pa.letter.injEq, true_and, and_true] at h
    exact h
  · rintro ⟨rfl, h⟩
    simp only [Pa.N, Pl.cons.injEq, Pa.letter.injEq, true_and, and_true]
    exact h
theorem foldL_inj {x : Str} {l m : List It} (hl : posI l) (hm : posI m) (h : foldL x l = foldL x m) : l = m := by
  have oinj : ∀ {a b : List It}, ofL a = ofL b → a = b := fun {a b} e => by have := congrArg Pl.L e; rwa [L_ofL, L_ofL] at this
  rcases foldL_cases x l with g | ⟨r, M, el, g⟩
  · rcases foldL_cases x m with g2 | ⟨r2, M2, em, g2⟩
    · rw [g, g2] at h
      simp only [Prod.mk.injEq, Pa.wait.injEq, true_and] at h
      exact oinj h
    · rw [g, g2] at h
      have h1 := (Prod.mk.inj h).1
      have := hm (M2, .wait x (ofL r2).up) (by rw [em]; simp)
      simp only at this
      omega
  · rcases foldL_cases x m with g2 | ⟨r2, M2, em, g2⟩
    · rw [g, g2] at h
      have h1 := (Prod.mk.inj h).1
      have := hl (M, .wait x (ofL r).up) (by rw [el]; simp)
      simp only at this
      omega
    · rw [g, g2] at h
      obtain ⟨h1, h2⟩ := Prod.mk.inj h
      simp only [Pa.wait.injEq, true_and] at h2
      have e := oinj h2
      have e2 : M = M2 := by omega
      rw [el, em, e, e2]
theorem wait_iff {x : Str} {p q : Pl} (hp : p.pp) (hq : q.pp) : (Pl.cons 1 (.wait x p) .nil).N = (Pl.cons 1 (.wait x q) .nil).N ↔ p.N = q.N := by
  rw [one_N, one_N]
  constructor
  · intro h
    simp only [Pa.N, Pl.cons.injEq, and_true] at h
    have := foldL_inj (J_pos (pp_pos hp)) (J_pos (pp_pos hq)) (Prod.ext h.1 h.2)
    unfold Pl.N
    rw [this]
  · intro h
    have := J_of_N h
    simp only [Pa.N, this]
theorem caught_pp {x : Str} {p : Pl} (h : p.pp) (k : Nat) : (p.caught x k).pp := by rw [← Pl.mapA_bind]; exact Pl.map_pp (cm_bind x) p k h
theorem caught_iff {x : Str} {p q : Pl} (hp : p.ok 0 = true) (hq : q.ok 0 = true) : (p.caught x 0).N = (q.caught x 0).N ↔ p.N = q.N := by
  have pp := Pl.ok_pp p 0 hp
  have qp := Pl.ok_pp q 0 hq
  constructor
  · intro h
    have := cong_map (cm_free x) (caught_pp pp 0) (caught_pp qp 0) 0 h
    rw [Pl.mapA_free, Pl.mapA_free, Pl.freed_caught x p 0 hp, Pl.freed_caught x q 0 hq] at this
    exact this
  · intro h
    have := cong_map (cm_bind x) pp qp 0 h
    rw [Pl.mapA_bind, Pl.mapA_bind] at this
    exact this
/-! ### beside -/
theorem beside_iff {p q t : Pl} (hp : p.pp) (hq : q.pp) (ht : t.pp) : (p.app t).N = (t.app q).N ↔ p.N = q.N := by
  rw [N_iff (pp_app hp ht) (pp_app ht hq), N_iff hp hq]
  simp only [NI_app, cnt_app]
  constructor
  · intro h s
    have := h s
    omega
  · intro h s
    have := h s
    omega
/-! ### put -/
theorem got_nm (x : Str) (n : Nat) : (Pa.got n).d.eq (nmT x) = false := by simp [Pa.d, ne_2]
theorem got_mk (j : Nat) (n : Nat) : (Pa.got n).d.eq (mkT j) = false := by simp [Pa.d, ne_3]
theorem put_cong {old : D} {o p q : Pl} (ho : o.ok 0 = true) (hold : ∀ n, (Pa.got n).d.eq old = false) (hp : p.pp) (hq : q.pp) (h : p.N = q.N) : (p.put old o).N = (q.put old o).N :=
  cong_map (cm_put ho hold) hp hq 0 h
mutual
theorem Pa.put_ctx (old : D) {o o' : Pl} (F : Cm (putF old o)) (F' : Cm (putF old o')) (h : o.N = o'.N) : ∀ (p : Pa) (k c : Nat) (t : Pa), p.pp → cnt t (p.mapA (putF old o) k c).NI = cnt t (p.mapA (putF old o') k c).NI
  | .name y, k, c, t, _ => by
    simp only [Pa.mapA, cnt_times, putF]
    split
    · rw [N_cnt h]
    · rfl
  | .mark y, k, c, t, _ => by
    simp only [Pa.mapA, cnt_times, putF]
    split
    · rw [N_cnt h]
    · rfl
  | .got y, k, c, t, _ => by
    simp only [Pa.mapA, cnt_times, putF]
    split
    · rw [N_cnt h]
    · rfl
  | .letter d b, k, c, t, hb => by
    have e := N_J (Pl.map_pp F b k hb) (Pl.map_pp F' b k hb) (fun t => Pl.put_ctx old F F' h b k t hb)
    simp only [Pa.mapA, Pl.NI, Pa.N, e]
  | .wait d b, k, c, t, hb => by
    have e := N_J (Pl.map_pp F b (k + 1) hb) (Pl.map_pp F' b (k + 1) hb) (fun t => Pl.put_ctx old F F' h b (k + 1) t hb)
    simp only [Pa.mapA, Pl.NI, Pa.N, e]
theorem Pl.put_ctx (old : D) {o o' : Pl} (F : Cm (putF old o)) (F' : Cm (putF old o')) (h : o.N = o'.N) : ∀ (p : Pl) (k : Nat) (t : Pa), p.pp → cnt t (p.mapA (putF old o) k).NI = cnt t (p.mapA (putF old o') k).NI
  | .nil, k, t, _ => rfl
  | .cons c p r, k, t, hp => by
    simp only [Pl.mapA, NI_app, cnt_app, Pa.put_ctx old F F' h p k c t hp.2.1, Pl.put_ctx old F F' h r k t hp.2.2]
end
theorem ctx_cong {old : D} {o o' p : Pl} (ho : o.ok 0 = true) (ho' : o'.ok 0 = true) (hold : ∀ n, (Pa.got n).d.eq old = false) (hp : p.pp) (h : o.N = o'.N) : (p.put old o).N = (p.put old o').N := by
  have F := cm_put ho hold
  have F' := cm_put ho' hold
  exact (N_iff (Pl.map_pp F p 0 hp) (Pl.map_pp F' p 0 hp)).mpr fun t => Pl.put_ctx old F F' h p 0 t hp
/-! ### one name for another -/
abbrev nm1 (y : Str) : Pl := .cons 1 (.name y) .nil
mutual
theorem Pa.ren_back {x y : Str} : ∀ (p : Pa) (k c : Nat) (ds ws : List Str), p.dr ds ws = true → y ∉ ws → (p.mapA (putF (nmT x) (nm1 y)) k c).mapA (putF (nmT y) (nm1 x)) k = .cons c p .nil
  | .name z, k, c, ds, ws, h, hy => by
    simp only [Pa.dr, decide_eq_true_eq] at h
    by_cases e : z = x
    · subst e
      simp [Pa.mapA, putF, Pa.d, Pl.times, Pl.mapA, Pl.app]
    · have e2 : ¬ z = y := fun q => hy (by rw [← q]; exact h)
      simp [Pa.mapA, putF, Pa.d, e, e2, Pl.times, Pl.mapA, Pl.app]
  | .mark z, k, c, ds, ws, h, hy => by simp [Pa.mapA, putF, Pa.d, ne_1, Pl.times, Pl.mapA, Pl.app]
  | .got z, k, c, ds, ws, h, hy => by simp [Pa.mapA, putF, Pa.d, ne_2, Pl.times, Pl.mapA, Pl.app]
  | .letter d b, k, c, ds, ws, h, hy => by
    simp only [Pa.dr, Bool.and_eq_true] at h
    simp only [Pa.mapA, Pl.mapA, Pl.app, Pl.ren_back b k ds ws h.2 hy]
  | .wait d b, k, c, ds, ws, h, hy => by
    simp only [Pa.dr, Bool.and_eq_true] at h
    simp only [Pa.mapA, Pl.mapA, Pl.app, Pl.ren_back b (k + 1) ds ws h.2 hy]
theorem Pl.ren_back {x y : Str} : ∀ (p : Pl) (k : Nat) (ds ws : List Str), p.dr ds ws = true → y ∉ ws → (p.mapA (putF (nmT x) (nm1 y)) k).mapA (putF (nmT y) (nm1 x)) k = p
  | .nil, k, ds, ws, h, hy => rfl
  | .cons c p r, k, ds, ws, h, hy => by
    simp only [Pl.dr, Bool.and_eq_true] at h
    simp only [Pl.mapA, map_app, Pa.ren_back p k c ds ws h.1 hy, Pl.ren_back r k ds ws h.2 hy, Pl.app]
end
theorem ren_iff {x y : Str} {p q : Pl} {ds ws : List Str} (hx : wordB x = true) (hy : wordB y = true) (hp : p.ok 0 = true) (hq : q.ok 0 = true) (dp : p.dr ds ws = true) (dq : q.dr ds ws = true) (hw : y ∉ ws) :
    (p.put (nmT x) (nm1 y)).N = (q.put (nmT x) (nm1 y)).N ↔ p.N = q.N := by
  have o1 : (nm1 y).ok 0 = true := by simp [Pl.ok, Pa.ok, hy]
  have o2 : (nm1 x).ok 0 = true := by simp [Pl.ok, Pa.ok, hx]
  have pp := Pl.ok_pp p 0 hp
  have qp := Pl.ok_pp q 0 hq
  constructor
  · intro h
    have := put_cong o2 (got_nm y) (Pl.map_pp (cm_put o1 (got_nm x)) p 0 pp) (Pl.map_pp (cm_put o1 (got_nm x)) q 0 qp) h
    unfold Pl.put at this
    rw [Pl.ren_back p 0 ds ws dp hw, Pl.ren_back q 0 ds ws dq hw] at this
    exact this
  · exact put_cong o1 (got_nm x) pp qp
end Dl
/-! L09: surroundings, run. -/
namespace Dl
open PySem PySem.Spec PyProof.Rows L2 NdefX
theorem timesz (c : Nat) : ∀ p : Pl, (p.times c).size = c * p.size
  | .nil => rfl
  | .cons n p r => by simp only [Pl.times, Pl.size, timesz c r, Nat.mul_add, Nat.mul_assoc]
mutual
theorem Pa.putz (old : D) (o : Pl) : ∀ (p : Pa) (k c : Nat), (p.mapA (putF old o) k c).size ≤ c * (p.size * (o.size + 1))
  | .name y, k, c => by
    simp only [Pa.mapA, putF]
    split
    · rw [timesz]
      refine Nat.mul_le_mul_left c ?_
      simp only [Pa.size]
      omega
    · simp only [Pl.times, Pl.size, Pa.size, Nat.mul_one, Nat.add_zero, Nat.one_mul]
      exact Nat.le_mul_of_pos_right c (by omega)
  | .mark y, k, c => by
    simp only [Pa.mapA, putF]
    split
    · rw [timesz]
      refine Nat.mul_le_mul_left c ?_
      simp only [Pa.size]
      omega
    · simp only [Pl.times, Pl.size, Pa.size, Nat.mul_one, Nat.add_zero, Nat.one_mul]
      exact Nat.le_mul_of_pos_right c (by omega)
  | .got y, k, c => by
    simp only [Pa.mapA, putF]
    split
    · rw [timesz]
      refine Nat.mul_le_mul_left c ?_
      simp only [Pa.size]
      omega
    · simp only [Pl.times, Pl.size, Pa.size, Nat.mul_one, Nat.add_zero, Nat.one_mul]
      exact Nat.le_mul_of_pos_right c (by omega)
  | .letter d b, k, c => by
    have := Pl.putz old o b k
    simp only [Pa.mapA, Pl.size, Pa.size, Nat.add_zero]
    refine Nat.mul_le_mul_left c ?_
    rw [Nat.add_mul]
    omega
  | .wait d b, k, c => by
    have := Pl.putz old o b (k + 1)
    simp only [Pa.mapA, Pl.size, Pa.size, Nat.add_zero]
    refine Nat.mul_le_mul_left c ?_
    rw [Nat.add_mul]
    omega
theorem Pl.putz (old : D) (o : Pl) : ∀ (p : Pl) (k : Nat), (p.mapA (putF old o) k).size ≤ p.size * (o.size + 1)
  | .nil, k => by simp [Pl.mapA, Pl.size]
  | .cons c p r, k => by
    have h1 := Pa.putz old o p k c
    have h2 := Pl.putz old o r k
    simp only [Pl.mapA, app_size, Pl.size, Nat.add_mul, Nat.mul_assoc] at *
    omega
end
/-- a small plan -/
structure Sm7 (s : Nat) (p : Pl) : Prop where
  ok : p.ok 0 = true
  sz : p.size ≤ s
section
variable {s r : Nat} {p q o : Pl}
theorem Sm7.wi (h : Sm7 s p) : p.within.length ≤ s := Nat.le_trans (Pl.within_size p 0 h.ok) h.sz
theorem Sm7.dep (h : Sm7 s p) : p.dep ≤ s := Nat.le_trans (Pl.dep_size p 0 h.ok) h.sz
theorem lim_big {n : Nat} (h : n ≤ 1000000) : n < limN := by
  have := limN_big
  have e : 2 ^ 64 = 18446744073709551616 := by decide
  omega
theorem Sm7.fit (h : Sm7 s p) (hs : s ≤ 1000000) : Fit 0 p := ⟨h.ok, lim_big (Nat.le_trans h.sz hs), by have := h.wi; omega⟩
theorem Sm7.app (h : Sm7 s p) (g : Sm7 r q) : Sm7 (s + r) (p.app q) := ⟨by rw [app_ok, h.ok, g.ok]; rfl, by rw [app_size]; have := h.sz; have := g.sz; omega⟩
theorem Sm7.put {old : D} (h : Sm7 s p) (g : Sm7 r o) : Sm7 (s * (r + 1)) (p.put old o) :=
  ⟨Pl.put_ok old o g.ok p 0 0 h.ok, Nat.le_trans (Pl.putz old o p 0) (Nat.mul_le_mul h.sz (by have := g.sz; omega))⟩
theorem Sm7.putOk (h : Sm7 s p) (g : Sm7 r o) (hb : s * (r + 1) ≤ 5000) (hd : s + r ≤ 60) : PutOk o p where
  p0 := h.ok
  o0 := g.ok
  ps := lim_big (by have := h.sz; omega)
  os := lim_big (by have := g.sz; omega)
  len := Nat.le_trans (Nat.mul_le_mul h.wi (by have := g.wi; omega)) hb
  dep := by have := h.dep; have := g.dep; omega
theorem Sm7.letter {d : Str} (h : Sm7 s p) (hd : doorB d = true) : Sm7 (s + 1) (.cons 1 (.letter d p) .nil) :=
  ⟨by simp [Pl.ok, Pa.ok, hd, h.ok], by have := h.sz; simp only [Pl.size, Pa.size, Nat.one_mul, Nat.add_zero]; omega⟩
theorem Sm7.wait {d x : Str} (h : Sm7 s p) (hd : doorB d = true) : Sm7 (s + 1) (.cons 1 (.wait d (p.caught x 0)) .nil) :=
  ⟨by simp [Pl.ok, Pa.ok, hd, Pl.caught_ok x p 0 h.ok], by have := h.sz; simp only [Pl.size, Pa.size, Pl.caught_size, Nat.one_mul, Nat.add_zero]; omega⟩
end
structure HasSu (tbl : Nat → Option DefB) : Prop extends HasAl tbl, HasLP tbl, HasPz tbl, HasLz tbl, HasLe tbl where
  t66 : tbl 66 = some ⟨2, 2, b_beside⟩
section
variable {tbl : Nat → Option DefB} (T : HasSu tbl) {w : World}
include T
theorem c_beside {n : Nat} {p q : Pl} (hp : p.ok 0 = true) (hq : q.ok 0 = true) (h1 : 2 * p.dep + 7 ≤ n) (h2 : 2 * q.dep + 7 ≤ n) (hz : p.within.length + q.within.length ≤ 1000000) : (Den tbl n).call 66 [.dat p.d, .dat q.d] w = .ok (.dat (p.app q).d) w := by
  obtain ⟨m, rfl, hm⟩ := succ_of (k := 2 * p.dep + 6) (n := n) (by omega)
  rw [den_succ T.t66]
  have e := c_checkTwo T.toHasAl (w := w) (n := m) hp hq hm (by omega)
  have l1 := len_within p
  have l2 := len_within q
  have hl : p.ds.length + q.ds.length ≤ sizeLine := by rw [sizeLine_eq]; omega
  have ed := app_ds p q
  simp only [Pl.d] at e
  simp [runB, initE, toSl, b_beside, e, hl, ed]
end
end Dl
/-! L09b: what surroundings keep. -/
namespace Dl
open PySem PySem.Spec PyProof.Rows L2 NdefX
abbrev kq1 (C : Cs) : Sd := (sSet 4 (dCall C 40 (aCons (dName 0) (aCons (dBin gAdd (dC (.int 1)) (dCall C 11 (aCons (dName 0) (aCons (dC (.int 6)) aNil)))) (aCons (dC (.int 0)) (aCons (dC (.str "abc")) (aCons (dLst (aCons (dC (.str "x")) (aCons (dC (.str "y")) aNil))) aNil)))))))
abbrev kq2 (C : Cs) : Sd := (sIf (dTst (dBin (gNe C.room) (dCall C 115 (aCons (dCall C 66 (aCons (dName 1) (aCons (dName 4) aNil))) (aCons (dCall C 66 (aCons (dName 4) (aCons (dName 2) aNil))) aNil))) (dName 3))) (sRet (dC (.bl false))) sNil)
abbrev kq3 (C : Cs) : Sd := (sIf (tOr' (dTst (dBin (gNe C.room) (dCall C 115 (aCons (dCall C 45 (aCons (dC (.str "a")) (aCons (dName 1) aNil))) (aCons (dCall C 45 (aCons (dC (.str "a")) (aCons (dName 2) aNil))) aNil))) (dName 3))) (dTst (dBin gIs (dCall C 115 (aCons (dCall C 45 (aCons (dC (.str "a")) (aCons (dName 1) aNil))) (aCons (dCall C 45 (aCons (dC (.str "b")) (aCons (dName 2) aNil))) aNil))) (dC (.bl true))))) (sRet (dC (.bl false))) sNil)
abbrev kq4 (C : Cs) : Sd := (sIf (dTst (dBin (gNe C.room) (dCall C 115 (aCons (dCall C 44 (aCons (dC (.str "b")) (aCons (dC (.str "x")) (aCons (dName 1) aNil)))) (aCons (dCall C 44 (aCons (dC (.str "b")) (aCons (dC (.str "x")) (aCons (dName 2) aNil)))) aNil))) (dName 3))) (sRet (dC (.bl false))) sNil)
abbrev kq5 (C : Cs) : Sd := (sSet 5 (dTup (aCons (dTup (aCons (dC (.int 1)) (aCons (dTup (aCons (dC (.str "name")) (aCons (dC (.str "fresh")) aNil))) aNil))) aNil)))
abbrev kq6 (C : Cs) : Sd := (sIf (dTst (dBin (gNe C.room) (dCall C 115 (aCons (dCall C 73 (aCons (dName 1) (aCons (dC (.str "x")) (aCons (dName 5) aNil)))) (aCons (dCall C 73 (aCons (dName 2) (aCons (dC (.str "x")) (aCons (dName 5) aNil)))) aNil))) (dName 3))) (sRet (dC (.bl false))) sNil)
abbrev kq7 (C : Cs) : Sd := (sRet (dBin (gEq C.room) (dCall C 115 (aCons (dCall C 44 (aCons (dC (.str "a")) (aCons (dC (.str "x")) (aCons (dCall C 66 (aCons (dName 1) (aCons (dName 4) aNil))) aNil)))) (aCons (dCall C 44 (aCons (dC (.str "a")) (aCons (dC (.str "x")) (aCons (dCall C 66 (aCons (dName 4) (aCons (dName 2) aNil))) aNil)))) aNil))) (dName 3)))
theorem kept_eq (C : Cs) : b__law_kept C = (sSeq (kq1 C) (sSeq (kq2 C) (sSeq (kq3 C) (sSeq (kq4 C) (sSeq (kq5 C) (sSeq (kq6 C) (kq7 C))))))) := rfl
abbrev hq1 (C : Cs) : Sd := (sSetW 1 (dCall C 22 (aCons (dName 0) aNil)))
abbrev hq2 (C : Cs) : Sd := (sSet 2 (dCall C 40 (aCons (dName 1) (aCons (dBin gAdd (dC (.int 1)) (dCall C 11 (aCons (dName 1) (aCons (dC (.int 7)) aNil)))) (aCons (dC (.int 0)) (aCons (dC (.str "ab")) (aCons (dLst (aCons (dC (.str "x")) (aCons (dC (.str "y")) aNil))) aNil)))))))
abbrev hq3 (C : Cs) : Sd := (sSet 3 (dCall C 114 (aCons (dName 1) (aCons (dCall C 112 (aCons (dName 2) aNil)) (aCons (dC (.int 1)) aNil)))))
abbrev hq4 (C : Cs) : Sd := (sSet 4 (dCall C 114 (aCons (dName 1) (aCons (dName 3) (aCons (dC (.int 1)) aNil)))))
abbrev hq5 (C : Cs) : Sd := (sIf (tOr' (dTst (dBin gIsNot (dCall C 115 (aCons (dName 2) (aCons (dName 2) aNil))) (dC (.bl true)))) (tOr' (dTst (dBin gIsNot (dCall C 115 (aCons (dName 2) (aCons (dName 3) aNil))) (dC (.bl true)))) (dTst (dBin gIsNot (dCall C 115 (aCons (dName 3) (aCons (dName 2) aNil))) (dC (.bl true)))))) (sRet (dC (.bl false))) sNil)
abbrev hq6 (C : Cs) : Sd := (sIf (tOr' (dTst (dBin gIsNot (dCall C 115 (aCons (dName 2) (aCons (dName 4) aNil))) (dC (.bl true)))) (tNot' (dTru (dCall C 119 (aCons (dName 1) (aCons (dName 2) (aCons (dName 3) (aCons (dC (.bl true)) aNil)))))))) (sRet (dC (.bl false))) sNil)
abbrev hq7 (C : Cs) : Sd := (sSet 5 (dCall C 40 (aCons (dName 1) (aCons (dBin gAdd (dC (.int 1)) (dCall C 11 (aCons (dName 1) (aCons (dC (.int 5)) aNil)))) (aCons (dC (.int 0)) (aCons (dC (.str "bc")) (aCons (dLst (aCons (dC (.str "y")) (aCons (dC (.str "z")) aNil))) aNil)))))))
abbrev hq8 (C : Cs) : Sd := (sIf (dTst (dBin gIsNot (dCall C 115 (aCons (dCall C 73 (aCons (dName 2) (aCons (dC (.str "x")) (aCons (dName 5) aNil)))) (aCons (dCall C 73 (aCons (dName 4) (aCons (dC (.str "x")) (aCons (dName 5) aNil)))) aNil))) (dC (.bl true)))) (sRet (dC (.bl false))) sNil)
abbrev hq9 (C : Cs) : Sd := (sSet 6 (dCall C 40 (aCons (dName 1) (aCons (dBin gAdd (dC (.int 1)) (dCall C 11 (aCons (dName 1) (aCons (dC (.int 7)) aNil)))) (aCons (dC (.int 0)) (aCons (dC (.str "ab")) (aCons (dLst (aCons (dC (.str "x")) (aCons (dC (.str "z")) aNil))) aNil)))))))
abbrev hq10 (C : Cs) : Sd := (sIf (dTst (dBin gIsNot (dCall C 115 (aCons (dCall C 73 (aCons (dName 6) (aCons (dC (.str "x")) (aCons (dName 2) aNil)))) (aCons (dCall C 73 (aCons (dName 6) (aCons (dC (.str "x")) (aCons (dName 3) aNil)))) aNil))) (dC (.bl true)))) (sRet (dC (.bl false))) sNil)
abbrev hq11 (C : Cs) : Sd := (sSet 7 (dCall C 73 (aCons (dName 2) (aCons (dC (.str "y")) (aCons (dTup (aCons (dTup (aCons (dC (.int 1)) (aCons (dTup (aCons (dC (.str "mark")) (aCons (dC (.int 2)) aNil))) aNil))) aNil)) aNil)))))
abbrev hq12 (C : Cs) : Sd := (sIf (dTst (dBin gIsNot (dCall C 115 (aCons (dCall C 65 (aCons (dName 7) (aCons (dC (.int 2)) (aCons (dName 5) aNil)))) (aCons (dCall C 73 (aCons (dName 3) (aCons (dC (.str "y")) (aCons (dName 5) aNil)))) aNil))) (dC (.bl true)))) (sRet (dC (.bl false))) sNil)
abbrev hq13 (C : Cs) : Sd := (sSet 8 (dCall C 40 (aCons (dName 1) (aCons (dCall C 41 (aCons (dName 2) aNil)) (aCons (dC (.int 0)) (aCons (dC (.str "ab")) (aCons (dLst (aCons (dC (.str "x")) (aCons (dC (.str "y")) aNil))) aNil)))))))
abbrev hq14 (C : Cs) : Sd := (sSet 9 (dBin (gEq C.room) (dCall C 112 (aCons (dName 8) aNil)) (dCall C 112 (aCons (dName 2) aNil))))
abbrev hq15 (C : Cs) : Sd := (sRet (dAnd (dBin (gEq C.room) (dCall C 115 (aCons (dName 2) (aCons (dName 8) aNil))) (dName 9)) (dCall C 119 (aCons (dName 1) (aCons (dName 2) (aCons (dName 8) (aCons (dName 9) aNil)))))))
theorem law9_eq (C : Cs) : b_law_120 C = (sSeq (hq1 C) (sSeq (hq2 C) (sSeq (hq3 C) (sSeq (hq4 C) (sSeq (hq5 C) (sSeq (hq6 C) (sSeq (hq7 C) (sSeq (hq8 C) (sSeq (hq9 C) (sSeq (hq10 C) (sSeq (hq11 C) (sSeq (hq12 C) (sSeq (hq13 C) (sSeq (hq14 C) (hq15 C))))))))))))))) := rfl
theorem sq_rt {a b : Sd} {env : Ev} {r : RV} {w w' : World} (h : a env w = .ok (.rt r) w') : sSeq a b env w = .ok (.rt r) w' := by
  simp [h]
structure Has09 (tbl : Nat → Option DefB) : Prop extends HasSu tbl, HasLf tbl, HasSp tbl, HasMz tbl where
  t22 : tbl 22 = some ⟨1, 1, b__law_tape⟩
  t119 : tbl 119 = some ⟨4, 6, b__law_kept⟩
theorem doors_abc9 : DoorsOf "abc" := ⟨by decide +kernel, by decide +kernel, by decide +kernel⟩
theorem doors_ab9 : DoorsOf "ab" := ⟨by decide +kernel, by decide +kernel, by decide +kernel⟩
theorem doors_bc9 : DoorsOf "bc" := ⟨by decide +kernel, by decide +kernel, by decide +kernel⟩
theorem words_xy9 : WordsOf ["x", "y"] := by
  refine ⟨by decide, fun x hx => ?_⟩
  simp only [List.mem_cons, List.not_mem_nil, or_false] at hx
  rcases hx with rfl | rfl <;> decide +kernel
theorem words_yz9 : WordsOf ["y", "z"] := by
  refine ⟨by decide, fun x hx => ?_⟩
  simp only [List.mem_cons, List.not_mem_nil, or_false] at hx
  rcases hx with rfl | rfl <;> decide +kernel
theorem words_xz9 : WordsOf ["x", "z"] := by
  refine ⟨by decide, fun x hx => ?_⟩
  simp only [List.mem_cons, List.not_mem_nil, or_false] at hx
  rcases hx with rfl | rfl <;> decide +kernel
theorem da : doorB "a" = true := by decide +kernel
theorem db : doorB "b" = true := by decide +kernel
theorem wx : wordB "x" = true := by decide +kernel
theorem wy : wordB "y" = true := by decide +kernel
theorem wf : wordB "fresh" = true := by decide +kernel
theorem nf_xy : ("fresh" : Str) ∉ (["x", "y"] : List Str) := by decide +kernel
theorem ne_ab : ¬ (Str.ofString "a" = Str.ofString "b") := by decide +kernel
theorem allL_t9 {w : World} (h : TapeOk [] w) : allL w = true := by
  obtain ⟨ns, pos, c2, c3, c4, rfl, _⟩ := h
  rfl
theorem dec_iff {a b : Prop} [Decidable a] [Decidable b] (h : a ↔ b) : decide a = decide b := decide_eq_decide.mpr h
section
variable {tbl : Nat → Option DefB} (T : Has09 tbl)
include T
theorem c_kept {n : Nat} (hn : 160 ≤ n) {p q : Pl} {ds : List Str} {w : World} (hp : Sm7 7 p) (hq : Sm7 7 q) (hr : p.N = q.N ∨ (p.dr ds ["x", "y"] = true ∧ q.dr ds ["x", "y"] = true)) (ht : TapeOk [] w) :
    ∃ w', (Den tbl n).call 119 [.wref 0, .dat p.d, .dat q.d, .dat (.bl (decide (p.N = q.N)))] w = .ok (.dat (.bl true)) w' ∧ TapeOk [] w' := by
  obtain ⟨m, rfl, hm⟩ := succ_of (k := 159) (n := n) (by omega)
  obtain ⟨r, w1, e1, t1, r1⟩ := c_pick T.toHasPk (n := m) (by omega) ht (m := 6) (by decide) (by decide)
  obtain ⟨t, w2, e2, t2, tok, tsz, _⟩ := c_lplan T.toHasLP doors_abc9 words_xy9 (1 + r) m (by omega) (by omega) 0 [] w1 (by omega) t1
  have hw := allL_t9 t2
  have ht6 : Sm7 6 t := ⟨tok, by omega⟩
  have d1 := hp.dep
  have d2 := hq.dep
  have d3 := ht6.dep
  have i1 := hp.wi
  have i2 := hq.wi
  have i3 := ht6.wi
  have pp := Pl.ok_pp p 0 hp.ok
  have qp := Pl.ok_pp q 0 hq.ok
  have tp := Pl.ok_pp t 0 tok
  have pt := hp.app ht6
  have tq := ht6.app hq
  have dpt := pt.dep
  have dtq := tq.dep
  -- beside
  have b1 := c_beside T.toHasSu (w := w2) (n := m) hp.ok tok (by omega) (by omega) (by omega)
  have b2 := c_beside T.toHasSu (w := w2) (n := m) tok hq.ok (by omega) (by omega) (by omega)
  have a1 := c_alike T.toHasAl (n := m) hw (pt.fit (by decide)) (tq.fit (by decide)) (by omega) (by omega)
  rw [dec_iff (beside_iff pp qp tp)] at a1
  -- letters
  have l1 := c_letterZ T.toHasLe (d := "a") (w := w2) (n := m) (p := p) (by omega) da hp.ok
  have l2 := c_letterZ T.toHasLe (d := "a") (w := w2) (n := m) (p := q) (by omega) da hq.ok
  have l3 := c_letterZ T.toHasLe (d := "b") (w := w2) (n := m) (p := q) (by omega) db hq.ok
  have pa := hp.letter da
  have qa := hq.letter da
  have qb := hq.letter db
  have a2 := c_alike T.toHasAl (n := m) hw (pa.fit (by decide)) (qa.fit (by decide)) (by have := pa.dep; omega) (by have := qa.dep; omega)
  have a3 := c_alike T.toHasAl (n := m) hw (pa.fit (by decide)) (qb.fit (by decide)) (by have := pa.dep; omega) (by have := qb.dep; omega)
  rw [dec_iff (letter_iff.trans ⟨fun h => h.2, fun h => ⟨rfl, h⟩⟩)] at a2
  rw [decide_eq_false (fun h => ne_ab (letter_iff.mp h).1)] at a3
  -- waits
  have v1 := c_waitZ T.toHasLz (d := "b") (x := "x") (w := w2) (n := m) (p := p) hw (by omega) db wx hp.ok (by have := hp.sz; omega)
  have v2 := c_waitZ T.toHasLz (d := "b") (x := "x") (w := w2) (n := m) (p := q) hw (by omega) db wx hq.ok (by have := hq.sz; omega)
  have pw := hp.wait (x := "x") db
  have qw := hq.wait (x := "x") db
  have a4 := c_alike T.toHasAl (n := m) hw (pw.fit (by decide)) (qw.fit (by decide)) (by have := pw.dep; omega) (by have := qw.dep; omega)
  rw [dec_iff ((wait_iff (caught_pp pp 0) (caught_pp qp 0)).trans (caught_iff hp.ok hq.ok))] at a4
  -- a fresh name
  have fr : Sm7 1 (nm1 "fresh") := ⟨by simp [Pl.ok, Pa.ok, wf], by decide⟩
  have f1 := c_putZ T.toHasPz (x := "x") (w := w2) (n := m) wx hw (hp.putOk fr (by decide) (by decide)) (by omega) (by have := fr.wi; omega) (by omega)
  have f2 := c_putZ T.toHasPz (x := "x") (w := w2) (n := m) wx hw (hq.putOk fr (by decide) (by decide)) (by omega) (by have := fr.wi; omega) (by omega)
  have pf := hp.put (old := nmT "x") fr
  have qf := hq.put (old := nmT "x") fr
  have a5 := c_alike T.toHasAl (n := m) hw (pf.fit (by decide)) (qf.fit (by decide)) (by have := pf.dep; omega) (by have := qf.dep; omega)
  have hput : (p.put (nmT "x") (nm1 "fresh")).N = (q.put (nmT "x") (nm1 "fresh")).N ↔ p.N = q.N := by
    rcases hr with h | ⟨h1, h2⟩
    · exact ⟨fun _ => h, fun h => put_cong fr.ok (got_nm "x") pp qp h⟩
    · exact ren_iff wx wf hp.ok hq.ok h1 h2 nf_xy
  rw [dec_iff hput] at a5
  -- waits beside
  have v3 := c_waitZ T.toHasLz (d := "a") (x := "x") (w := w2) (n := m) (p := p.app t) hw (by omega) da wx pt.ok (by have := pt.sz; omega)
  have v4 := c_waitZ T.toHasLz (d := "a") (x := "x") (w := w2) (n := m) (p := t.app q) hw (by omega) da wx tq.ok (by have := tq.sz; omega)
  have ptw := pt.wait (x := "x") da
  have tqw := tq.wait (x := "x") da
  have a6 := c_alike T.toHasAl (n := m) hw (ptw.fit (by decide)) (tqw.fit (by decide)) (by have := ptw.dep; omega) (by have := tqw.dep; omega)
  rw [dec_iff ((wait_iff (caught_pp (pp_app pp tp) 0) (caught_pp (pp_app tp qp) 0)).trans ((caught_iff pt.ok tq.ok).trans (beside_iff pp qp tp)))] at a6
  have hcast : ((1 + r : Nat) : Int) = 1 + (r : Int) := by omega
  refine ⟨w2, ?_, t2⟩
  rw [den_succ T.t119]
  generalize hdue : decide (p.N = q.N) = due at *
  generalize hA : Pl.put p (nmT "x") (nm1 "fresh") = A at *
  generalize hB : Pl.put q (nmT "x") (nm1 "fresh") = B at *
  have enm : (nm1 "fresh").d = .tup [.tup [.int 1, .tup [.str "name", .str "fresh"]]] := rfl
  rw [enm] at f1 f2
  simp only [Pl.d, Int.cast_ofNat_Int, hcast, List.map_cons, List.map_nil] at e2 b1 b2 a1 l1 l2 l3 a2 a3 v1 v2 a4 f1 f2 a5 v3 v4 a6
  show endR (b__law_kept (Den tbl m) [.wref 0, .dat (.tup p.ds), .dat (.tup q.ds), .dat (.bl due), .un, .un] w) = _
  rw [kept_eq]
  have s1 : kq1 (Den tbl m) [.wref 0, .dat (.tup p.ds), .dat (.tup q.ds), .dat (.bl due), .un, .un] w = .ok (.nx [.wref 0, .dat (.tup p.ds), .dat (.tup q.ds), .dat (.bl due), .dat (.tup t.ds), .un]) w2 := by
    simp [e1, e2]
  have gn : ∀ rm, gNe rm (.bl due) (.bl due) = some (.dat (.bl false)) := fun rm => by simp
  have s2 : kq2 (Den tbl m) [.wref 0, .dat (.tup p.ds), .dat (.tup q.ds), .dat (.bl due), .dat (.tup t.ds), .un] w2 = .ok (.nx [.wref 0, .dat (.tup p.ds), .dat (.tup q.ds), .dat (.bl due), .dat (.tup t.ds), .un]) w2 := by
    simp [b1, b2, a1]
  have s3 : kq3 (Den tbl m) [.wref 0, .dat (.tup p.ds), .dat (.tup q.ds), .dat (.bl due), .dat (.tup t.ds), .un] w2 = .ok (.nx [.wref 0, .dat (.tup p.ds), .dat (.tup q.ds), .dat (.bl due), .dat (.tup t.ds), .un]) w2 := by
    simp [l1, l2, l3, a2, a3]
  have s4 : kq4 (Den tbl m) [.wref 0, .dat (.tup p.ds), .dat (.tup q.ds), .dat (.bl due), .dat (.tup t.ds), .un] w2 = .ok (.nx [.wref 0, .dat (.tup p.ds), .dat (.tup q.ds), .dat (.bl due), .dat (.tup t.ds), .un]) w2 := by
    simp [v1, v2, a4]
  have s5 : kq5 (Den tbl m) [.wref 0, .dat (.tup p.ds), .dat (.tup q.ds), .dat (.bl due), .dat (.tup t.ds), .un] w2 = .ok (.nx [.wref 0, .dat (.tup p.ds), .dat (.tup q.ds), .dat (.bl due), .dat (.tup t.ds), .dat (.tup [.tup [.int 1, .tup [.str "name", .str "fresh"]]])]) w2 := by
    simp
  have s6 : kq6 (Den tbl m) [.wref 0, .dat (.tup p.ds), .dat (.tup q.ds), .dat (.bl due), .dat (.tup t.ds), .dat (.tup [.tup [.int 1, .tup [.str "name", .str "fresh"]]])] w2 = .ok (.nx [.wref 0, .dat (.tup p.ds), .dat (.tup q.ds), .dat (.bl due), .dat (.tup t.ds), .dat (.tup [.tup [.int 1, .tup [.str "name", .str "fresh"]]])]) w2 := by
    simp [f1, f2, a5]
  have s7 : kq7 (Den tbl m) [.wref 0, .dat (.tup p.ds), .dat (.tup q.ds), .dat (.bl due), .dat (.tup t.ds), .dat (.tup [.tup [.int 1, .tup [.str "name", .str "fresh"]]])] w2 = .ok (.rt (.dat (.bl true))) w2 := by
    simp [b1, b2, v3, v4, a6]
  exact congrArg endR ((sq_nx s1).trans ((sq_nx s2).trans ((sq_nx s3).trans ((sq_nx s4).trans ((sq_nx s5).trans ((sq_nx s6).trans s7))))))
end
end Dl
/-! L09c: the law k09. -/
namespace Dl
open PySem PySem.Spec PyProof.Rows L2 NdefX
theorem hil_small {p : Pl} (ok : p.ok 0 = true) (hs : p.size ≤ 1000) : HiL p.L := by
  have ok' := ok
  rw [ok_L] at ok'
  refine ⟨?_, fun j hj => .inl ?_⟩
  · have := len_szL (okI_pos ok')
    rw [← size_L] at this
    omega
  · have := mem_szL hj
    rw [← size_L] at this
    omega
theorem cap_200 : 2 ^ 200 ≤ capS := by
  unfold capS
  exact Nat.pow_le_pow_right (by decide) (by decide)
theorem cap_small {n : Nat} (h : n ≤ 1000) : n ≤ capS := by
  have := cap_200
  have e : 1000 ≤ 2 ^ 200 := by decide
  omega
theorem app_nilR : ∀ p : Pl, p.app .nil = p
  | .nil => rfl
  | .cons c p r => by simp [Pl.app, app_nilR r]
mutual
theorem Pa.mark_mid {y : Str} {j : Nat} {o : Pl} : ∀ (p : Pa) (k c : Nat) (ds ws : List Str), p.dr ds ws = true → (p.mapA (putF (nmT y) (.cons 1 (.mark j) .nil)) k c).mapA (putF (mkT j) o) k = p.mapA (putF (nmT y) o) k c
  | .name z, k, c, ds, ws, h => by
    by_cases e : z = y
    · subst e
      simp [Pa.mapA, putF, Pa.d, Pl.times, Pl.mapA, app_nilR]
    · simp [Pa.mapA, putF, Pa.d, e, Pl.times, Pl.mapA, Pl.app, ne_18]
  | .mark z, k, c, ds, ws, h => by simp [Pa.dr] at h
  | .got z, k, c, ds, ws, h => by simp [Pa.mapA, putF, Pa.d, ne_2, ne_3, Pl.times, Pl.mapA, Pl.app]
  | .letter d b, k, c, ds, ws, h => by
    simp only [Pa.dr, Bool.and_eq_true] at h
    simp only [Pa.mapA, Pl.mapA, Pl.app, Pl.mark_mid b k ds ws h.2]
  | .wait d b, k, c, ds, ws, h => by
    simp only [Pa.dr, Bool.and_eq_true] at h
    simp only [Pa.mapA, Pl.mapA, Pl.app, Pl.mark_mid b (k + 1) ds ws h.2]
theorem Pl.mark_mid {y : Str} {j : Nat} {o : Pl} : ∀ (p : Pl) (k : Nat) (ds ws : List Str), p.dr ds ws = true → (p.mapA (putF (nmT y) (.cons 1 (.mark j) .nil)) k).mapA (putF (mkT j) o) k = p.mapA (putF (nmT y) o) k
  | .nil, k, ds, ws, h => rfl
  | .cons c p r, k, ds, ws, h => by
    simp only [Pl.dr, Bool.and_eq_true] at h
    simp only [Pl.mapA, map_app, Pa.mark_mid p k c ds ws h.1, Pl.mark_mid r k ds ws h.2]
end
section
variable {tbl : Nat → Option DefB} (T : Has09 tbl)
include T
theorem c_lsize9 {p : Pl} {n : Nat} {w : World} (hn : 2 * p.dep + 2 ≤ n) (hl : p.lim) : (Den tbl n).call 41 [.dat p.d] w = .ok (.dat (.int p.size)) w := by
  obtain ⟨m, rfl, hm⟩ := succ_of (k := 2 * p.dep + 1) hn
  rw [den_succ T.t41]
  have g := c_lszLoop T.toHasLS p (.tup p.ds) m w (by omega) hl
  have hs := sum_szs p
  simp [runB, initE, toSl, b__law_size, g, -cSum_l, hs]
theorem c_draw {n s k : Nat} (hn : 100 ≤ n) {z : Str} {ws : List Str} (hd : DoorsOf z) (hw : WordsOf ws) (hs : 1 ≤ s) (hs2 : s ≤ 40) {w : World} (ht : TapeOk [] w) :
    ∃ (r : Nat) (w1 w2 : World) (p : Pl), (Den tbl n).call 11 [.wref 0, .dat (.int (s : Int))] w = .ok (.dat (.int r)) w1 ∧ (Den tbl n).call 40 [.wref 0, .dat (.int (1 + (r : Int))), .dat (.int 0), .dat (.str z), .dat (.lst (ws.map .str))] w1 = .ok (.dat (.tup p.ds)) w2 ∧ TapeOk [] w2 ∧ Sm7 s p ∧ p.dr (signs z) ws = true := by
  obtain ⟨r, w1, e1, t1, r1⟩ := c_pick T.toHasPk (n := n) (by omega) ht (m := (s : Int)) (by omega) (by omega)
  obtain ⟨p, w2, e2, t2, ok, sz, dr⟩ := c_lplan T.toHasLP hd hw (1 + r) n (by omega) (by omega) 0 [] w1 (by omega) t1
  have hcast : ((1 + r : Nat) : Int) = 1 + (r : Int) := by omega
  rw [hcast] at e2
  exact ⟨r, w1, w2, p, e1, e2, t2, ⟨ok, by omega⟩, dr⟩
theorem law9 {n : Nat} (hn : 165 ≤ n) {S : D} {w : World} (ht : TapeOk [] w) :
    ∃ w', (sSeq (hq2 (Den tbl n)) (sSeq (hq3 (Den tbl n)) (sSeq (hq4 (Den tbl n)) (sSeq (hq5 (Den tbl n)) (sSeq (hq6 (Den tbl n)) (sSeq (hq7 (Den tbl n)) (sSeq (hq8 (Den tbl n)) (sSeq (hq9 (Den tbl n)) (sSeq (hq10 (Den tbl n)) (sSeq (hq11 (Den tbl n)) (sSeq (hq12 (Den tbl n)) (sSeq (hq13 (Den tbl n)) (sSeq (hq14 (Den tbl n)) (hq15 (Den tbl n))))))))))))))) [.dat S, .wref 0, .un, .un, .un, .un, .un, .un, .un, .un] w = .ok (.rt (.dat (.bl true))) w' := by
  have hr : (Den tbl n).room = 16 * n + 200 := den_room tbl n
  obtain ⟨r1, w1, w2, p, e1, e2, t2, hp, dp⟩ := c_draw T (n := n) (by omega) doors_ab9 words_xy9 (s := 7) (k := 0) (by decide) (by decide) ht
  have pp := Pl.ok_pp p 0 hp.ok
  have d1 := hp.dep
  have fp := hp.fit (by decide)
  have dN := Pl.N_dep p
  -- other and third
  have f3 := c_lform T.toHasLf (w := w2) (n := n) fp (by omega)
  have hN : Sm7 7 p.N := ⟨Pl.N_ok hp.ok, by rw [Pl.N_size]; exact hp.sz⟩
  obtain ⟨M1, w3, e3, t3, sp1⟩ := c_spread T.toHasSp (n := n) (p := p.N) hN.ok (hil_small hN.ok (by have := hN.sz; omega)) (cap_small (by have := hN.sz; omega)) (by have := hN.dep; omega) t2
  have nN := N_N hp.ok
  have n1 : (ofL M1).N = p.N := by rw [sp1.N_eq hN.ok, nN]
  have hq : Sm7 7 (ofL M1) := ⟨by rw [ok_ofL]; exact sp1.ok, by rw [size_ofL, sp1.sz, ← size_L]; exact hN.sz⟩
  obtain ⟨M2, w4, e4, t4, sp2⟩ := c_spread T.toHasSp (n := n) (p := ofL M1) hq.ok (hil_small hq.ok (by have := hq.sz; omega)) (cap_small (by have := hq.sz; omega)) (by have := hq.dep; omega) t3
  have n2 : (ofL M2).N = p.N := by rw [sp2.N_eq hq.ok, n1]
  have hu : Sm7 7 (ofL M2) := ⟨by rw [ok_ofL]; exact sp2.ok, by rw [size_ofL, sp2.sz, ← size_L]; exact hq.sz⟩
  generalize ofL M1 = q at *
  generalize ofL M2 = u at *
  have dq := hq.dep
  have du := hu.dep
  have qp := Pl.ok_pp q 0 hq.ok
  have up := Pl.ok_pp u 0 hu.ok
  have fq := hq.fit (by decide)
  have fu := hu.fit (by decide)
  have hw4 := allL_t9 t4
  have a51 := c_alike T.toHasAl (n := n) hw4 fp fp (by omega) (by omega)
  have a52 := c_alike T.toHasAl (n := n) hw4 fp fq (by omega) (by omega)
  have a53 := c_alike T.toHasAl (n := n) hw4 fq fp (by omega) (by omega)
  have a61 := c_alike T.toHasAl (n := n) hw4 fp fu (by omega) (by omega)
  rw [decide_eq_true rfl] at a51
  rw [decide_eq_true n1.symm] at a52
  rw [decide_eq_true n1] at a53
  rw [decide_eq_true n2.symm] at a61
  obtain ⟨w5, e6, t5⟩ := c_kept T (n := n) (p := p) (q := q) (ds := []) (by omega) hp hq (.inl n1.symm) t4
  rw [decide_eq_true n1.symm] at e6
  -- filled
  obtain ⟨r2, w6, w7, fi, e71, e72, t7, hfi, dfi⟩ := c_draw T (n := n) (by omega) doors_bc9 words_yz9 (s := 5) (k := 0) (by decide) (by decide) t5
  have hw7 := allL_t9 t7
  have b81 := c_putZ T.toHasPz (x := "x") (w := w7) (n := n) wx hw7 (hp.putOk hfi (by decide) (by decide)) (by have := hp.wi; omega) (by have := hfi.wi; omega) (by omega)
  have b82 := c_putZ T.toHasPz (x := "x") (w := w7) (n := n) wx hw7 (hu.putOk hfi (by decide) (by decide)) (by have := hu.wi; omega) (by have := hfi.wi; omega) (by omega)
  have s81 := hp.put (old := nmT "x") hfi
  have s82 := hu.put (old := nmT "x") hfi
  have a8 := c_alike T.toHasAl (n := n) hw7 (s81.fit (by decide)) (s82.fit (by decide)) (by have := s81.dep; omega) (by have := s82.dep; omega)
  rw [decide_eq_true (put_cong hfi.ok (got_nm "x") pp up n2.symm)] at a8
  -- outer
  obtain ⟨r3, w8, w9, ou, e91, e92, t9, hou, dou⟩ := c_draw T (n := n) (by omega) doors_ab9 words_xz9 (s := 7) (k := 0) (by decide) (by decide) t7
  have hw9 := allL_t9 t9
  have b101 := c_putZ T.toHasPz (x := "x") (w := w9) (n := n) wx hw9 (hou.putOk hp (by decide) (by decide)) (by have := hou.wi; omega) (by have := hp.wi; omega) (by omega)
  have b102 := c_putZ T.toHasPz (x := "x") (w := w9) (n := n) wx hw9 (hou.putOk hq (by decide) (by decide)) (by have := hou.wi; omega) (by have := hq.wi; omega) (by omega)
  have s101 := hou.put (old := nmT "x") hp
  have s102 := hou.put (old := nmT "x") hq
  have a10 := c_alike T.toHasAl (n := n) hw9 (s101.fit (by decide)) (s102.fit (by decide)) (by have := s101.dep; omega) (by have := s102.dep; omega)
  rw [decide_eq_true (ctx_cong hp.ok hq.ok (got_nm "x") (Pl.ok_pp ou 0 hou.ok) n1.symm)] at a10
  -- marked
  have mk : Sm7 1 (.cons 1 (.mark 2) .nil) := ⟨by decide, by decide⟩
  have b11 := c_putZ T.toHasPz (x := "y") (w := w9) (n := n) wy hw9 (hp.putOk mk (by decide) (by decide)) (by have := hp.wi; omega) (by have := mk.wi; omega) (by omega)
  have s11 := hp.put (old := nmT "y") mk
  have b121 := c_markPutZ T.toHasMz (j := 2) (w := w9) (n := n) hw9 (s11.putOk hfi (by decide) (by decide)) (by have := s11.wi; omega) (by have := hfi.wi; omega) (by omega)
  rw [show (p.put (nmT "y") (.cons 1 (.mark 2) .nil)).put (mkT 2) fi = p.put (nmT "y") fi from Pl.mark_mid p 0 _ _ dp] at b121
  have b122 := c_putZ T.toHasPz (x := "y") (w := w9) (n := n) wy hw9 (hq.putOk hfi (by decide) (by decide)) (by have := hq.wi; omega) (by have := hfi.wi; omega) (by omega)
  have s121 := hp.put (old := nmT "y") hfi
  have s122 := hq.put (old := nmT "y") hfi
  have a12 := c_alike T.toHasAl (n := n) hw9 (s121.fit (by decide)) (s122.fit (by decide)) (by have := s121.dep; omega) (by have := s122.dep; omega)
  rw [decide_eq_true (put_cong hfi.ok (got_nm "y") pp qp n1.symm)] at a12
  -- strange
  have z13 := c_lsize9 T (p := p) (n := n) (w := w9) (by omega) fp.lim
  obtain ⟨st, w10, e13, t10, ok13, sz13, dr13⟩ := c_lplan T.toHasLP doors_ab9 words_xy9 p.size n (by have := hp.sz; omega) (by have := hp.sz; omega) 0 [] w9 (by have := hp.sz; omega) t9
  have hst : Sm7 7 st := ⟨ok13, by have := hp.sz; omega⟩
  have dst := hst.dep
  have fst := hst.fit (by decide)
  have hw10 := allL_t9 t10
  have c141 := c_lform T.toHasLf (w := w10) (n := n) fst (by omega)
  have c142 := c_lform T.toHasLf (w := w10) (n := n) fp (by omega)
  have dNs := Pl.N_dep st
  have g14 := gEq_pl (rm := (Den tbl n).room) (p := st.N) (q := p.N) (by omega)
  rw [dec_iff (show st.N = p.N ↔ p.N = st.N from ⟨fun h => h.symm, fun h => h.symm⟩)] at g14
  have a15 := c_alike T.toHasAl (n := n) hw10 fp fst (by omega) (by omega)
  obtain ⟨w11, e15, t11⟩ := c_kept T (n := n) (p := p) (q := st) (ds := signs "ab") (by omega) hp hst (.inr ⟨dp, dr13⟩) t10
  generalize hdue : decide (p.N = st.N) = due at *
  have enm : (Pl.cons 1 (.mark 2) .nil).d = .tup [.tup [.int 1, .tup [.str "mark", .int 2]]] := rfl
  rw [enm] at b11
  generalize p.put (nmT "x") fi = P81 at *
  generalize u.put (nmT "x") fi = P82 at *
  generalize ou.put (nmT "x") p = P101 at *
  generalize ou.put (nmT "x") q = P102 at *
  generalize p.put (nmT "y") (.cons 1 (.mark 2) .nil) = P11 at *
  generalize p.put (nmT "y") fi = P121 at *
  generalize q.put (nmT "y") fi = P122 at *
  simp only [Pl.d, Int.cast_ofNat_Int, List.map_cons, List.map_nil] at e1 e2 f3 e3 e4 a51 a52 a53 a61 e6 e71 e72 b81 b82 a8 e91 e92 b101 b102 a10 b11 b121 b122 a12 z13 e13 c141 c142 a15 e15
  refine ⟨w11, ?_⟩
  have s2 : hq2 (Den tbl n) [.dat S, .wref 0, .un, .un, .un, .un, .un, .un, .un, .un] w = .ok (.nx [.dat S, .wref 0, .dat (.tup p.ds), .un, .un, .un, .un, .un, .un, .un]) w2 := by
    simp [e1, e2]
  have s3 : hq3 (Den tbl n) [.dat S, .wref 0, .dat (.tup p.ds), .un, .un, .un, .un, .un, .un, .un] w2 = .ok (.nx [.dat S, .wref 0, .dat (.tup p.ds), .dat (.tup q.ds), .un, .un, .un, .un, .un, .un]) w3 := by
    simp [f3, e3]
  have s4 : hq4 (Den tbl n) [.dat S, .wref 0, .dat (.tup p.ds), .dat (.tup q.ds), .un, .un, .un, .un, .un, .un] w3 = .ok (.nx [.dat S, .wref 0, .dat (.tup p.ds), .dat (.tup q.ds), .dat (.tup u.ds), .un, .un, .un, .un, .un]) w4 := by
    simp [e4]
  have s5 : hq5 (Den tbl n) [.dat S, .wref 0, .dat (.tup p.ds), .dat (.tup q.ds), .dat (.tup u.ds), .un, .un, .un, .un, .un] w4 = .ok (.nx [.dat S, .wref 0, .dat (.tup p.ds), .dat (.tup q.ds), .dat (.tup u.ds), .un, .un, .un, .un, .un]) w4 := by
    simp [a51, a52, a53]
  have s6 : hq6 (Den tbl n) [.dat S, .wref 0, .dat (.tup p.ds), .dat (.tup q.ds), .dat (.tup u.ds), .un, .un, .un, .un, .un] w4 = .ok (.nx [.dat S, .wref 0, .dat (.tup p.ds), .dat (.tup q.ds), .dat (.tup u.ds), .un, .un, .un, .un, .un]) w5 := by
    simp [a61, e6]
  have s7 : hq7 (Den tbl n) [.dat S, .wref 0, .dat (.tup p.ds), .dat (.tup q.ds), .dat (.tup u.ds), .un, .un, .un, .un, .un] w5 = .ok (.nx [.dat S, .wref 0, .dat (.tup p.ds), .dat (.tup q.ds), .dat (.tup u.ds), .dat (.tup fi.ds), .un, .un, .un, .un]) w7 := by
    simp [e71, e72]
  have s8 : hq8 (Den tbl n) [.dat S, .wref 0, .dat (.tup p.ds), .dat (.tup q.ds), .dat (.tup u.ds), .dat (.tup fi.ds), .un, .un, .un, .un] w7 = .ok (.nx [.dat S, .wref 0, .dat (.tup p.ds), .dat (.tup q.ds), .dat (.tup u.ds), .dat (.tup fi.ds), .un, .un, .un, .un]) w7 := by
    simp [b81, b82, a8]
  have s9 : hq9 (Den tbl n) [.dat S, .wref 0, .dat (.tup p.ds), .dat (.tup q.ds), .dat (.tup u.ds), .dat (.tup fi.ds), .un, .un, .un, .un] w7 = .ok (.nx [.dat S, .wref 0, .dat (.tup p.ds), .dat (.tup q.ds), .dat (.tup u.ds), .dat (.tup fi.ds), .dat (.tup ou.ds), .un, .un, .un]) w9 := by
    simp [e91, e92]
  have s10 : hq10 (Den tbl n) [.dat S, .wref 0, .dat (.tup p.ds), .dat (.tup q.ds), .dat (.tup u.ds), .dat (.tup fi.ds), .dat (.tup ou.ds), .un, .un, .un] w9 = .ok (.nx [.dat S, .wref 0, .dat (.tup p.ds), .dat (.tup q.ds), .dat (.tup u.ds), .dat (.tup fi.ds), .dat (.tup ou.ds), .un, .un, .un]) w9 := by
    simp [b101, b102, a10]
  have s11 : hq11 (Den tbl n) [.dat S, .wref 0, .dat (.tup p.ds), .dat (.tup q.ds), .dat (.tup u.ds), .dat (.tup fi.ds), .dat (.tup ou.ds), .un, .un, .un] w9 = .ok (.nx [.dat S, .wref 0, .dat (.tup p.ds), .dat (.tup q.ds), .dat (.tup u.ds), .dat (.tup fi.ds), .dat (.tup ou.ds), .dat (.tup P11.ds), .un, .un]) w9 := by
    simp [b11]
  have s12 : hq12 (Den tbl n) [.dat S, .wref 0, .dat (.tup p.ds), .dat (.tup q.ds), .dat (.tup u.ds), .dat (.tup fi.ds), .dat (.tup ou.ds), .dat (.tup P11.ds), .un, .un] w9 = .ok (.nx [.dat S, .wref 0, .dat (.tup p.ds), .dat (.tup q.ds), .dat (.tup u.ds), .dat (.tup fi.ds), .dat (.tup ou.ds), .dat (.tup P11.ds), .un, .un]) w9 := by
    simp [b121, b122, a12]
  have s13 : hq13 (Den tbl n) [.dat S, .wref 0, .dat (.tup p.ds), .dat (.tup q.ds), .dat (.tup u.ds), .dat (.tup fi.ds), .dat (.tup ou.ds), .dat (.tup P11.ds), .un, .un] w9 = .ok (.nx [.dat S, .wref 0, .dat (.tup p.ds), .dat (.tup q.ds), .dat (.tup u.ds), .dat (.tup fi.ds), .dat (.tup ou.ds), .dat (.tup P11.ds), .dat (.tup st.ds), .un]) w10 := by
    simp [z13, e13]
  have s14 : hq14 (Den tbl n) [.dat S, .wref 0, .dat (.tup p.ds), .dat (.tup q.ds), .dat (.tup u.ds), .dat (.tup fi.ds), .dat (.tup ou.ds), .dat (.tup P11.ds), .dat (.tup st.ds), .un] w10 = .ok (.nx [.dat S, .wref 0, .dat (.tup p.ds), .dat (.tup q.ds), .dat (.tup u.ds), .dat (.tup fi.ds), .dat (.tup ou.ds), .dat (.tup P11.ds), .dat (.tup st.ds), .dat (.bl due)]) w10 := by
    simp [c141, c142, g14]
  have s15 : hq15 (Den tbl n) [.dat S, .wref 0, .dat (.tup p.ds), .dat (.tup q.ds), .dat (.tup u.ds), .dat (.tup fi.ds), .dat (.tup ou.ds), .dat (.tup P11.ds), .dat (.tup st.ds), .dat (.bl due)] w10 = .ok (.rt (.dat (.bl true))) w11 := by
    simp [a15, e15]
  exact ((sq_nx s2).trans ((sq_nx s3).trans ((sq_nx s4).trans ((sq_nx s5).trans ((sq_nx s6).trans ((sq_nx s7).trans ((sq_nx s8).trans ((sq_nx s9).trans ((sq_nx s10).trans ((sq_nx s11).trans ((sq_nx s12).trans ((sq_nx s13).trans ((sq_nx s14).trans s15)))))))))))))
end
end Dl
namespace Dl
open PySem PySem.Spec PyProof.Rows L2 NdefX
namespace K09
def top (i : Nat) : Stmt := PySem.Challenge.pw_sealedplans_k09_whole_likeness_in_all_su.main.body.getD i (.Pass ⟨0, 0, 0, 0⟩)
abbrev FnP (K : PySem.W.Frag) (x : Str) (st : Stmt) (f : Addr) (fd : FuncData) : Prop := FunD K x x (defArgs st) (defBody st) (defScope st) [] [] f fd
def rowsD : List (Nat × DefB) := [(1, ⟨1, 1, b_is_integer⟩), (2, ⟨3, 3, b_is_within⟩), (4, ⟨1, 1, b_is_pair⟩), (27, ⟨1, 1, b_is_triple⟩), (24, ⟨1, 2, b_is_word⟩), (26, ⟨1, 1, b_is_door⟩), (28, ⟨2, 2, b_is_part⟩), (25, ⟨2, 3, b_is_plan_in⟩), (31, ⟨1, 1, b_check_plan⟩), (60, ⟨2, 2, b_check_two⟩), (35, ⟨1, 1, b_check_door⟩), (37, ⟨1, 1, b_check_word⟩), (102, ⟨1, 5, b_part_key⟩), (101, ⟨1, 3, b_plan_key⟩), (105, ⟨1, 4, b_sorted_items⟩), (32, ⟨1, 4, b_parts_within⟩), (52, ⟨1, 1, b_items_in⟩), (51, ⟨1, 3, b_nesting⟩), (53, ⟨1, 1, b_check_room⟩), (59, ⟨1, 1, b_roomy⟩), (34, ⟨3, 8, b_mapped⟩), (57, ⟨3, 4, b_raised⟩), (58, ⟨3, 3, b_replaced⟩), (61, ⟨3, 5, b_roomy_replaced⟩), (36, ⟨3, 3, b_bound_to⟩), (66, ⟨2, 2, b_beside⟩), (45, ⟨2, 2, b_letter⟩), (44, ⟨3, 3, b_wait⟩), (73, ⟨3, 3, b_put⟩), (62, ⟨1, 1, b_check_mark⟩), (65, ⟨3, 3, b_mark_put⟩), (107, ⟨2, 6, b_folded⟩), (106, ⟨1, 6, b_plain_of⟩), (115, ⟨2, 2, b_alike⟩), (22, ⟨1, 1, b__law_tape⟩), (11, ⟨2, 5, b__law_pick⟩), (40, ⟨5, 9, b__law_plan⟩), (39, ⟨5, 7, b__law_part⟩), (38, ⟨1, 1, b__law_part_size⟩), (41, ⟨1, 3, b__law_size⟩), (88, ⟨3, 6, b__law_raise⟩), (108, ⟨1, 5, b__law_key⟩), (111, ⟨1, 4, b__law_joined⟩), (112, ⟨1, 9, b__law_form⟩), (113, ⟨3, 3, b__law_copied⟩), (114, ⟨3, 10, b__law_spread⟩), (119, ⟨4, 6, b__law_kept⟩), (120, ⟨1, 10, b_law_120⟩), (103, ⟨1, 1, fun C => sRet (b_sorted_items'clo C)⟩), (55, ⟨4, 4, b_raised'clo⟩), (56, ⟨4, 4, fun C => sRet (b_replaced'clo C)⟩), (50, ⟨3, 3, fun C => sRet (b_bound_to'clo C)⟩), (109, ⟨1, 1, fun C => sRet (b__law_joined'clo C)⟩), (104, ⟨1, 1, bLow 103⟩), (110, ⟨1, 1, bLow 109⟩)]
def tbl (i : Nat) : Option DefB := rowsD.lookup i
def x_sorted_items : ND := ndLam (keyIn (defBody (top 26))) "sorted_items.<locals>.<lambda>" ["item"] []
def x_raised : ND := ⟨"lift", "raised.<locals>.lift", C8.fnArgs (stAt 0 (defBody (top 36))), .inl (C8.fnBody (stAt 0 (defBody (top 36)))), C8.fnScope (stAt 0 (defBody (top 36))), ["part", "depth"], ["least", "by"]⟩
def x_replaced : ND := ndLam (lamIn (defBody (top 37))) "replaced.<locals>.<lambda>" ["part", "depth"] ["old", "other"]
def x_bound_to : ND := ndLam (lamIn (defBody (top 39))) "bound_to.<locals>.<lambda>" ["part", "depth"] ["old"]
def x__law_joined : ND := ndLam (keyIn (defBody (top 59))) "_law_joined.<locals>.<lambda>" ["_law_item"] []
def ndT (i : Nat) : Option ND := if i = 103 then some x_sorted_items else if i = 55 then some x_raised else if i = 56 then some x_replaced else if i = 50 then some x_bound_to else if i = 109 then some x__law_joined else none
abbrev T0 (cts : Cts) : Tbs := TT ndT cts
structure Facts (K : PySem.W.Frag) (w : PySem.World) (mg : Str → Option Value) (cts : Cts) : Prop where
  f_is_integer : ∃ a fd, mg "is_integer" = some (.ref a) ∧ FnP K "is_integer" (top 10) a fd
  f_is_within : ∃ a fd, mg "is_within" = some (.ref a) ∧ FnP K "is_within" (top 11) a fd
  f_is_pair : ∃ a fd, mg "is_pair" = some (.ref a) ∧ FnP K "is_pair" (top 12) a fd
  f_is_triple : ∃ a fd, mg "is_triple" = some (.ref a) ∧ FnP K "is_triple" (top 13) a fd
  f_is_word : ∃ a fd, mg "is_word" = some (.ref a) ∧ FnP K "is_word" (top 14) a fd
  f_is_door : ∃ a fd, mg "is_door" = some (.ref a) ∧ FnP K "is_door" (top 15) a fd
  f_is_part : ∃ a fd, mg "is_part" = some (.ref a) ∧ FnP K "is_part" (top 16) a fd
  f_is_plan_in : ∃ a fd, mg "is_plan_in" = some (.ref a) ∧ FnP K "is_plan_in" (top 17) a fd
  f_check_plan : ∃ a fd, mg "check_plan" = some (.ref a) ∧ FnP K "check_plan" (top 18) a fd
  f_check_two : ∃ a fd, mg "check_two" = some (.ref a) ∧ FnP K "check_two" (top 19) a fd
  f_check_door : ∃ a fd, mg "check_door" = some (.ref a) ∧ FnP K "check_door" (top 20) a fd
  f_check_word : ∃ a fd, mg "check_word" = some (.ref a) ∧ FnP K "check_word" (top 21) a fd
  f_part_key : ∃ a fd, mg "part_key" = some (.ref a) ∧ FnP K "part_key" (top 24) a fd
  f_plan_key : ∃ a fd, mg "plan_key" = some (.ref a) ∧ FnP K "plan_key" (top 25) a fd
  f_sorted_items : ∃ a fd c Pt, mg "sorted_items" = some (.ref a) ∧ FnP K "sorted_items" (top 26) a fd ∧ fd.code = .ref c ∧ ((c, Pt, ("sorted_items.<locals>.<lambda>" : Str)) : Addr × Addr × Str) ∈ cts
  f_parts_within : ∃ a fd, mg "parts_within" = some (.ref a) ∧ FnP K "parts_within" (top 30) a fd
  f_items_in : ∃ a fd, mg "items_in" = some (.ref a) ∧ FnP K "items_in" (top 31) a fd
  f_nesting : ∃ a fd, mg "nesting" = some (.ref a) ∧ FnP K "nesting" (top 32) a fd
  f_check_room : ∃ a fd, mg "check_room" = some (.ref a) ∧ FnP K "check_room" (top 33) a fd
  f_roomy : ∃ a fd, mg "roomy" = some (.ref a) ∧ FnP K "roomy" (top 34) a fd
  f_mapped : ∃ a fd, mg "mapped" = some (.ref a) ∧ FnP K "mapped" (top 35) a fd
  f_raised : ∃ a fd c Pt, mg "raised" = some (.ref a) ∧ FnP K "raised" (top 36) a fd ∧ fd.code = .ref c ∧ ((c, Pt, ("raised.<locals>.lift" : Str)) : Addr × Addr × Str) ∈ cts
  f_replaced : ∃ a fd c Pt, mg "replaced" = some (.ref a) ∧ FnP K "replaced" (top 37) a fd ∧ fd.code = .ref c ∧ ((c, Pt, ("replaced.<locals>.<lambda>" : Str)) : Addr × Addr × Str) ∈ cts
  f_roomy_replaced : ∃ a fd, mg "roomy_replaced" = some (.ref a) ∧ FnP K "roomy_replaced" (top 38) a fd
  f_bound_to : ∃ a fd c Pt, mg "bound_to" = some (.ref a) ∧ FnP K "bound_to" (top 39) a fd ∧ fd.code = .ref c ∧ ((c, Pt, ("bound_to.<locals>.<lambda>" : Str)) : Addr × Addr × Str) ∈ cts
  f_beside : ∃ a fd, mg "beside" = some (.ref a) ∧ FnP K "beside" (top 40) a fd
  f_letter : ∃ a fd, mg "letter" = some (.ref a) ∧ FnP K "letter" (top 41) a fd
  f_wait : ∃ a fd, mg "wait" = some (.ref a) ∧ FnP K "wait" (top 42) a fd
  f_put : ∃ a fd, mg "put" = some (.ref a) ∧ FnP K "put" (top 43) a fd
  f_check_mark : ∃ a fd, mg "check_mark" = some (.ref a) ∧ FnP K "check_mark" (top 44) a fd
  f_mark_put : ∃ a fd, mg "mark_put" = some (.ref a) ∧ FnP K "mark_put" (top 45) a fd
  f_folded : ∃ a fd, mg "folded" = some (.ref a) ∧ FnP K "folded" (top 47) a fd
  f_plain_of : ∃ a fd, mg "plain_of" = some (.ref a) ∧ FnP K "plain_of" (top 48) a fd
  f_alike : ∃ a fd, mg "alike" = some (.ref a) ∧ FnP K "alike" (top 49) a fd
  f__law_tape : ∃ a fd, mg "_law_tape" = some (.ref a) ∧ FnP K "_law_tape" (top 51) a fd
  f__law_pick : ∃ a fd, mg "_law_pick" = some (.ref a) ∧ FnP K "_law_pick" (top 52) a fd
  f__law_plan : ∃ a fd, mg "_law_plan" = some (.ref a) ∧ FnP K "_law_plan" (top 53) a fd
  f__law_part : ∃ a fd, mg "_law_part" = some (.ref a) ∧ FnP K "_law_part" (top 54) a fd
  f__law_part_size : ∃ a fd, mg "_law_part_size" = some (.ref a) ∧ FnP K "_law_part_size" (top 55) a fd
  f__law_size : ∃ a fd, mg "_law_size" = some (.ref a) ∧ FnP K "_law_size" (top 56) a fd
  f__law_raise : ∃ a fd, mg "_law_raise" = some (.ref a) ∧ FnP K "_law_raise" (top 57) a fd
  f__law_key : ∃ a fd, mg "_law_key" = some (.ref a) ∧ FnP K "_law_key" (top 58) a fd
  f__law_joined : ∃ a fd c Pt, mg "_law_joined" = some (.ref a) ∧ FnP K "_law_joined" (top 59) a fd ∧ fd.code = .ref c ∧ ((c, Pt, ("_law_joined.<locals>.<lambda>" : Str)) : Addr × Addr × Str) ∈ cts
  f__law_form : ∃ a fd, mg "_law_form" = some (.ref a) ∧ FnP K "_law_form" (top 60) a fd
  f__law_copied : ∃ a fd, mg "_law_copied" = some (.ref a) ∧ FnP K "_law_copied" (top 61) a fd
  f__law_spread : ∃ a fd, mg "_law_spread" = some (.ref a) ∧ FnP K "_law_spread" (top 62) a fd
  f__law_kept : ∃ a fd, mg "_law_kept" = some (.ref a) ∧ FnP K "_law_kept" (top 63) a fd
  f_law : ∃ a fd, mg "law" = some (.ref a) ∧ FnP K "law" (top 64) a fd
  h_all : mg "all" = none
  h_bool : mg "bool" = none
  h_enumerate : mg "enumerate" = none
  h_int : mg "int" = none
  h_isinstance : mg "isinstance" = none
  h_len : mg "len" = none
  h_list : mg "list" = none
  h_max : mg "max" = none
  h_min : mg "min" = none
  h_range : mg "range" = none
  h_sorted : mg "sorted" = none
  h_str : mg "str" = none
  h_sum : mg "sum" = none
  h_tuple : mg "tuple" = none
  k_SMALL : ∃ t, mg "SMALL" = some (.str "abcdefghijklmnopqrstuvwxyz" t)
  k_MOST_WORD : ∃ t, mg "MOST_WORD" = some (.int 8 t)
  k_MOST_ITEMS : ∃ t, mg "MOST_ITEMS" = some (.int 5000 t)
  k_MOST_NESTED : ∃ t, mg "MOST_NESTED" = some (.int 120 t)
  d_RANKS : TabAt K w mg "RANKS" t_RANKS
structure Defs (P : Program) (w : PySem.World) (K : PySem.W.Frag) (mg : Str → Option Value) (base : Heap) (cts : Cts) (n : Nat) : Prop where
  c_is_integer : Dfn P w K mg base (T0 cts) (Den tbl n) n "is_integer" 1
  c_is_within : Dfn P w K mg base (T0 cts) (Den tbl n) n "is_within" 2
  c_is_pair : Dfn P w K mg base (T0 cts) (Den tbl n) n "is_pair" 4
  c_is_triple : Dfn P w K mg base (T0 cts) (Den tbl n) n "is_triple" 27
  c_is_word : Dfn P w K mg base (T0 cts) (Den tbl n) n "is_word" 24
  c_is_door : Dfn P w K mg base (T0 cts) (Den tbl n) n "is_door" 26
  c_is_part : Dfn P w K mg base (T0 cts) (Den tbl n) n "is_part" 28
  c_is_plan_in : Dfn P w K mg base (T0 cts) (Den tbl n) n "is_plan_in" 25
  c_check_plan : Dfn P w K mg base (T0 cts) (Den tbl n) n "check_plan" 31
  c_check_two : Dfn P w K mg base (T0 cts) (Den tbl n) n "check_two" 60
  c_check_door : Dfn P w K mg base (T0 cts) (Den tbl n) n "check_door" 35
  c_check_word : Dfn P w K mg base (T0 cts) (Den tbl n) n "check_word" 37
  c_part_key : Dfn P w K mg base (T0 cts) (Den tbl n) n "part_key" 102
  c_plan_key : Dfn P w K mg base (T0 cts) (Den tbl n) n "plan_key" 101
  c_sorted_items : Dfn P w K mg base (T0 cts) (Den tbl n) n "sorted_items" 105
  c_parts_within : Dfn P w K mg base (T0 cts) (Den tbl n) n "parts_within" 32
  c_items_in : Dfn P w K mg base (T0 cts) (Den tbl n) n "items_in" 52
  c_nesting : Dfn P w K mg base (T0 cts) (Den tbl n) n "nesting" 51
  c_check_room : Dfn P w K mg base (T0 cts) (Den tbl n) n "check_room" 53
  c_roomy : Dfn P w K mg base (T0 cts) (Den tbl n) n "roomy" 59
  c_mapped : Dfn P w K mg base (T0 cts) (Den tbl n) n "mapped" 34
  c_raised : Dfn P w K mg base (T0 cts) (Den tbl n) n "raised" 57
  c_replaced : Dfn P w K mg base (T0 cts) (Den tbl n) n "replaced" 58
  c_roomy_replaced : Dfn P w K mg base (T0 cts) (Den tbl n) n "roomy_replaced" 61
  c_bound_to : Dfn P w K mg base (T0 cts) (Den tbl n) n "bound_to" 36
  c_beside : Dfn P w K mg base (T0 cts) (Den tbl n) n "beside" 66
  c_letter : Dfn P w K mg base (T0 cts) (Den tbl n) n "letter" 45
  c_wait : Dfn P w K mg base (T0 cts) (Den tbl n) n "wait" 44
  c_put : Dfn P w K mg base (T0 cts) (Den tbl n) n "put" 73
  c_check_mark : Dfn P w K mg base (T0 cts) (Den tbl n) n "check_mark" 62
  c_mark_put : Dfn P w K mg base (T0 cts) (Den tbl n) n "mark_put" 65
  c_folded : Dfn P w K mg base (T0 cts) (Den tbl n) n "folded" 107
  c_plain_of : Dfn P w K mg base (T0 cts) (Den tbl n) n "plain_of" 106
  c_alike : Dfn P w K mg base (T0 cts) (Den tbl n) n "alike" 115
  c__law_tape : Dfn P w K mg base (T0 cts) (Den tbl n) n "_law_tape" 22
  c__law_pick : Dfn P w K mg base (T0 cts) (Den tbl n) n "_law_pick" 11
  c__law_plan : Dfn P w K mg base (T0 cts) (Den tbl n) n "_law_plan" 40
  c__law_part : Dfn P w K mg base (T0 cts) (Den tbl n) n "_law_part" 39
  c__law_part_size : Dfn P w K mg base (T0 cts) (Den tbl n) n "_law_part_size" 38
  c__law_size : Dfn P w K mg base (T0 cts) (Den tbl n) n "_law_size" 41
  c__law_raise : Dfn P w K mg base (T0 cts) (Den tbl n) n "_law_raise" 88
  c__law_key : Dfn P w K mg base (T0 cts) (Den tbl n) n "_law_key" 108
  c__law_joined : Dfn P w K mg base (T0 cts) (Den tbl n) n "_law_joined" 111
  c__law_form : Dfn P w K mg base (T0 cts) (Den tbl n) n "_law_form" 112
  c__law_copied : Dfn P w K mg base (T0 cts) (Den tbl n) n "_law_copied" 113
  c__law_spread : Dfn P w K mg base (T0 cts) (Den tbl n) n "_law_spread" 114
  c__law_kept : Dfn P w K mg base (T0 cts) (Den tbl n) n "_law_kept" 119
  c_law : Dfn P w K mg base (T0 cts) (Den tbl n) n "law" 120
  clos : Clos P w K mg base (T0 cts) (Den tbl n) n
  lw_sorted_items : LowOk P w K mg base (T0 cts) (Den tbl n) n 104 x_sorted_items
  lw__law_joined : LowOk P w K mg base (T0 cts) (Den tbl n) n 110 x__law_joined
section
variable {P : Program} {w : PySem.World} {K : PySem.W.Frag} {mg : Str → Option Value} {base : Heap} {n : Nat} {cts : Cts}
theorem sc_x_sorted_items : NScope ["item"] x_sorted_items.ps x_sorted_items.fr x_sorted_items.scope := nscope_by (by decide +kernel)
theorem ck_sorted_items {caps : List D} (E : Facts K w mg cts) (D : Defs P w K mg base cts n) (hc : caps.length = x_sorted_items.fr.length) : COk P w K mg base (n + 1) x_sorted_items (spC ⟨K, mg, (T0 cts)⟩ ((Den tbl (n + 1)).call 103) caps) := by
  refine clo_lam (N := ["item"]) (nd := x_sorted_items) (ed := b_sorted_items'clo) rfl sc_x_sorted_items (fun cl c' pm ctv us hl => match us, hl with | [_], _ => rfl) rfl hc fun f cl c' A outer s H E0 hr => ?_
  have nd : (["item"] : List Str).Nodup := sc_x_sorted_items.nd
  have hu : (A.deeper (envF ((x_sorted_items).nf [] cl c') f s.heap.objs.size)).units + (Den tbl n).room < cLine := by rw [den_room]; have := hr.un; omega
  unfold b_sorted_items'clo
  exact (je_call D.c_part_key.cal hr takes0 rfl (ja_cons (je_ix (je_name (pv 0)) je_int) ja_nil))
theorem sc_x_raised : NScope ["part", "depth", "least", "by"] x_raised.ps x_raised.fr x_raised.scope := nscope_by (by decide +kernel)
theorem ck_raised {caps : List D} (E : Facts K w mg cts) (D : Defs P w K mg base cts n) (hc : caps.length = x_raised.fr.length) : COk P w K mg base (n + 1) x_raised (spC ⟨K, mg, (T0 cts)⟩ ((Den tbl (n + 1)).call 55) caps) := by
  refine clo_def (N := ["part", "depth", "least", "by"]) (nd := x_raised) (b := (C8.fnBody (stAt 0 (defBody (top 36))))) (bd := b_raised'clo) rfl sc_x_raised (fun cl c' doc pm ctv us hl => match us, hl with | [_, _], _ => rfl) rfl hc fun f cl c' A outer s H E0 hr => ?_
  have nd : (["part", "depth", "least", "by"] : List Str).Nodup := sc_x_raised.nd
  have hu : (A.deeper (envF ((x_raised).nf (C8.fnBody (stAt 0 (defBody (top 36)))) cl c') f s.heap.objs.size)).units + (Den tbl n).room < cLine := by rw [den_room]; have := hr.un; omega
  unfold b_raised'clo
  refine jss_cons ?_ ?_
  · refine js_if (jt_bool (jw_and (jt_cmp (os_eq hu) (je_ix (je_name (pv 0)) je_int) je_str) (jw_and1 (jt_cmp (os_ge hu) (je_ix (je_name (pv 0)) je_int) (je_bin os_add (je_name (pv 1)) (je_name (pv 2))))))) ?_ ?_
    · refine jss_one ?_
      exact (js_ret (je_tup (ja_cons (je_tup (ja_cons je_int (ja_cons (je_tup (ja_cons je_str (ja_cons (je_bin os_add (je_ix (je_name (pv 0)) je_int) (je_name (pv 3))) ja_nil))) ja_nil))) ja_nil)))
    exact jss_nil
  refine jss_one ?_
  exact (js_ret (je_tup (ja_cons (je_tup (ja_cons je_int (ja_cons (je_name (pv 0)) ja_nil))) ja_nil)))
theorem sc_x_replaced : NScope ["part", "depth", "old", "other"] x_replaced.ps x_replaced.fr x_replaced.scope := nscope_by (by decide +kernel)
theorem ck_replaced {caps : List D} (E : Facts K w mg cts) (D : Defs P w K mg base cts n) (hc : caps.length = x_replaced.fr.length) : COk P w K mg base (n + 1) x_replaced (spC ⟨K, mg, (T0 cts)⟩ ((Den tbl (n + 1)).call 56) caps) := by
  refine clo_lam (N := ["part", "depth", "old", "other"]) (nd := x_replaced) (ed := b_replaced'clo) rfl sc_x_replaced (fun cl c' pm ctv us hl => match us, hl with | [_, _], _ => rfl) rfl hc fun f cl c' A outer s H E0 hr => ?_
  have nd : (["part", "depth", "old", "other"] : List Str).Nodup := sc_x_replaced.nd
  have hu : (A.deeper (envF ((x_replaced).nf [] cl c') f s.heap.objs.size)).units + (Den tbl n).room < cLine := by rw [den_room]; have := hr.un; omega
  unfold b_replaced'clo
  exact (je_if (jt_cmp (os_eq hu) (je_name (pv 0)) (je_name (pv 2))) (je_call D.c_raised.cal hr takes0 rfl (ja_cons (je_name (pv 3)) (ja_cons (je_name (pv 1)) (ja_cons je_int ja_nil)))) (je_tup (ja_cons (je_tup (ja_cons je_int (ja_cons (je_name (pv 0)) ja_nil))) ja_nil)))
theorem sc_x_bound_to : NScope ["part", "depth", "old"] x_bound_to.ps x_bound_to.fr x_bound_to.scope := nscope_by (by decide +kernel)
theorem ck_bound_to {caps : List D} (E : Facts K w mg cts) (D : Defs P w K mg base cts n) (hc : caps.length = x_bound_to.fr.length) : COk P w K mg base (n + 1) x_bound_to (spC ⟨K, mg, (T0 cts)⟩ ((Den tbl (n + 1)).call 50) caps) := by
  refine clo_lam (N := ["part", "depth", "old"]) (nd := x_bound_to) (ed := b_bound_to'clo) rfl sc_x_bound_to (fun cl c' pm ctv us hl => match us, hl with | [_, _], _ => rfl) rfl hc fun f cl c' A outer s H E0 hr => ?_
  have nd : (["part", "depth", "old"] : List Str).Nodup := sc_x_bound_to.nd
  have hu : (A.deeper (envF ((x_bound_to).nf [] cl c') f s.heap.objs.size)).units + (Den tbl n).room < cLine := by rw [den_room]; have := hr.un; omega
  unfold b_bound_to'clo
  exact (je_tup (ja_cons (je_tup (ja_cons je_int (ja_cons (je_if (jt_cmp (os_eq hu) (je_name (pv 0)) (je_name (pv 2))) (je_tup (ja_cons je_str (ja_cons (je_name (pv 1)) ja_nil))) (je_name (pv 0))) ja_nil))) ja_nil))
theorem sc_x__law_joined : NScope ["_law_item"] x__law_joined.ps x__law_joined.fr x__law_joined.scope := nscope_by (by decide +kernel)
theorem ck__law_joined {caps : List D} (E : Facts K w mg cts) (D : Defs P w K mg base cts n) (hc : caps.length = x__law_joined.fr.length) : COk P w K mg base (n + 1) x__law_joined (spC ⟨K, mg, (T0 cts)⟩ ((Den tbl (n + 1)).call 109) caps) := by
  refine clo_lam (N := ["_law_item"]) (nd := x__law_joined) (ed := b__law_joined'clo) rfl sc_x__law_joined (fun cl c' pm ctv us hl => match us, hl with | [_], _ => rfl) rfl hc fun f cl c' A outer s H E0 hr => ?_
  have nd : (["_law_item"] : List Str).Nodup := sc_x__law_joined.nd
  have hu : (A.deeper (envF ((x__law_joined).nf [] cl c') f s.heap.objs.size)).units + (Den tbl n).room < cLine := by rw [den_room]; have := hr.un; omega
  unfold b__law_joined'clo
  exact (je_call D.c__law_key.cal hr takes0 rfl (ja_cons (je_ix (je_name (pv 0)) je_int) ja_nil))
theorem cls_succ (E : Facts K w mg cts) (D : Defs P w K mg base cts n) : Clos P w K mg base (T0 cts) (Den tbl (n + 1)) (n + 1) := by
  intro i nd caps hi hc
  have hi : ndT i = some nd := hi
  unfold ndT at hi
  split at hi
  · rename_i ei; cases hi; subst ei; exact ck_sorted_items E D hc
  split at hi
  · rename_i ei; cases hi; subst ei; exact ck_raised E D hc
  split at hi
  · rename_i ei; cases hi; subst ei; exact ck_replaced E D hc
  split at hi
  · rename_i ei; cases hi; subst ei; exact ck_bound_to E D hc
  split at hi
  · rename_i ei; cases hi; subst ei; exact ck__law_joined E D hc
  · cases hi
theorem sc_is_integer : FnScope ["thing"] ["thing"] (defScope (top 10)) := ⟨rfl, rfl, rfl, by decide +kernel, rfl, by decide +kernel, by decide +kernel⟩
theorem fo_is_integer (E : Facts K w mg cts) (D : Defs P w K mg base cts n) {f : Addr} {fd : FuncData} (F : FnP K "is_integer" (top 10) f fd) : FnOk P w K mg base (L2.CX P w) (n + 1) f fd ["thing"] (spD ⟨K, mg, (T0 cts)⟩ ((Den tbl (n + 1)).call 1)) := by
  refine def_ok F sc_is_integer (bd := b_is_integer) rfl fun cdv A outer s H E0 hr => ?_
  have nd := (sc_is_integer).nd
  have hu : (A.deeper (envOfC "is_integer" (defScope (top 10)) s.heap.objs.size f cdv)).units + (Den tbl n).room < cLine := by rw [den_room]; have := hr.un; omega
  have tk : Takes (cxOf (L2.CX P w) P w K mg base ["thing"] "is_integer" (defScope (top 10)) f cdv A outer s H E0) (fun cls d _ H => E0 cls d H) := takes_of rfl rfl rfl rfl
  unfold b_is_integer
  refine jss_one ?_
  exact (js_ret (je_and (je_isi rfl E.h_isinstance rfl E.h_int (by decide +kernel) (je_name (pv 0))) (je_one (je_not (je_isi rfl E.h_isinstance rfl E.h_bool (by decide +kernel) (je_name (pv 0)))))))
theorem ok_is_integer (E : Facts K w mg cts) (B : Makes base mg cts) (D : Defs P w K mg base cts n) : Dfn P w K mg base (T0 cts) (Den tbl (n + 1)) (n + 1) "is_integer" 1 := by
  obtain ⟨f, fd, hf, F⟩ := E.f_is_integer
  exact ⟨f, fd, ["thing"], hf, F.kp, F.bindsN fun _ _ _ _ _ _ us hl => (match us, hl with | [_], _ => rfl), fo_is_integer E D F⟩
theorem sc_is_within : FnScope ["thing", "least", "most"] ["thing", "least", "most"] (defScope (top 11)) := ⟨rfl, rfl, rfl, by decide +kernel, rfl, by decide +kernel, by decide +kernel⟩
theorem fo_is_within (E : Facts K w mg cts) (D : Defs P w K mg base cts n) {f : Addr} {fd : FuncData} (F : FnP K "is_within" (top 11) f fd) : FnOk P w K mg base (L2.CX P w) (n + 1) f fd ["thing", "least", "most"] (spD ⟨K, mg, (T0 cts)⟩ ((Den tbl (n + 1)).call 2)) := by
  refine def_ok F sc_is_within (bd := b_is_within) rfl fun cdv A outer s H E0 hr => ?_
  have nd := (sc_is_within).nd
  have hu : (A.deeper (envOfC "is_within" (defScope (top 11)) s.heap.objs.size f cdv)).units + (Den tbl n).room < cLine := by rw [den_room]; have := hr.un; omega
  have tk : Takes (cxOf (L2.CX P w) P w K mg base ["thing", "least", "most"] "is_within" (defScope (top 11)) f cdv A outer s H E0) (fun cls d _ H => E0 cls d H) := takes_of rfl rfl rfl rfl
  unfold b_is_within
  refine jss_one ?_
  exact (js_ret (je_and (je_call D.c_is_integer.cal hr tk rfl (ja_cons (je_name (pv 0)) ja_nil)) (je_one (je_chain (os_le hu) (os_le hu) (je_name (pv 1)) (je_name (pv 0)) (je_name (pv 2))))))
theorem ok_is_within (E : Facts K w mg cts) (B : Makes base mg cts) (D : Defs P w K mg base cts n) : Dfn P w K mg base (T0 cts) (Den tbl (n + 1)) (n + 1) "is_within" 2 := by
  obtain ⟨f, fd, hf, F⟩ := E.f_is_within
  exact ⟨f, fd, ["thing", "least", "most"], hf, F.kp, F.bindsN fun _ _ _ _ _ _ us hl => (match us, hl with | [_, _, _], _ => rfl), fo_is_within E D F⟩
theorem sc_is_pair : FnScope ["thing"] ["thing"] (defScope (top 12)) := ⟨rfl, rfl, rfl, by decide +kernel, rfl, by decide +kernel, by decide +kernel⟩
theorem fo_is_pair (E : Facts K w mg cts) (D : Defs P w K mg base cts n) {f : Addr} {fd : FuncData} (F : FnP K "is_pair" (top 12) f fd) : FnOk P w K mg base (L2.CX P w) (n + 1) f fd ["thing"] (spD ⟨K, mg, (T0 cts)⟩ ((Den tbl (n + 1)).call 4)) := by
  refine def_ok F sc_is_pair (bd := b_is_pair) rfl fun cdv A outer s H E0 hr => ?_
  have nd := (sc_is_pair).nd
  have hu : (A.deeper (envOfC "is_pair" (defScope (top 12)) s.heap.objs.size f cdv)).units + (Den tbl n).room < cLine := by rw [den_room]; have := hr.un; omega
  have tk : Takes (cxOf (L2.CX P w) P w K mg base ["thing"] "is_pair" (defScope (top 12)) f cdv A outer s H E0) (fun cls d _ H => E0 cls d H) := takes_of rfl rfl rfl rfl
  unfold b_is_pair
  refine jss_one ?_
  exact (js_ret (je_and (je_isi rfl E.h_isinstance rfl E.h_tuple (by decide +kernel) (je_name (pv 0))) (je_one (je_cmp (os_eq hu) (je_blt cs_len rfl E.h_len boot_len (jr_cons (je_name (pv 0)) jr_nil)) je_int))))
theorem ok_is_pair (E : Facts K w mg cts) (B : Makes base mg cts) (D : Defs P w K mg base cts n) : Dfn P w K mg base (T0 cts) (Den tbl (n + 1)) (n + 1) "is_pair" 4 := by
  obtain ⟨f, fd, hf, F⟩ := E.f_is_pair
  exact ⟨f, fd, ["thing"], hf, F.kp, F.bindsN fun _ _ _ _ _ _ us hl => (match us, hl with | [_], _ => rfl), fo_is_pair E D F⟩
theorem sc_is_triple : FnScope ["thing"] ["thing"] (defScope (top 13)) := ⟨rfl, rfl, rfl, by decide +kernel, rfl, by decide +kernel, by decide +kernel⟩
theorem fo_is_triple (E : Facts K w mg cts) (D : Defs P w K mg base cts n) {f : Addr} {fd : FuncData} (F : FnP K "is_triple" (top 13) f fd) : FnOk P w K mg base (L2.CX P w) (n + 1) f fd ["thing"] (spD ⟨K, mg, (T0 cts)⟩ ((Den tbl (n + 1)).call 27)) := by
  refine def_ok F sc_is_triple (bd := b_is_triple) rfl fun cdv A outer s H E0 hr => ?_
  have nd := (sc_is_triple).nd
  have hu : (A.deeper (envOfC "is_triple" (defScope (top 13)) s.heap.objs.size f cdv)).units + (Den tbl n).room < cLine := by rw [den_room]; have := hr.un; omega
  have tk : Takes (cxOf (L2.CX P w) P w K mg base ["thing"] "is_triple" (defScope (top 13)) f cdv A outer s H E0) (fun cls d _ H => E0 cls d H) := takes_of rfl rfl rfl rfl
  unfold b_is_triple
  refine jss_one ?_
  exact (js_ret (je_and (je_isi rfl E.h_isinstance rfl E.h_tuple (by decide +kernel) (je_name (pv 0))) (je_one (je_cmp (os_eq hu) (je_blt cs_len rfl E.h_len boot_len (jr_cons (je_name (pv 0)) jr_nil)) je_int))))
theorem ok_is_triple (E : Facts K w mg cts) (B : Makes base mg cts) (D : Defs P w K mg base cts n) : Dfn P w K mg base (T0 cts) (Den tbl (n + 1)) (n + 1) "is_triple" 27 := by
  obtain ⟨f, fd, hf, F⟩ := E.f_is_triple
  exact ⟨f, fd, ["thing"], hf, F.kp, F.bindsN fun _ _ _ _ _ _ us hl => (match us, hl with | [_], _ => rfl), fo_is_triple E D F⟩
theorem sc_is_word : FnScope ["thing", "sign"] ["thing"] (defScope (top 14)) := ⟨rfl, rfl, rfl, by decide +kernel, rfl, by decide +kernel, by decide +kernel⟩
theorem fo_is_word (E : Facts K w mg cts) (D : Defs P w K mg base cts n) {f : Addr} {fd : FuncData} (F : FnP K "is_word" (top 14) f fd) : FnOk P w K mg base (L2.CX P w) (n + 1) f fd ["thing"] (spD ⟨K, mg, (T0 cts)⟩ ((Den tbl (n + 1)).call 24)) := by
  refine def_ok F sc_is_word (bd := b_is_word) rfl fun cdv A outer s H E0 hr => ?_
  have nd := (sc_is_word).nd
  have hu : (A.deeper (envOfC "is_word" (defScope (top 14)) s.heap.objs.size f cdv)).units + (Den tbl n).room < cLine := by rw [den_room]; have := hr.un; omega
  have tk : Takes (cxOf (L2.CX P w) P w K mg base ["thing", "sign"] "is_word" (defScope (top 14)) f cdv A outer s H E0) (fun cls d _ H => E0 cls d H) := takes_of rfl rfl rfl rfl
  unfold b_is_word
  refine jss_cons ?_ ?_
  · refine js_if (jt_bool (jw_or (jt_not (jt_truth (je_isi rfl E.h_isinstance rfl E.h_str (by decide +kernel) (je_name (pv 0))))) (jw_or1 (jt_not (jt_chain (os_le hu) (os_le hu) je_int (je_blt cs_len rfl E.h_len boot_len (jr_cons (je_name (pv 0)) jr_nil)) (je_const (pe_globI rfl E.k_MOST_WORD) (fun _ => .int _))))))) ?_ ?_
    · refine jss_one ?_
      exact (js_ret je_bl)
    exact jss_nil
  refine jss_one ?_
  exact (js_ret (je_blt (cs_all rfl) rfl E.h_all (by decide +kernel) (jr_cons (je_comp rfl nd (ji_txt (je_name (pv 0))) (blkOk_by (N := ["thing", "sign"]) (sc := defScope (top 14)) (own := [("sign", 1)]) (by decide +kernel)) (us := [1]) rfl (by decide) (fun _ _ _ _ _ => (jg_name (pg_name (i := 1) nd rfl (by first | exact .inl rfl | exact .inr rfl)))) (fun _ _ _ _ _ => jts_nil) (fun _ _ _ _ _ => (je_cmp (os_in hu) (je_name (pv 1)) (je_const (pe_globS rfl E.k_SMALL) (fun _ => .str _ ⟨by decide +kernel, by decide +kernel⟩))))) jr_nil)))
theorem ok_is_word (E : Facts K w mg cts) (B : Makes base mg cts) (D : Defs P w K mg base cts n) : Dfn P w K mg base (T0 cts) (Den tbl (n + 1)) (n + 1) "is_word" 24 := by
  obtain ⟨f, fd, hf, F⟩ := E.f_is_word
  exact ⟨f, fd, ["thing"], hf, F.kp, F.bindsN fun _ _ _ _ _ _ us hl => (match us, hl with | [_], _ => rfl), fo_is_word E D F⟩
theorem sc_is_door : FnScope ["thing"] ["thing"] (defScope (top 15)) := ⟨rfl, rfl, rfl, by decide +kernel, rfl, by decide +kernel, by decide +kernel⟩
theorem fo_is_door (E : Facts K w mg cts) (D : Defs P w K mg base cts n) {f : Addr} {fd : FuncData} (F : FnP K "is_door" (top 15) f fd) : FnOk P w K mg base (L2.CX P w) (n + 1) f fd ["thing"] (spD ⟨K, mg, (T0 cts)⟩ ((Den tbl (n + 1)).call 26)) := by
  refine def_ok F sc_is_door (bd := b_is_door) rfl fun cdv A outer s H E0 hr => ?_
  have nd := (sc_is_door).nd
  have hu : (A.deeper (envOfC "is_door" (defScope (top 15)) s.heap.objs.size f cdv)).units + (Den tbl n).room < cLine := by rw [den_room]; have := hr.un; omega
  have tk : Takes (cxOf (L2.CX P w) P w K mg base ["thing"] "is_door" (defScope (top 15)) f cdv A outer s H E0) (fun cls d _ H => E0 cls d H) := takes_of rfl rfl rfl rfl
  unfold b_is_door
  refine jss_one ?_
  exact (js_ret (je_and (je_call D.c_is_word.cal hr tk rfl (ja_cons (je_name (pv 0)) ja_nil)) (je_one (je_cmp (os_eq hu) (je_blt cs_len rfl E.h_len boot_len (jr_cons (je_name (pv 0)) jr_nil)) je_int))))
theorem ok_is_door (E : Facts K w mg cts) (B : Makes base mg cts) (D : Defs P w K mg base cts n) : Dfn P w K mg base (T0 cts) (Den tbl (n + 1)) (n + 1) "is_door" 26 := by
  obtain ⟨f, fd, hf, F⟩ := E.f_is_door
  exact ⟨f, fd, ["thing"], hf, F.kp, F.bindsN fun _ _ _ _ _ _ us hl => (match us, hl with | [_], _ => rfl), fo_is_door E D F⟩
theorem sc_is_part : FnScope ["thing", "depth"] ["thing", "depth"] (defScope (top 16)) := ⟨rfl, rfl, rfl, by decide +kernel, rfl, by decide +kernel, by decide +kernel⟩
theorem fo_is_part (E : Facts K w mg cts) (D : Defs P w K mg base cts n) {f : Addr} {fd : FuncData} (F : FnP K "is_part" (top 16) f fd) : FnOk P w K mg base (L2.CX P w) (n + 1) f fd ["thing", "depth"] (spD ⟨K, mg, (T0 cts)⟩ ((Den tbl (n + 1)).call 28)) := by
  refine def_ok F sc_is_part (bd := b_is_part) rfl fun cdv A outer s H E0 hr => ?_
  have nd := (sc_is_part).nd
  have hu : (A.deeper (envOfC "is_part" (defScope (top 16)) s.heap.objs.size f cdv)).units + (Den tbl n).room < cLine := by rw [den_room]; have := hr.un; omega
  have tk : Takes (cxOf (L2.CX P w) P w K mg base ["thing", "depth"] "is_part" (defScope (top 16)) f cdv A outer s H E0) (fun cls d _ H => E0 cls d H) := takes_of rfl rfl rfl rfl
  unfold b_is_part
  refine jss_cons ?_ ?_
  · refine js_if (jt_truth (je_call D.c_is_pair.cal hr tk rfl (ja_cons (je_name (pv 0)) ja_nil))) ?_ ?_
    · refine jss_cons ?_ ?_
      · refine js_if (jt_cmp (os_eq hu) (je_ix (je_name (pv 0)) je_int) je_str) ?_ ?_
        · refine jss_one ?_
          exact (js_ret (je_call D.c_is_word.cal hr tk rfl (ja_cons (je_ix (je_name (pv 0)) je_int) ja_nil)))
        exact jss_nil
      refine jss_cons ?_ ?_
      · refine js_if (jt_cmp (os_eq hu) (je_ix (je_name (pv 0)) je_int) je_str) ?_ ?_
        · refine jss_one ?_
          exact (js_ret (je_and (je_call D.c_is_integer.cal hr tk rfl (ja_cons (je_ix (je_name (pv 0)) je_int) ja_nil)) (je_one (je_cmp (os_ge hu) (je_ix (je_name (pv 0)) je_int) je_int))))
        exact jss_nil
      refine jss_one ?_
      exact (js_ret (je_and (je_cmp (os_eq hu) (je_ix (je_name (pv 0)) je_int) je_str) (je_one (je_call D.c_is_within.cal hr tk rfl (ja_cons (je_ix (je_name (pv 0)) je_int) (ja_cons je_int (ja_cons (je_bin os_sub (je_name (pv 1)) je_int) ja_nil)))))))
    exact jss_nil
  refine jss_cons ?_ ?_
  · refine js_if (jt_bool (jw_or (jt_not (jt_truth (je_call D.c_is_triple.cal hr tk rfl (ja_cons (je_name (pv 0)) ja_nil)))) (jw_or (jt_cmp (os_notin hu) (je_ix (je_name (pv 0)) je_int) (je_tup (ja_cons je_str (ja_cons je_str ja_nil)))) (jw_or1 (jt_not (jt_truth (je_call D.c_is_door.cal hr tk rfl (ja_cons (je_ix (je_name (pv 0)) je_int) ja_nil)))))))) ?_ ?_
    · refine jss_one ?_
      exact (js_ret je_bl)
    exact jss_nil
  refine jss_one ?_
  exact (js_ret (je_call D.c_is_plan_in.cal hr tk rfl (ja_cons (je_ix (je_name (pv 0)) je_int) (ja_cons (je_if (jt_cmp (os_eq hu) (je_ix (je_name (pv 0)) je_int) je_str) (je_bin os_add (je_name (pv 1)) je_int) (je_name (pv 1))) ja_nil))))
theorem ok_is_part (E : Facts K w mg cts) (B : Makes base mg cts) (D : Defs P w K mg base cts n) : Dfn P w K mg base (T0 cts) (Den tbl (n + 1)) (n + 1) "is_part" 28 := by
  obtain ⟨f, fd, hf, F⟩ := E.f_is_part
  exact ⟨f, fd, ["thing", "depth"], hf, F.kp, F.bindsN fun _ _ _ _ _ _ us hl => (match us, hl with | [_, _], _ => rfl), fo_is_part E D F⟩
theorem sc_is_plan_in : FnScope ["thing", "depth", "item"] ["thing", "depth"] (defScope (top 17)) := ⟨rfl, rfl, rfl, by decide +kernel, rfl, by decide +kernel, by decide +kernel⟩
theorem fo_is_plan_in (E : Facts K w mg cts) (D : Defs P w K mg base cts n) {f : Addr} {fd : FuncData} (F : FnP K "is_plan_in" (top 17) f fd) : FnOk P w K mg base (L2.CX P w) (n + 1) f fd ["thing", "depth"] (spD ⟨K, mg, (T0 cts)⟩ ((Den tbl (n + 1)).call 25)) := by
  refine def_ok F sc_is_plan_in (bd := b_is_plan_in) rfl fun cdv A outer s H E0 hr => ?_
  have nd := (sc_is_plan_in).nd
  have hu : (A.deeper (envOfC "is_plan_in" (defScope (top 17)) s.heap.objs.size f cdv)).units + (Den tbl n).room < cLine := by rw [den_room]; have := hr.un; omega
  have tk : Takes (cxOf (L2.CX P w) P w K mg base ["thing", "depth", "item"] "is_plan_in" (defScope (top 17)) f cdv A outer s H E0) (fun cls d _ H => E0 cls d H) := takes_of rfl rfl rfl rfl
  unfold b_is_plan_in
  refine jss_cons ?_ ?_
  · refine js_if (jt_not (jt_truth (je_isi rfl E.h_isinstance rfl E.h_tuple (by decide +kernel) (je_name (pv 0))))) ?_ ?_
    · refine jss_one ?_
      exact (js_ret je_bl)
    exact jss_nil
  refine jss_cons ?_ ?_
  · refine js_for (passes_of rfl) rfl (ji_seq (je_name (pv 0))) (jg_name (pg_name (i := 2) nd rfl (by first | exact .inl rfl | exact .inr rfl))) ?_
    refine jss_one ?_
    refine js_if (jt_bool (jw_or (jt_not (jt_truth (je_call D.c_is_pair.cal hr tk rfl (ja_cons (je_name (pv 2)) ja_nil)))) (jw_or (jt_not (jt_truth (je_call D.c_is_integer.cal hr tk rfl (ja_cons (je_ix (je_name (pv 2)) je_int) ja_nil)))) (jw_or (jt_cmp (os_lt hu) (je_ix (je_name (pv 2)) je_int) je_int) (jw_or1 (jt_not (jt_truth (je_call D.c_is_part.cal hr tk rfl (ja_cons (je_ix (je_name (pv 2)) je_int) (ja_cons (je_name (pv 1)) ja_nil)))))))))) ?_ ?_
    · refine jss_one ?_
      exact (js_ret je_bl)
    exact jss_nil
  refine jss_one ?_
  exact (js_ret je_bl)
theorem ok_is_plan_in (E : Facts K w mg cts) (B : Makes base mg cts) (D : Defs P w K mg base cts n) : Dfn P w K mg base (T0 cts) (Den tbl (n + 1)) (n + 1) "is_plan_in" 25 := by
  obtain ⟨f, fd, hf, F⟩ := E.f_is_plan_in
  exact ⟨f, fd, ["thing", "depth"], hf, F.kp, F.bindsN fun _ _ _ _ _ _ us hl => (match us, hl with | [_, _], _ => rfl), fo_is_plan_in E D F⟩
theorem sc_check_plan : FnScope ["thing"] ["thing"] (defScope (top 18)) := ⟨rfl, rfl, rfl, by decide +kernel, rfl, by decide +kernel, by decide +kernel⟩
theorem fo_check_plan (E : Facts K w mg cts) (D : Defs P w K mg base cts n) {f : Addr} {fd : FuncData} (F : FnP K "check_plan" (top 18) f fd) : FnOk P w K mg base (L2.CX P w) (n + 1) f fd ["thing"] (spD ⟨K, mg, (T0 cts)⟩ ((Den tbl (n + 1)).call 31)) := by
  refine def_ok F sc_check_plan (bd := b_check_plan) rfl fun cdv A outer s H E0 hr => ?_
  have nd := (sc_check_plan).nd
  have hu : (A.deeper (envOfC "check_plan" (defScope (top 18)) s.heap.objs.size f cdv)).units + (Den tbl n).room < cLine := by rw [den_room]; have := hr.un; omega
  have tk : Takes (cxOf (L2.CX P w) P w K mg base ["thing"] "check_plan" (defScope (top 18)) f cdv A outer s H E0) (fun cls d _ H => E0 cls d H) := takes_of rfl rfl rfl rfl
  unfold b_check_plan
  refine jss_one ?_
  refine js_if (jt_not (jt_truth (je_call D.c_is_plan_in.cal hr tk rfl (ja_cons (je_name (pv 0)) (ja_cons je_int ja_nil))))) ?_ ?_
  · refine jss_one ?_
    exact js_never
  exact jss_nil
theorem ok_check_plan (E : Facts K w mg cts) (B : Makes base mg cts) (D : Defs P w K mg base cts n) : Dfn P w K mg base (T0 cts) (Den tbl (n + 1)) (n + 1) "check_plan" 31 := by
  obtain ⟨f, fd, hf, F⟩ := E.f_check_plan
  exact ⟨f, fd, ["thing"], hf, F.kp, F.bindsN fun _ _ _ _ _ _ us hl => (match us, hl with | [_], _ => rfl), fo_check_plan E D F⟩
theorem sc_check_two : FnScope ["one", "other"] ["one", "other"] (defScope (top 19)) := ⟨rfl, rfl, rfl, by decide +kernel, rfl, by decide +kernel, by decide +kernel⟩
theorem fo_check_two (E : Facts K w mg cts) (D : Defs P w K mg base cts n) {f : Addr} {fd : FuncData} (F : FnP K "check_two" (top 19) f fd) : FnOk P w K mg base (L2.CX P w) (n + 1) f fd ["one", "other"] (spD ⟨K, mg, (T0 cts)⟩ ((Den tbl (n + 1)).call 60)) := by
  refine def_ok F sc_check_two (bd := b_check_two) rfl fun cdv A outer s H E0 hr => ?_
  have nd := (sc_check_two).nd
  have hu : (A.deeper (envOfC "check_two" (defScope (top 19)) s.heap.objs.size f cdv)).units + (Den tbl n).room < cLine := by rw [den_room]; have := hr.un; omega
  have tk : Takes (cxOf (L2.CX P w) P w K mg base ["one", "other"] "check_two" (defScope (top 19)) f cdv A outer s H E0) (fun cls d _ H => E0 cls d H) := takes_of rfl rfl rfl rfl
  unfold b_check_two
  refine jss_cons ?_ ?_
  · exact (js_expr (je_call D.c_check_plan.cal hr tk rfl (ja_cons (je_name (pv 0)) ja_nil)))
  refine jss_one ?_
  exact (js_expr (je_call D.c_check_plan.cal hr tk rfl (ja_cons (je_name (pv 1)) ja_nil)))
theorem ok_check_two (E : Facts K w mg cts) (B : Makes base mg cts) (D : Defs P w K mg base cts n) : Dfn P w K mg base (T0 cts) (Den tbl (n + 1)) (n + 1) "check_two" 60 := by
  obtain ⟨f, fd, hf, F⟩ := E.f_check_two
  exact ⟨f, fd, ["one", "other"], hf, F.kp, F.bindsN fun _ _ _ _ _ _ us hl => (match us, hl with | [_, _], _ => rfl), fo_check_two E D F⟩
theorem sc_check_door : FnScope ["thing"] ["thing"] (defScope (top 20)) := ⟨rfl, rfl, rfl, by decide +kernel, rfl, by decide +kernel, by decide +kernel⟩
theorem fo_check_door (E : Facts K w mg cts) (D : Defs P w K mg base cts n) {f : Addr} {fd : FuncData} (F : FnP K "check_door" (top 20) f fd) : FnOk P w K mg base (L2.CX P w) (n + 1) f fd ["thing"] (spD ⟨K, mg, (T0 cts)⟩ ((Den tbl (n + 1)).call 35)) := by
  refine def_ok F sc_check_door (bd := b_check_door) rfl fun cdv A outer s H E0 hr => ?_
  have nd := (sc_check_door).nd
  have hu : (A.deeper (envOfC "check_door" (defScope (top 20)) s.heap.objs.size f cdv)).units + (Den tbl n).room < cLine := by rw [den_room]; have := hr.un; omega
  have tk : Takes (cxOf (L2.CX P w) P w K mg base ["thing"] "check_door" (defScope (top 20)) f cdv A outer s H E0) (fun cls d _ H => E0 cls d H) := takes_of rfl rfl rfl rfl
  unfold b_check_door
  refine jss_one ?_
  refine js_if (jt_not (jt_truth (je_call D.c_is_door.cal hr tk rfl (ja_cons (je_name (pv 0)) ja_nil)))) ?_ ?_
  · refine jss_one ?_
    exact js_never
  exact jss_nil
theorem ok_check_door (E : Facts K w mg cts) (B : Makes base mg cts) (D : Defs P w K mg base cts n) : Dfn P w K mg base (T0 cts) (Den tbl (n + 1)) (n + 1) "check_door" 35 := by
  obtain ⟨f, fd, hf, F⟩ := E.f_check_door
  exact ⟨f, fd, ["thing"], hf, F.kp, F.bindsN fun _ _ _ _ _ _ us hl => (match us, hl with | [_], _ => rfl), fo_check_door E D F⟩
theorem sc_check_word : FnScope ["thing"] ["thing"] (defScope (top 21)) := ⟨rfl, rfl, rfl, by decide +kernel, rfl, by decide +kernel, by decide +kernel⟩
theorem fo_check_word (E : Facts K w mg cts) (D : Defs P w K mg base cts n) {f : Addr} {fd : FuncData} (F : FnP K "check_word" (top 21) f fd) : FnOk P w K mg base (L2.CX P w) (n + 1) f fd ["thing"] (spD ⟨K, mg, (T0 cts)⟩ ((Den tbl (n + 1)).call 37)) := by
  refine def_ok F sc_check_word (bd := b_check_word) rfl fun cdv A outer s H E0 hr => ?_
  have nd := (sc_check_word).nd
  have hu : (A.deeper (envOfC "check_word" (defScope (top 21)) s.heap.objs.size f cdv)).units + (Den tbl n).room < cLine := by rw [den_room]; have := hr.un; omega
  have tk : Takes (cxOf (L2.CX P w) P w K mg base ["thing"] "check_word" (defScope (top 21)) f cdv A outer s H E0) (fun cls d _ H => E0 cls d H) := takes_of rfl rfl rfl rfl
  unfold b_check_word
  refine jss_one ?_
  refine js_if (jt_not (jt_truth (je_call D.c_is_word.cal hr tk rfl (ja_cons (je_name (pv 0)) ja_nil)))) ?_ ?_
  · refine jss_one ?_
    exact js_never
  exact jss_nil
theorem ok_check_word (E : Facts K w mg cts) (B : Makes base mg cts) (D : Defs P w K mg base cts n) : Dfn P w K mg base (T0 cts) (Den tbl (n + 1)) (n + 1) "check_word" 37 := by
  obtain ⟨f, fd, hf, F⟩ := E.f_check_word
  exact ⟨f, fd, ["thing"], hf, F.kp, F.bindsN fun _ _ _ _ _ _ us hl => (match us, hl with | [_], _ => rfl), fo_check_word E D F⟩
theorem sc_part_key : FnScope ["part", "inner", "own", "key", "count"] ["part"] (defScope (top 24)) := ⟨rfl, rfl, rfl, by decide +kernel, rfl, by decide +kernel, by decide +kernel⟩
theorem fo_part_key (E : Facts K w mg cts) (D : Defs P w K mg base cts n) {f : Addr} {fd : FuncData} (F : FnP K "part_key" (top 24) f fd) : FnOk P w K mg base (L2.CX P w) (n + 1) f fd ["part"] (spD ⟨K, mg, (T0 cts)⟩ ((Den tbl (n + 1)).call 102)) := by
  refine def_ok F sc_part_key (bd := b_part_key) rfl fun cdv A outer s H E0 hr => ?_
  have nd := (sc_part_key).nd
  have hu : (A.deeper (envOfC "part_key" (defScope (top 24)) s.heap.objs.size f cdv)).units + (Den tbl n).room < cLine := by rw [den_room]; have := hr.un; omega
  have tk : Takes (cxOf (L2.CX P w) P w K mg base ["part", "inner", "own", "key", "count"] "part_key" (defScope (top 24)) f cdv A outer s H E0) (fun cls d _ H => E0 cls d H) := takes_of rfl rfl rfl rfl
  unfold b_part_key
  refine jss_cons ?_ ?_
  · exact (js_set (i := 1) nd rfl (by first | exact .inl rfl | exact .inr rfl) (je_if (jt_cmp (os_eq hu) (je_blt cs_len rfl E.h_len boot_len (jr_cons (je_name (pv 0)) jr_nil)) je_int) (je_call D.c_plan_key.cal hr tk rfl (ja_cons (je_ix (je_name (pv 0)) je_int) ja_nil)) (je_tup ja_nil)))
  refine jss_cons ?_ ?_
  · exact (js_set (i := 2) nd rfl (by first | exact .inl rfl | exact .inr rfl) (je_bin os_add je_int (je_blt (cs_sum rfl) rfl E.h_sum (by decide +kernel) (jr_cons (je_comp rfl nd (ji_seq (je_name (pv 1))) (blkOk_by (N := ["part", "inner", "own", "key", "count"]) (sc := defScope (top 24)) (own := [("key", 3), ("count", 4)]) (by decide +kernel)) (us := [3, 4]) rfl (by decide) (fun _ _ _ _ _ => (jg_tup rfl (jgs_cons (jg_name (pg_name (i := 3) nd rfl (by first | exact .inl rfl | exact .inr rfl))) (jgs_cons (jg_name (pg_name (i := 4) nd rfl (by first | exact .inl rfl | exact .inr rfl))) jgs_nil)))) (fun _ _ _ _ _ => jts_nil) (fun _ _ _ _ _ => (je_bin os_mul (je_name (pv 4)) (je_ix (je_name (pv 3)) je_int)))) jr_nil))))
  refine jss_one ?_
  exact (js_ret (je_tup (ja_cons (je_name (pv 2)) (ja_cons (je_subK E.d_RANKS rfl (je_ix (je_name (pv 0)) je_int)) (ja_cons (je_ix (je_name (pv 0)) je_int) (ja_cons (je_name (pv 1)) ja_nil))))))
theorem ok_part_key (E : Facts K w mg cts) (B : Makes base mg cts) (D : Defs P w K mg base cts n) : Dfn P w K mg base (T0 cts) (Den tbl (n + 1)) (n + 1) "part_key" 102 := by
  obtain ⟨f, fd, hf, F⟩ := E.f_part_key
  exact ⟨f, fd, ["part"], hf, F.kp, F.bindsN fun _ _ _ _ _ _ us hl => (match us, hl with | [_], _ => rfl), fo_part_key E D F⟩
theorem sc_plan_key : FnScope ["plan", "count", "part"] ["plan"] (defScope (top 25)) := ⟨rfl, rfl, rfl, by decide +kernel, rfl, by decide +kernel, by decide +kernel⟩
theorem fo_plan_key (E : Facts K w mg cts) (D : Defs P w K mg base cts n) {f : Addr} {fd : FuncData} (F : FnP K "plan_key" (top 25) f fd) : FnOk P w K mg base (L2.CX P w) (n + 1) f fd ["plan"] (spD ⟨K, mg, (T0 cts)⟩ ((Den tbl (n + 1)).call 101)) := by
  refine def_ok F sc_plan_key (bd := b_plan_key) rfl fun cdv A outer s H E0 hr => ?_
  have nd := (sc_plan_key).nd
  have hu : (A.deeper (envOfC "plan_key" (defScope (top 25)) s.heap.objs.size f cdv)).units + (Den tbl n).room < cLine := by rw [den_room]; have := hr.un; omega
  have tk : Takes (cxOf (L2.CX P w) P w K mg base ["plan", "count", "part"] "plan_key" (defScope (top 25)) f cdv A outer s H E0) (fun cls d _ H => E0 cls d H) := takes_of rfl rfl rfl rfl
  unfold b_plan_key
  refine jss_one ?_
  exact (js_ret (je_bty cs_tuple rfl E.h_tuple (by decide +kernel) (jr_cons (je_comp rfl nd (ji_seq (je_name (pv 0))) (blkOk_by (N := ["plan", "count", "part"]) (sc := defScope (top 25)) (own := [("count", 1), ("part", 2)]) (by decide +kernel)) (us := [1, 2]) rfl (by decide) (fun _ _ _ _ _ => (jg_tup rfl (jgs_cons (jg_name (pg_name (i := 1) nd rfl (by first | exact .inl rfl | exact .inr rfl))) (jgs_cons (jg_name (pg_name (i := 2) nd rfl (by first | exact .inl rfl | exact .inr rfl))) jgs_nil)))) (fun _ _ _ _ _ => jts_nil) (fun _ _ _ _ _ => (je_tup (ja_cons (je_call D.c_part_key.cal hr takes0 rfl (ja_cons (je_name (pv 2)) ja_nil)) (ja_cons (je_name (pv 1)) ja_nil))))) jr_nil)))
theorem ok_plan_key (E : Facts K w mg cts) (B : Makes base mg cts) (D : Defs P w K mg base cts n) : Dfn P w K mg base (T0 cts) (Den tbl (n + 1)) (n + 1) "plan_key" 101 := by
  obtain ⟨f, fd, hf, F⟩ := E.f_plan_key
  exact ⟨f, fd, ["plan"], hf, F.kp, F.bindsN fun _ _ _ _ _ _ us hl => (match us, hl with | [_], _ => rfl), fo_plan_key E D F⟩
theorem sc_sorted_items : FnScope ["items", "found", "count", "part"] ["items"] (defScope (top 26)) := ⟨rfl, rfl, rfl, by decide +kernel, rfl, by decide +kernel, by decide +kernel⟩
theorem fo_sorted_items (E : Facts K w mg cts) (D : Defs P w K mg base cts n) {f : Addr} {fd : FuncData} (F : FnP K "sorted_items" (top 26) f fd) {Pt : Addr} (hm : ∃ c, fd.code = .ref c ∧ LamX.TabB base mg c Pt) (hM : (Pt, x_sorted_items.qual) ∈ cts.map (·.2)) (hU : ∀ p ∈ cts.map (·.2), p.1 = Pt → p.2 = x_sorted_items.qual) : FnOk P w K mg base (L2.CX P w) (n + 1) f fd ["items"] (spD ⟨K, mg, (T0 cts)⟩ ((Den tbl (n + 1)).call 105)) := by
  refine def_okM F hm sc_sorted_items (bd := b_sorted_items) rfl fun c A outer s H E0 TB hr => ?_
  have nd := (sc_sorted_items).nd
  have hu : (A.deeper (envOfC "sorted_items" (defScope (top 26)) s.heap.objs.size f (.ref c))).units + (Den tbl n).room < cLine := by rw [den_room]; have := hr.un; omega
  have tk : Takes (cxOf (L2.CX P w) P w K mg base ["items", "found", "count", "part"] "sorted_items" (defScope (top 26)) f (.ref c) A outer s H E0) (fun cls d _ H => E0 cls d H) := takes_of rfl rfl rfl rfl
  unfold b_sorted_items
  refine jss_cons ?_ ?_
  · exact (js_set (i := 1) nd rfl (by first | exact .inl rfl | exact .inr rfl) (je_lst ja_nil))
  refine jss_cons ?_ ?_
  · refine js_for (passes_of rfl) rfl (ji_seq (je_sortkey (nd := x_sorted_items) D.lw_sorted_items hr hu rfl rfl E.h_sorted (je_bty cs_list rfl E.h_list (by decide +kernel) (jr_cons (je_name (pv 0)) jr_nil)) (tt_tabs cts) TB rfl rfl rfl rfl hM hU rfl (show ∀ y ∈ (x_sorted_items).scope.names, y.2 = .free → (defScope (top 26)).names.lookup y.1 = some .cell ∨ (defScope (top 26)).names.lookup y.1 = some .free by decide +kernel) (fun y hy => fr_of (fr := (x_sorted_items).fr) (ns := (x_sorted_items).scope.names) (by decide +kernel) hy))) (jg_tup rfl (jgs_cons (jg_name (pg_name (i := 2) nd rfl (by first | exact .inl rfl | exact .inr rfl))) (jgs_cons (jg_name (pg_name (i := 3) nd rfl (by first | exact .inl rfl | exact .inr rfl))) jgs_nil))) ?_
    refine jss_one ?_
    refine js_if (jt_bool (jw_and (jt_cmp (os_gt hu) (je_blt cs_len rfl E.h_len boot_len (jr_cons (je_name (pv 1)) jr_nil)) je_int) (jw_and1 (jt_cmp (os_eq hu) (je_ix (je_ix (je_name (pv 1)) (je_neg je_int)) je_int) (je_name (pv 3)))))) ?_ ?_
    · refine jss_one ?_
      exact (js_setIx (pv 1) (je_neg je_int) (je_tup (ja_cons (je_bin os_add (je_ix (je_ix (je_name (pv 1)) (je_neg je_int)) je_int) (je_name (pv 2))) (ja_cons (je_name (pv 3)) ja_nil))))
    refine jss_one ?_
    exact (js_append (pv 1) (je_tup (ja_cons (je_name (pv 2)) (ja_cons (je_name (pv 3)) ja_nil))))
  refine jss_one ?_
  exact (js_ret (je_bty cs_tuple rfl E.h_tuple (by decide +kernel) (jr_cons (je_name (pv 1)) jr_nil)))
theorem ok_sorted_items (E : Facts K w mg cts) (B : Makes base mg cts) (D : Defs P w K mg base cts n) : Dfn P w K mg base (T0 cts) (Den tbl (n + 1)) (n + 1) "sorted_items" 105 := by
  obtain ⟨f, fd, c, Pt, hf, F, hcd, hm⟩ := E.f_sorted_items
  exact ⟨f, fd, ["items"], hf, F.kp, F.bindsN fun _ _ _ _ _ _ us hl => (match us, hl with | [_], _ => rfl), fo_sorted_items E D F ⟨c, hcd, B.tb _ hm⟩ (B.mem hm) (B.uni hm)⟩
theorem sc_parts_within : FnScope ["plan", "found", "count", "part"] ["plan"] (defScope (top 30)) := ⟨rfl, rfl, rfl, by decide +kernel, rfl, by decide +kernel, by decide +kernel⟩
theorem fo_parts_within (E : Facts K w mg cts) (D : Defs P w K mg base cts n) {f : Addr} {fd : FuncData} (F : FnP K "parts_within" (top 30) f fd) : FnOk P w K mg base (L2.CX P w) (n + 1) f fd ["plan"] (spD ⟨K, mg, (T0 cts)⟩ ((Den tbl (n + 1)).call 32)) := by
  refine def_ok F sc_parts_within (bd := b_parts_within) rfl fun cdv A outer s H E0 hr => ?_
  have nd := (sc_parts_within).nd
  have hu : (A.deeper (envOfC "parts_within" (defScope (top 30)) s.heap.objs.size f cdv)).units + (Den tbl n).room < cLine := by rw [den_room]; have := hr.un; omega
  have tk : Takes (cxOf (L2.CX P w) P w K mg base ["plan", "found", "count", "part"] "parts_within" (defScope (top 30)) f cdv A outer s H E0) (fun cls d _ H => E0 cls d H) := takes_of rfl rfl rfl rfl
  unfold b_parts_within
  refine jss_cons ?_ ?_
  · exact (js_set (i := 1) nd rfl (by first | exact .inl rfl | exact .inr rfl) (je_lst ja_nil))
  refine jss_cons ?_ ?_
  · refine js_for (passes_of rfl) rfl (ji_seq (je_name (pv 0))) (jg_tup rfl (jgs_cons (jg_name (pg_name (i := 2) nd rfl (by first | exact .inl rfl | exact .inr rfl))) (jgs_cons (jg_name (pg_name (i := 3) nd rfl (by first | exact .inl rfl | exact .inr rfl))) jgs_nil))) ?_
    refine jss_cons ?_ ?_
    · exact (js_append (pv 1) (je_name (pv 3)))
    refine jss_one ?_
    refine js_if (jt_cmp (os_eq hu) (je_blt cs_len rfl E.h_len boot_len (jr_cons (je_name (pv 3)) jr_nil)) je_int) ?_ ?_
    · refine jss_one ?_
      exact (js_extend (pv 1) (je_call D.c_parts_within.cal hr tk rfl (ja_cons (je_ix (je_name (pv 3)) je_int) ja_nil)))
    exact jss_nil
  refine jss_one ?_
  exact (js_ret (je_name (pv 1)))
theorem ok_parts_within (E : Facts K w mg cts) (B : Makes base mg cts) (D : Defs P w K mg base cts n) : Dfn P w K mg base (T0 cts) (Den tbl (n + 1)) (n + 1) "parts_within" 32 := by
  obtain ⟨f, fd, hf, F⟩ := E.f_parts_within
  exact ⟨f, fd, ["plan"], hf, F.kp, F.bindsN fun _ _ _ _ _ _ us hl => (match us, hl with | [_], _ => rfl), fo_parts_within E D F⟩
theorem sc_items_in : FnScope ["plan"] ["plan"] (defScope (top 31)) := ⟨rfl, rfl, rfl, by decide +kernel, rfl, by decide +kernel, by decide +kernel⟩
theorem fo_items_in (E : Facts K w mg cts) (D : Defs P w K mg base cts n) {f : Addr} {fd : FuncData} (F : FnP K "items_in" (top 31) f fd) : FnOk P w K mg base (L2.CX P w) (n + 1) f fd ["plan"] (spD ⟨K, mg, (T0 cts)⟩ ((Den tbl (n + 1)).call 52)) := by
  refine def_ok F sc_items_in (bd := b_items_in) rfl fun cdv A outer s H E0 hr => ?_
  have nd := (sc_items_in).nd
  have hu : (A.deeper (envOfC "items_in" (defScope (top 31)) s.heap.objs.size f cdv)).units + (Den tbl n).room < cLine := by rw [den_room]; have := hr.un; omega
  have tk : Takes (cxOf (L2.CX P w) P w K mg base ["plan"] "items_in" (defScope (top 31)) f cdv A outer s H E0) (fun cls d _ H => E0 cls d H) := takes_of rfl rfl rfl rfl
  unfold b_items_in
  refine jss_one ?_
  exact (js_ret (je_blt cs_len rfl E.h_len boot_len (jr_cons (je_call D.c_parts_within.cal hr tk rfl (ja_cons (je_name (pv 0)) ja_nil)) jr_nil)))
theorem ok_items_in (E : Facts K w mg cts) (B : Makes base mg cts) (D : Defs P w K mg base cts n) : Dfn P w K mg base (T0 cts) (Den tbl (n + 1)) (n + 1) "items_in" 52 := by
  obtain ⟨f, fd, hf, F⟩ := E.f_items_in
  exact ⟨f, fd, ["plan"], hf, F.kp, F.bindsN fun _ _ _ _ _ _ us hl => (match us, hl with | [_], _ => rfl), fo_items_in E D F⟩
theorem sc_nesting : FnScope ["plan", "count", "part"] ["plan"] (defScope (top 32)) := ⟨rfl, rfl, rfl, by decide +kernel, rfl, by decide +kernel, by decide +kernel⟩
theorem fo_nesting (E : Facts K w mg cts) (D : Defs P w K mg base cts n) {f : Addr} {fd : FuncData} (F : FnP K "nesting" (top 32) f fd) : FnOk P w K mg base (L2.CX P w) (n + 1) f fd ["plan"] (spD ⟨K, mg, (T0 cts)⟩ ((Den tbl (n + 1)).call 51)) := by
  refine def_ok F sc_nesting (bd := b_nesting) rfl fun cdv A outer s H E0 hr => ?_
  have nd := (sc_nesting).nd
  have hu : (A.deeper (envOfC "nesting" (defScope (top 32)) s.heap.objs.size f cdv)).units + (Den tbl n).room < cLine := by rw [den_room]; have := hr.un; omega
  have tk : Takes (cxOf (L2.CX P w) P w K mg base ["plan", "count", "part"] "nesting" (defScope (top 32)) f cdv A outer s H E0) (fun cls d _ H => E0 cls d H) := takes_of rfl rfl rfl rfl
  unfold b_nesting
  refine jss_one ?_
  exact (js_ret (je_blt (cs_max1 rfl) rfl E.h_max (by decide +kernel) (jr_cons (je_bin os_add (je_lst (ja_cons je_int ja_nil)) (je_comp rfl nd (ji_seq (je_name (pv 0))) (blkOk_by (N := ["plan", "count", "part"]) (sc := defScope (top 32)) (own := [("count", 1), ("part", 2)]) (by decide +kernel)) (us := [1, 2]) rfl (by decide) (fun _ _ _ _ _ => (jg_tup rfl (jgs_cons (jg_name (pg_name (i := 1) nd rfl (by first | exact .inl rfl | exact .inr rfl))) (jgs_cons (jg_name (pg_name (i := 2) nd rfl (by first | exact .inl rfl | exact .inr rfl))) jgs_nil)))) (fun _ _ _ _ _ => (jts_one (jt_cmp (os_eq hu) (je_blt cs_len rfl E.h_len boot_len (jr_cons (je_name (pv 2)) jr_nil)) je_int))) (fun _ _ _ _ _ => (je_bin os_add je_int (je_call D.c_nesting.cal hr takes0 rfl (ja_cons (je_ix (je_name (pv 2)) je_int) ja_nil)))))) jr_nil)))
theorem ok_nesting (E : Facts K w mg cts) (B : Makes base mg cts) (D : Defs P w K mg base cts n) : Dfn P w K mg base (T0 cts) (Den tbl (n + 1)) (n + 1) "nesting" 51 := by
  obtain ⟨f, fd, hf, F⟩ := E.f_nesting
  exact ⟨f, fd, ["plan"], hf, F.kp, F.bindsN fun _ _ _ _ _ _ us hl => (match us, hl with | [_], _ => rfl), fo_nesting E D F⟩
theorem sc_check_room : FnScope ["items"] ["items"] (defScope (top 33)) := ⟨rfl, rfl, rfl, by decide +kernel, rfl, by decide +kernel, by decide +kernel⟩
theorem fo_check_room (E : Facts K w mg cts) (D : Defs P w K mg base cts n) {f : Addr} {fd : FuncData} (F : FnP K "check_room" (top 33) f fd) : FnOk P w K mg base (L2.CX P w) (n + 1) f fd ["items"] (spD ⟨K, mg, (T0 cts)⟩ ((Den tbl (n + 1)).call 53)) := by
  refine def_ok F sc_check_room (bd := b_check_room) rfl fun cdv A outer s H E0 hr => ?_
  have nd := (sc_check_room).nd
  have hu : (A.deeper (envOfC "check_room" (defScope (top 33)) s.heap.objs.size f cdv)).units + (Den tbl n).room < cLine := by rw [den_room]; have := hr.un; omega
  have tk : Takes (cxOf (L2.CX P w) P w K mg base ["items"] "check_room" (defScope (top 33)) f cdv A outer s H E0) (fun cls d _ H => E0 cls d H) := takes_of rfl rfl rfl rfl
  unfold b_check_room
  refine jss_one ?_
  refine js_if (jt_cmp (os_gt hu) (je_name (pv 0)) (je_const (pe_globI rfl E.k_MOST_ITEMS) (fun _ => .int _))) ?_ ?_
  · refine jss_one ?_
    exact js_never
  exact jss_nil
theorem ok_check_room (E : Facts K w mg cts) (B : Makes base mg cts) (D : Defs P w K mg base cts n) : Dfn P w K mg base (T0 cts) (Den tbl (n + 1)) (n + 1) "check_room" 53 := by
  obtain ⟨f, fd, hf, F⟩ := E.f_check_room
  exact ⟨f, fd, ["items"], hf, F.kp, F.bindsN fun _ _ _ _ _ _ us hl => (match us, hl with | [_], _ => rfl), fo_check_room E D F⟩
theorem sc_roomy : FnScope ["plan"] ["plan"] (defScope (top 34)) := ⟨rfl, rfl, rfl, by decide +kernel, rfl, by decide +kernel, by decide +kernel⟩
theorem fo_roomy (E : Facts K w mg cts) (D : Defs P w K mg base cts n) {f : Addr} {fd : FuncData} (F : FnP K "roomy" (top 34) f fd) : FnOk P w K mg base (L2.CX P w) (n + 1) f fd ["plan"] (spD ⟨K, mg, (T0 cts)⟩ ((Den tbl (n + 1)).call 59)) := by
  refine def_ok F sc_roomy (bd := b_roomy) rfl fun cdv A outer s H E0 hr => ?_
  have nd := (sc_roomy).nd
  have hu : (A.deeper (envOfC "roomy" (defScope (top 34)) s.heap.objs.size f cdv)).units + (Den tbl n).room < cLine := by rw [den_room]; have := hr.un; omega
  have tk : Takes (cxOf (L2.CX P w) P w K mg base ["plan"] "roomy" (defScope (top 34)) f cdv A outer s H E0) (fun cls d _ H => E0 cls d H) := takes_of rfl rfl rfl rfl
  unfold b_roomy
  refine jss_cons ?_ ?_
  · exact (js_expr (je_call D.c_check_room.cal hr tk rfl (ja_cons (je_call D.c_items_in.cal hr tk rfl (ja_cons (je_name (pv 0)) ja_nil)) ja_nil)))
  refine jss_cons ?_ ?_
  · refine js_if (jt_cmp (os_gt hu) (je_call D.c_nesting.cal hr tk rfl (ja_cons (je_name (pv 0)) ja_nil)) (je_const (pe_globI rfl E.k_MOST_NESTED) (fun _ => .int _))) ?_ ?_
    · refine jss_one ?_
      exact js_never
    exact jss_nil
  refine jss_one ?_
  exact (js_ret (je_name (pv 0)))
theorem ok_roomy (E : Facts K w mg cts) (B : Makes base mg cts) (D : Defs P w K mg base cts n) : Dfn P w K mg base (T0 cts) (Den tbl (n + 1)) (n + 1) "roomy" 59 := by
  obtain ⟨f, fd, hf, F⟩ := E.f_roomy
  exact ⟨f, fd, ["plan"], hf, F.kp, F.bindsN fun _ _ _ _ _ _ us hl => (match us, hl with | [_], _ => rfl), fo_roomy E D F⟩
theorem sc_mapped : FnScope ["plan", "depth", "action", "found", "count", "part", "many", "other"] ["plan", "depth", "action"] (defScope (top 35)) := ⟨rfl, rfl, rfl, by decide +kernel, rfl, by decide +kernel, by decide +kernel⟩
theorem fo_mapped (E : Facts K w mg cts) (D : Defs P w K mg base cts n) {f : Addr} {fd : FuncData} (F : FnP K "mapped" (top 35) f fd) : FnOk P w K mg base (L2.CX P w) (n + 1) f fd ["plan", "depth", "action"] (spD ⟨K, mg, (T0 cts)⟩ ((Den tbl (n + 1)).call 34)) := by
  refine def_ok F sc_mapped (bd := b_mapped) rfl fun cdv A outer s H E0 hr => ?_
  have nd := (sc_mapped).nd
  have hu : (A.deeper (envOfC "mapped" (defScope (top 35)) s.heap.objs.size f cdv)).units + (Den tbl n).room < cLine := by rw [den_room]; have := hr.un; omega
  have tk : Takes (cxOf (L2.CX P w) P w K mg base ["plan", "depth", "action", "found", "count", "part", "many", "other"] "mapped" (defScope (top 35)) f cdv A outer s H E0) (fun cls d _ H => E0 cls d H) := takes_of rfl rfl rfl rfl
  unfold b_mapped
  refine jss_cons ?_ ?_
  · exact (js_set (i := 3) nd rfl (by first | exact .inl rfl | exact .inr rfl) (je_lst ja_nil))
  refine jss_cons ?_ ?_
  · refine js_for (passes_of rfl) rfl (ji_seq (je_name (pv 0))) (jg_tup rfl (jgs_cons (jg_name (pg_name (i := 4) nd rfl (by first | exact .inl rfl | exact .inr rfl))) (jgs_cons (jg_name (pg_name (i := 5) nd rfl (by first | exact .inl rfl | exact .inr rfl))) jgs_nil))) ?_
    refine jss_one ?_
    refine js_if (jt_cmp (os_eq hu) (je_ix (je_name (pv 5)) je_int) je_str) ?_ ?_
    · refine jss_one ?_
      exact (js_append (pv 3) (je_tup (ja_cons (je_name (pv 4)) (ja_cons (je_tup (ja_cons je_str (ja_cons (je_ix (je_name (pv 5)) je_int) (ja_cons (je_call D.c_mapped.cal hr tk rfl (ja_cons (je_ix (je_name (pv 5)) je_int) (ja_cons (je_name (pv 1)) (ja_cons (je_name (pv 2)) ja_nil)))) ja_nil)))) ja_nil))))
    refine jss_one ?_
    refine js_if (jt_cmp (os_eq hu) (je_ix (je_name (pv 5)) je_int) je_str) ?_ ?_
    · refine jss_one ?_
      exact (js_append (pv 3) (je_tup (ja_cons (je_name (pv 4)) (ja_cons (je_tup (ja_cons je_str (ja_cons (je_ix (je_name (pv 5)) je_int) (ja_cons (je_call D.c_mapped.cal hr tk rfl (ja_cons (je_ix (je_name (pv 5)) je_int) (ja_cons (je_bin os_add (je_name (pv 1)) je_int) (ja_cons (je_name (pv 2)) ja_nil)))) ja_nil)))) ja_nil))))
    refine jss_one ?_
    exact (js_extend (pv 3) (je_comp rfl nd (ji_seq (je_act D.clos hr (ja_cons (je_name (pv 5)) (ja_cons (je_name (pv 1)) ja_nil)))) (blkOk_by (N := ["plan", "depth", "action", "found", "count", "part", "many", "other"]) (sc := defScope (top 35)) (own := [("many", 6), ("other", 7)]) (by decide +kernel)) (us := [6, 7]) rfl (by decide) (fun _ _ _ _ _ => (jg_tup rfl (jgs_cons (jg_name (pg_name (i := 6) nd rfl (by first | exact .inl rfl | exact .inr rfl))) (jgs_cons (jg_name (pg_name (i := 7) nd rfl (by first | exact .inl rfl | exact .inr rfl))) jgs_nil)))) (fun _ _ _ _ _ => jts_nil) (fun _ _ _ _ _ => (je_tup (ja_cons (je_bin os_mul (je_name (pv 4)) (je_name (pv 6))) (ja_cons (je_name (pv 7)) ja_nil))))))
  refine jss_one ?_
  exact (js_ret (je_bty cs_tuple rfl E.h_tuple (by decide +kernel) (jr_cons (je_name (pv 3)) jr_nil)))
theorem ok_mapped (E : Facts K w mg cts) (B : Makes base mg cts) (D : Defs P w K mg base cts n) : Dfn P w K mg base (T0 cts) (Den tbl (n + 1)) (n + 1) "mapped" 34 := by
  obtain ⟨f, fd, hf, F⟩ := E.f_mapped
  exact ⟨f, fd, ["plan", "depth", "action"], hf, F.kp, F.bindsN fun _ _ _ _ _ _ us hl => (match us, hl with | [_, _, _], _ => rfl), fo_mapped E D F⟩
theorem sc_raised : FnScope ["plan", "by", "least", "lift"] ["plan", "by", "least"] (defScope (top 36)) := ⟨rfl, rfl, rfl, by decide +kernel, rfl, by decide +kernel, by decide +kernel⟩
theorem fo_raised (E : Facts K w mg cts) (D : Defs P w K mg base cts n) {f : Addr} {fd : FuncData} (F : FnP K "raised" (top 36) f fd) {Pt : Addr} (hm : ∃ c, fd.code = .ref c ∧ LamX.TabB base mg c Pt) (hM : (Pt, x_raised.qual) ∈ cts.map (·.2)) (hU : ∀ p ∈ cts.map (·.2), p.1 = Pt → p.2 = x_raised.qual) : FnOk P w K mg base (L2.CX P w) (n + 1) f fd ["plan", "by", "least"] (spD ⟨K, mg, (T0 cts)⟩ ((Den tbl (n + 1)).call 57)) := by
  refine def_okM F hm sc_raised (bd := b_raised) rfl fun c A outer s H E0 TB hr => ?_
  have nd := (sc_raised).nd
  have hu : (A.deeper (envOfC "raised" (defScope (top 36)) s.heap.objs.size f (.ref c))).units + (Den tbl n).room < cLine := by rw [den_room]; have := hr.un; omega
  have tk : Takes (cxOf (L2.CX P w) P w K mg base ["plan", "by", "least", "lift"] "raised" (defScope (top 36)) f (.ref c) A outer s H E0) (fun cls d _ H => E0 cls d H) := takes_of rfl rfl rfl rfl
  unfold b_raised
  exact js_defret (st := stAt 0 (defBody (top 36))) (nm := fun _ _ => (x_raised).qual) (nd := x_raised) (i := 3) rfl TB rfl (tt_mem hM) rfl (tt_uni hU) (show ∀ y ∈ (C8.fnScope (stAt 0 (defBody (top 36)))).names, y.2 = .free → (defScope (top 36)).names.lookup y.1 = some .cell ∨ (defScope (top 36)).names.lookup y.1 = some .free by decide +kernel) rfl rfl rfl nd rfl (by first | exact .inl rfl | exact .inr rfl) (by first | exact .inl rfl | exact .inr rfl) rfl rfl (pe_clo (nd := x_raised) D.c_mapped.cal hr rfl (jal_cons zat_lasts (je_name (pv 0)) (jal_cons zat_lasts je_int (jal_name (pv 3)))) rfl rfl (show ∀ y ∈ (x_raised).scope.names, y.2 = .free → (defScope (top 36)).names.lookup y.1 = some .cell ∨ (defScope (top 36)).names.lookup y.1 = some .free by decide +kernel) (show ∀ y ∈ (x_raised).fr, (y, NameKind.free) ∈ (x_raised).scope.names by decide +kernel) (fun y hy => fr_of (fr := (x_raised).fr) (ns := (x_raised).scope.names) (by decide +kernel) hy) rfl (fun y hy => own_of (l := (x_raised).fr) (by rfl) hy))
theorem ok_raised (E : Facts K w mg cts) (B : Makes base mg cts) (D : Defs P w K mg base cts n) : Dfn P w K mg base (T0 cts) (Den tbl (n + 1)) (n + 1) "raised" 57 := by
  obtain ⟨f, fd, c, Pt, hf, F, hcd, hm⟩ := E.f_raised
  exact ⟨f, fd, ["plan", "by", "least"], hf, F.kp, F.bindsN fun _ _ _ _ _ _ us hl => (match us, hl with | [_, _, _], _ => rfl), fo_raised E D F ⟨c, hcd, B.tb _ hm⟩ (B.mem hm) (B.uni hm)⟩
theorem sc_replaced : FnScope ["plan", "old", "other"] ["plan", "old", "other"] (defScope (top 37)) := ⟨rfl, rfl, rfl, by decide +kernel, rfl, by decide +kernel, by decide +kernel⟩
theorem fo_replaced (E : Facts K w mg cts) (D : Defs P w K mg base cts n) {f : Addr} {fd : FuncData} (F : FnP K "replaced" (top 37) f fd) {Pt : Addr} (hm : ∃ c, fd.code = .ref c ∧ LamX.TabB base mg c Pt) (hM : (Pt, x_replaced.qual) ∈ cts.map (·.2)) (hU : ∀ p ∈ cts.map (·.2), p.1 = Pt → p.2 = x_replaced.qual) : FnOk P w K mg base (L2.CX P w) (n + 1) f fd ["plan", "old", "other"] (spD ⟨K, mg, (T0 cts)⟩ ((Den tbl (n + 1)).call 58)) := by
  refine def_okM F hm sc_replaced (bd := b_replaced) rfl fun c A outer s H E0 TB hr => ?_
  have nd := (sc_replaced).nd
  have hu : (A.deeper (envOfC "replaced" (defScope (top 37)) s.heap.objs.size f (.ref c))).units + (Den tbl n).room < cLine := by rw [den_room]; have := hr.un; omega
  have tk : Takes (cxOf (L2.CX P w) P w K mg base ["plan", "old", "other"] "replaced" (defScope (top 37)) f (.ref c) A outer s H E0) (fun cls d _ H => E0 cls d H) := takes_of rfl rfl rfl rfl
  unfold b_replaced
  refine jss_one ?_
  exact (js_ret (je_clo (nd := x_replaced) D.c_mapped.cal hr rfl (jal_cons lasts_tt (je_name (pv 0)) (jal_cons lasts_tt je_int (jal_lam (nd := x_replaced) (tt_tabs cts) TB rfl rfl rfl rfl hM hU rfl (show ∀ y ∈ (x_replaced).scope.names, y.2 = .free → (defScope (top 37)).names.lookup y.1 = some .cell ∨ (defScope (top 37)).names.lookup y.1 = some .free by decide +kernel)))) rfl rfl (show ∀ y ∈ (x_replaced).scope.names, y.2 = .free → (defScope (top 37)).names.lookup y.1 = some .cell ∨ (defScope (top 37)).names.lookup y.1 = some .free by decide +kernel) (show ∀ y ∈ (x_replaced).fr, (y, NameKind.free) ∈ (x_replaced).scope.names by decide +kernel) (fun y hy => fr_of (fr := (x_replaced).fr) (ns := (x_replaced).scope.names) (by decide +kernel) hy) rfl (fun y hy => own_of (l := (x_replaced).fr) (by rfl) hy)))
theorem ok_replaced (E : Facts K w mg cts) (B : Makes base mg cts) (D : Defs P w K mg base cts n) : Dfn P w K mg base (T0 cts) (Den tbl (n + 1)) (n + 1) "replaced" 58 := by
  obtain ⟨f, fd, c, Pt, hf, F, hcd, hm⟩ := E.f_replaced
  exact ⟨f, fd, ["plan", "old", "other"], hf, F.kp, F.bindsN fun _ _ _ _ _ _ us hl => (match us, hl with | [_, _, _], _ => rfl), fo_replaced E D F ⟨c, hcd, B.tb _ hm⟩ (B.mem hm) (B.uni hm)⟩
theorem sc_roomy_replaced : FnScope ["plan", "old", "other", "places", "part"] ["plan", "old", "other"] (defScope (top 38)) := ⟨rfl, rfl, rfl, by decide +kernel, rfl, by decide +kernel, by decide +kernel⟩
theorem fo_roomy_replaced (E : Facts K w mg cts) (D : Defs P w K mg base cts n) {f : Addr} {fd : FuncData} (F : FnP K "roomy_replaced" (top 38) f fd) : FnOk P w K mg base (L2.CX P w) (n + 1) f fd ["plan", "old", "other"] (spD ⟨K, mg, (T0 cts)⟩ ((Den tbl (n + 1)).call 61)) := by
  refine def_ok F sc_roomy_replaced (bd := b_roomy_replaced) rfl fun cdv A outer s H E0 hr => ?_
  have nd := (sc_roomy_replaced).nd
  have hu : (A.deeper (envOfC "roomy_replaced" (defScope (top 38)) s.heap.objs.size f cdv)).units + (Den tbl n).room < cLine := by rw [den_room]; have := hr.un; omega
  have tk : Takes (cxOf (L2.CX P w) P w K mg base ["plan", "old", "other", "places", "part"] "roomy_replaced" (defScope (top 38)) f cdv A outer s H E0) (fun cls d _ H => E0 cls d H) := takes_of rfl rfl rfl rfl
  unfold b_roomy_replaced
  refine jss_cons ?_ ?_
  · exact (js_set (i := 3) nd rfl (by first | exact .inl rfl | exact .inr rfl) (je_blt cs_len rfl E.h_len boot_len (jr_cons (je_comp rfl nd (ji_seq (je_call D.c_parts_within.cal hr tk rfl (ja_cons (je_name (pv 0)) ja_nil))) (blkOk_by (N := ["plan", "old", "other", "places", "part"]) (sc := defScope (top 38)) (own := [("part", 4)]) (by decide +kernel)) (us := [4]) rfl (by decide) (fun _ _ _ _ _ => (jg_name (pg_name (i := 4) nd rfl (by first | exact .inl rfl | exact .inr rfl)))) (fun _ _ _ _ _ => (jts_one (jt_cmp (os_eq hu) (je_name (pv 4)) (je_name (pv 1))))) (fun _ _ _ _ _ => (je_name (pv 4)))) jr_nil)))
  refine jss_cons ?_ ?_
  · exact (js_expr (je_call D.c_check_room.cal hr tk rfl (ja_cons (je_bin os_add (je_call D.c_items_in.cal hr tk rfl (ja_cons (je_name (pv 0)) ja_nil)) (je_bin os_mul (je_name (pv 3)) (je_bin os_sub (je_call D.c_items_in.cal hr tk rfl (ja_cons (je_name (pv 2)) ja_nil)) je_int))) ja_nil)))
  refine jss_one ?_
  exact (js_ret (je_call D.c_roomy.cal hr tk rfl (ja_cons (je_call D.c_replaced.cal hr tk rfl (ja_cons (je_name (pv 0)) (ja_cons (je_name (pv 1)) (ja_cons (je_name (pv 2)) ja_nil)))) ja_nil)))
theorem ok_roomy_replaced (E : Facts K w mg cts) (B : Makes base mg cts) (D : Defs P w K mg base cts n) : Dfn P w K mg base (T0 cts) (Den tbl (n + 1)) (n + 1) "roomy_replaced" 61 := by
  obtain ⟨f, fd, hf, F⟩ := E.f_roomy_replaced
  exact ⟨f, fd, ["plan", "old", "other"], hf, F.kp, F.bindsN fun _ _ _ _ _ _ us hl => (match us, hl with | [_, _, _], _ => rfl), fo_roomy_replaced E D F⟩
theorem sc_bound_to : FnScope ["door", "old", "plan"] ["door", "old", "plan"] (defScope (top 39)) := ⟨rfl, rfl, rfl, by decide +kernel, rfl, by decide +kernel, by decide +kernel⟩
theorem fo_bound_to (E : Facts K w mg cts) (D : Defs P w K mg base cts n) {f : Addr} {fd : FuncData} (F : FnP K "bound_to" (top 39) f fd) {Pt : Addr} (hm : ∃ c, fd.code = .ref c ∧ LamX.TabB base mg c Pt) (hM : (Pt, x_bound_to.qual) ∈ cts.map (·.2)) (hU : ∀ p ∈ cts.map (·.2), p.1 = Pt → p.2 = x_bound_to.qual) : FnOk P w K mg base (L2.CX P w) (n + 1) f fd ["door", "old", "plan"] (spD ⟨K, mg, (T0 cts)⟩ ((Den tbl (n + 1)).call 36)) := by
  refine def_okM F hm sc_bound_to (bd := b_bound_to) rfl fun c A outer s H E0 TB hr => ?_
  have nd := (sc_bound_to).nd
  have hu : (A.deeper (envOfC "bound_to" (defScope (top 39)) s.heap.objs.size f (.ref c))).units + (Den tbl n).room < cLine := by rw [den_room]; have := hr.un; omega
  have tk : Takes (cxOf (L2.CX P w) P w K mg base ["door", "old", "plan"] "bound_to" (defScope (top 39)) f (.ref c) A outer s H E0) (fun cls d _ H => E0 cls d H) := takes_of rfl rfl rfl rfl
  unfold b_bound_to
  refine jss_one ?_
  exact (js_ret (je_tup (ja_cons je_str (ja_cons (je_name (pv 0)) (ja_cons (je_clo (nd := x_bound_to) D.c_mapped.cal hr rfl (jal_cons lasts_tt (je_name (pv 2)) (jal_cons lasts_tt je_int (jal_lam (nd := x_bound_to) (tt_tabs cts) TB rfl rfl rfl rfl hM hU rfl (show ∀ y ∈ (x_bound_to).scope.names, y.2 = .free → (defScope (top 39)).names.lookup y.1 = some .cell ∨ (defScope (top 39)).names.lookup y.1 = some .free by decide +kernel)))) rfl rfl (show ∀ y ∈ (x_bound_to).scope.names, y.2 = .free → (defScope (top 39)).names.lookup y.1 = some .cell ∨ (defScope (top 39)).names.lookup y.1 = some .free by decide +kernel) (show ∀ y ∈ (x_bound_to).fr, (y, NameKind.free) ∈ (x_bound_to).scope.names by decide +kernel) (fun y hy => fr_of (fr := (x_bound_to).fr) (ns := (x_bound_to).scope.names) (by decide +kernel) hy) rfl (fun y hy => own_of (l := (x_bound_to).fr) (by rfl) hy)) ja_nil)))))
theorem ok_bound_to (E : Facts K w mg cts) (B : Makes base mg cts) (D : Defs P w K mg base cts n) : Dfn P w K mg base (T0 cts) (Den tbl (n + 1)) (n + 1) "bound_to" 36 := by
  obtain ⟨f, fd, c, Pt, hf, F, hcd, hm⟩ := E.f_bound_to
  exact ⟨f, fd, ["door", "old", "plan"], hf, F.kp, F.bindsN fun _ _ _ _ _ _ us hl => (match us, hl with | [_, _, _], _ => rfl), fo_bound_to E D F ⟨c, hcd, B.tb _ hm⟩ (B.mem hm) (B.uni hm)⟩
theorem sc_beside : FnScope ["one", "other"] ["one", "other"] (defScope (top 40)) := ⟨rfl, rfl, rfl, by decide +kernel, rfl, by decide +kernel, by decide +kernel⟩
theorem fo_beside (E : Facts K w mg cts) (D : Defs P w K mg base cts n) {f : Addr} {fd : FuncData} (F : FnP K "beside" (top 40) f fd) : FnOk P w K mg base (L2.CX P w) (n + 1) f fd ["one", "other"] (spD ⟨K, mg, (T0 cts)⟩ ((Den tbl (n + 1)).call 66)) := by
  refine def_ok F sc_beside (bd := b_beside) rfl fun cdv A outer s H E0 hr => ?_
  have nd := (sc_beside).nd
  have hu : (A.deeper (envOfC "beside" (defScope (top 40)) s.heap.objs.size f cdv)).units + (Den tbl n).room < cLine := by rw [den_room]; have := hr.un; omega
  have tk : Takes (cxOf (L2.CX P w) P w K mg base ["one", "other"] "beside" (defScope (top 40)) f cdv A outer s H E0) (fun cls d _ H => E0 cls d H) := takes_of rfl rfl rfl rfl
  unfold b_beside
  refine jss_cons ?_ ?_
  · exact (js_expr (je_call D.c_check_two.cal hr tk rfl (ja_cons (je_name (pv 0)) (ja_cons (je_name (pv 1)) ja_nil))))
  refine jss_one ?_
  exact (js_ret (je_bin os_add (je_name (pv 0)) (je_name (pv 1))))
theorem ok_beside (E : Facts K w mg cts) (B : Makes base mg cts) (D : Defs P w K mg base cts n) : Dfn P w K mg base (T0 cts) (Den tbl (n + 1)) (n + 1) "beside" 66 := by
  obtain ⟨f, fd, hf, F⟩ := E.f_beside
  exact ⟨f, fd, ["one", "other"], hf, F.kp, F.bindsN fun _ _ _ _ _ _ us hl => (match us, hl with | [_, _], _ => rfl), fo_beside E D F⟩
theorem sc_letter : FnScope ["door", "plan"] ["door", "plan"] (defScope (top 41)) := ⟨rfl, rfl, rfl, by decide +kernel, rfl, by decide +kernel, by decide +kernel⟩
theorem fo_letter (E : Facts K w mg cts) (D : Defs P w K mg base cts n) {f : Addr} {fd : FuncData} (F : FnP K "letter" (top 41) f fd) : FnOk P w K mg base (L2.CX P w) (n + 1) f fd ["door", "plan"] (spD ⟨K, mg, (T0 cts)⟩ ((Den tbl (n + 1)).call 45)) := by
  refine def_ok F sc_letter (bd := b_letter) rfl fun cdv A outer s H E0 hr => ?_
  have nd := (sc_letter).nd
  have hu : (A.deeper (envOfC "letter" (defScope (top 41)) s.heap.objs.size f cdv)).units + (Den tbl n).room < cLine := by rw [den_room]; have := hr.un; omega
  have tk : Takes (cxOf (L2.CX P w) P w K mg base ["door", "plan"] "letter" (defScope (top 41)) f cdv A outer s H E0) (fun cls d _ H => E0 cls d H) := takes_of rfl rfl rfl rfl
  unfold b_letter
  refine jss_cons ?_ ?_
  · exact (js_expr (je_call D.c_check_door.cal hr tk rfl (ja_cons (je_name (pv 0)) ja_nil)))
  refine jss_cons ?_ ?_
  · exact (js_expr (je_call D.c_check_plan.cal hr tk rfl (ja_cons (je_name (pv 1)) ja_nil)))
  refine jss_one ?_
  exact (js_ret (je_tup (ja_cons (je_tup (ja_cons je_int (ja_cons (je_tup (ja_cons je_str (ja_cons (je_name (pv 0)) (ja_cons (je_name (pv 1)) ja_nil)))) ja_nil))) ja_nil)))
theorem ok_letter (E : Facts K w mg cts) (B : Makes base mg cts) (D : Defs P w K mg base cts n) : Dfn P w K mg base (T0 cts) (Den tbl (n + 1)) (n + 1) "letter" 45 := by
  obtain ⟨f, fd, hf, F⟩ := E.f_letter
  exact ⟨f, fd, ["door", "plan"], hf, F.kp, F.bindsN fun _ _ _ _ _ _ us hl => (match us, hl with | [_, _], _ => rfl), fo_letter E D F⟩
theorem sc_wait : FnScope ["door", "word", "plan"] ["door", "word", "plan"] (defScope (top 42)) := ⟨rfl, rfl, rfl, by decide +kernel, rfl, by decide +kernel, by decide +kernel⟩
theorem fo_wait (E : Facts K w mg cts) (D : Defs P w K mg base cts n) {f : Addr} {fd : FuncData} (F : FnP K "wait" (top 42) f fd) : FnOk P w K mg base (L2.CX P w) (n + 1) f fd ["door", "word", "plan"] (spD ⟨K, mg, (T0 cts)⟩ ((Den tbl (n + 1)).call 44)) := by
  refine def_ok F sc_wait (bd := b_wait) rfl fun cdv A outer s H E0 hr => ?_
  have nd := (sc_wait).nd
  have hu : (A.deeper (envOfC "wait" (defScope (top 42)) s.heap.objs.size f cdv)).units + (Den tbl n).room < cLine := by rw [den_room]; have := hr.un; omega
  have tk : Takes (cxOf (L2.CX P w) P w K mg base ["door", "word", "plan"] "wait" (defScope (top 42)) f cdv A outer s H E0) (fun cls d _ H => E0 cls d H) := takes_of rfl rfl rfl rfl
  unfold b_wait
  refine jss_cons ?_ ?_
  · exact (js_expr (je_call D.c_check_door.cal hr tk rfl (ja_cons (je_name (pv 0)) ja_nil)))
  refine jss_cons ?_ ?_
  · exact (js_expr (je_call D.c_check_word.cal hr tk rfl (ja_cons (je_name (pv 1)) ja_nil)))
  refine jss_cons ?_ ?_
  · exact (js_expr (je_call D.c_check_plan.cal hr tk rfl (ja_cons (je_name (pv 2)) ja_nil)))
  refine jss_one ?_
  exact (js_ret (je_tup (ja_cons (je_tup (ja_cons je_int (ja_cons (je_call D.c_bound_to.cal hr tk rfl (ja_cons (je_name (pv 0)) (ja_cons (je_tup (ja_cons je_str (ja_cons (je_name (pv 1)) ja_nil))) (ja_cons (je_name (pv 2)) ja_nil)))) ja_nil))) ja_nil)))
theorem ok_wait (E : Facts K w mg cts) (B : Makes base mg cts) (D : Defs P w K mg base cts n) : Dfn P w K mg base (T0 cts) (Den tbl (n + 1)) (n + 1) "wait" 44 := by
  obtain ⟨f, fd, hf, F⟩ := E.f_wait
  exact ⟨f, fd, ["door", "word", "plan"], hf, F.kp, F.bindsN fun _ _ _ _ _ _ us hl => (match us, hl with | [_, _, _], _ => rfl), fo_wait E D F⟩
theorem sc_put : FnScope ["plan", "word", "other"] ["plan", "word", "other"] (defScope (top 43)) := ⟨rfl, rfl, rfl, by decide +kernel, rfl, by decide +kernel, by decide +kernel⟩
theorem fo_put (E : Facts K w mg cts) (D : Defs P w K mg base cts n) {f : Addr} {fd : FuncData} (F : FnP K "put" (top 43) f fd) : FnOk P w K mg base (L2.CX P w) (n + 1) f fd ["plan", "word", "other"] (spD ⟨K, mg, (T0 cts)⟩ ((Den tbl (n + 1)).call 73)) := by
  refine def_ok F sc_put (bd := b_put) rfl fun cdv A outer s H E0 hr => ?_
  have nd := (sc_put).nd
  have hu : (A.deeper (envOfC "put" (defScope (top 43)) s.heap.objs.size f cdv)).units + (Den tbl n).room < cLine := by rw [den_room]; have := hr.un; omega
  have tk : Takes (cxOf (L2.CX P w) P w K mg base ["plan", "word", "other"] "put" (defScope (top 43)) f cdv A outer s H E0) (fun cls d _ H => E0 cls d H) := takes_of rfl rfl rfl rfl
  unfold b_put
  refine jss_cons ?_ ?_
  · exact (js_expr (je_call D.c_check_plan.cal hr tk rfl (ja_cons (je_name (pv 0)) ja_nil)))
  refine jss_cons ?_ ?_
  · exact (js_expr (je_call D.c_check_word.cal hr tk rfl (ja_cons (je_name (pv 1)) ja_nil)))
  refine jss_cons ?_ ?_
  · exact (js_expr (je_call D.c_check_plan.cal hr tk rfl (ja_cons (je_name (pv 2)) ja_nil)))
  refine jss_one ?_
  exact (js_ret (je_call D.c_roomy_replaced.cal hr tk rfl (ja_cons (je_name (pv 0)) (ja_cons (je_tup (ja_cons je_str (ja_cons (je_name (pv 1)) ja_nil))) (ja_cons (je_name (pv 2)) ja_nil)))))
theorem ok_put (E : Facts K w mg cts) (B : Makes base mg cts) (D : Defs P w K mg base cts n) : Dfn P w K mg base (T0 cts) (Den tbl (n + 1)) (n + 1) "put" 73 := by
  obtain ⟨f, fd, hf, F⟩ := E.f_put
  exact ⟨f, fd, ["plan", "word", "other"], hf, F.kp, F.bindsN fun _ _ _ _ _ _ us hl => (match us, hl with | [_, _, _], _ => rfl), fo_put E D F⟩
theorem sc_check_mark : FnScope ["thing"] ["thing"] (defScope (top 44)) := ⟨rfl, rfl, rfl, by decide +kernel, rfl, by decide +kernel, by decide +kernel⟩
theorem fo_check_mark (E : Facts K w mg cts) (D : Defs P w K mg base cts n) {f : Addr} {fd : FuncData} (F : FnP K "check_mark" (top 44) f fd) : FnOk P w K mg base (L2.CX P w) (n + 1) f fd ["thing"] (spD ⟨K, mg, (T0 cts)⟩ ((Den tbl (n + 1)).call 62)) := by
  refine def_ok F sc_check_mark (bd := b_check_mark) rfl fun cdv A outer s H E0 hr => ?_
  have nd := (sc_check_mark).nd
  have hu : (A.deeper (envOfC "check_mark" (defScope (top 44)) s.heap.objs.size f cdv)).units + (Den tbl n).room < cLine := by rw [den_room]; have := hr.un; omega
  have tk : Takes (cxOf (L2.CX P w) P w K mg base ["thing"] "check_mark" (defScope (top 44)) f cdv A outer s H E0) (fun cls d _ H => E0 cls d H) := takes_of rfl rfl rfl rfl
  unfold b_check_mark
  refine jss_one ?_
  refine js_if (jt_bool (jw_or (jt_not (jt_truth (je_call D.c_is_integer.cal hr tk rfl (ja_cons (je_name (pv 0)) ja_nil)))) (jw_or1 (jt_cmp (os_lt hu) (je_name (pv 0)) je_int)))) ?_ ?_
  · refine jss_one ?_
    exact js_never
  exact jss_nil
theorem ok_check_mark (E : Facts K w mg cts) (B : Makes base mg cts) (D : Defs P w K mg base cts n) : Dfn P w K mg base (T0 cts) (Den tbl (n + 1)) (n + 1) "check_mark" 62 := by
  obtain ⟨f, fd, hf, F⟩ := E.f_check_mark
  exact ⟨f, fd, ["thing"], hf, F.kp, F.bindsN fun _ _ _ _ _ _ us hl => (match us, hl with | [_], _ => rfl), fo_check_mark E D F⟩
theorem sc_mark_put : FnScope ["plan", "number", "other"] ["plan", "number", "other"] (defScope (top 45)) := ⟨rfl, rfl, rfl, by decide +kernel, rfl, by decide +kernel, by decide +kernel⟩
theorem fo_mark_put (E : Facts K w mg cts) (D : Defs P w K mg base cts n) {f : Addr} {fd : FuncData} (F : FnP K "mark_put" (top 45) f fd) : FnOk P w K mg base (L2.CX P w) (n + 1) f fd ["plan", "number", "other"] (spD ⟨K, mg, (T0 cts)⟩ ((Den tbl (n + 1)).call 65)) := by
  refine def_ok F sc_mark_put (bd := b_mark_put) rfl fun cdv A outer s H E0 hr => ?_
  have nd := (sc_mark_put).nd
  have hu : (A.deeper (envOfC "mark_put" (defScope (top 45)) s.heap.objs.size f cdv)).units + (Den tbl n).room < cLine := by rw [den_room]; have := hr.un; omega
  have tk : Takes (cxOf (L2.CX P w) P w K mg base ["plan", "number", "other"] "mark_put" (defScope (top 45)) f cdv A outer s H E0) (fun cls d _ H => E0 cls d H) := takes_of rfl rfl rfl rfl
  unfold b_mark_put
  refine jss_cons ?_ ?_
  · exact (js_expr (je_call D.c_check_plan.cal hr tk rfl (ja_cons (je_name (pv 0)) ja_nil)))
  refine jss_cons ?_ ?_
  · exact (js_expr (je_call D.c_check_mark.cal hr tk rfl (ja_cons (je_name (pv 1)) ja_nil)))
  refine jss_cons ?_ ?_
  · exact (js_expr (je_call D.c_check_plan.cal hr tk rfl (ja_cons (je_name (pv 2)) ja_nil)))
  refine jss_one ?_
  exact (js_ret (je_call D.c_roomy_replaced.cal hr tk rfl (ja_cons (je_name (pv 0)) (ja_cons (je_tup (ja_cons je_str (ja_cons (je_name (pv 1)) ja_nil))) (ja_cons (je_name (pv 2)) ja_nil)))))
theorem ok_mark_put (E : Facts K w mg cts) (B : Makes base mg cts) (D : Defs P w K mg base cts n) : Dfn P w K mg base (T0 cts) (Den tbl (n + 1)) (n + 1) "mark_put" 65 := by
  obtain ⟨f, fd, hf, F⟩ := E.f_mark_put
  exact ⟨f, fd, ["plan", "number", "other"], hf, F.kp, F.bindsN fun _ _ _ _ _ _ us hl => (match us, hl with | [_, _, _], _ => rfl), fo_mark_put E D F⟩
theorem sc_folded : FnScope ["door", "body", "at", "many", "part", "rest"] ["door", "body"] (defScope (top 47)) := ⟨rfl, rfl, rfl, by decide +kernel, rfl, by decide +kernel, by decide +kernel⟩
theorem fo_folded (E : Facts K w mg cts) (D : Defs P w K mg base cts n) {f : Addr} {fd : FuncData} (F : FnP K "folded" (top 47) f fd) : FnOk P w K mg base (L2.CX P w) (n + 1) f fd ["door", "body"] (spD ⟨K, mg, (T0 cts)⟩ ((Den tbl (n + 1)).call 107)) := by
  refine def_ok F sc_folded (bd := b_folded) rfl fun cdv A outer s H E0 hr => ?_
  have nd := (sc_folded).nd
  have hu : (A.deeper (envOfC "folded" (defScope (top 47)) s.heap.objs.size f cdv)).units + (Den tbl n).room < cLine := by rw [den_room]; have := hr.un; omega
  have tk : Takes (cxOf (L2.CX P w) P w K mg base ["door", "body", "at", "many", "part", "rest"] "folded" (defScope (top 47)) f cdv A outer s H E0) (fun cls d _ H => E0 cls d H) := takes_of rfl rfl rfl rfl
  unfold b_folded
  refine jss_cons ?_ ?_
  · refine js_for (passes_of rfl) rfl (ji_enum rfl E.h_enumerate (je_name (pv 1))) (jg_tup rfl (jgs_cons (jg_name (pg_name (i := 2) nd rfl (by first | exact .inl rfl | exact .inr rfl))) (jgs_cons (jg_tup rfl (jgs_cons (jg_name (pg_name (i := 3) nd rfl (by first | exact .inl rfl | exact .inr rfl))) (jgs_cons (jg_name (pg_name (i := 4) nd rfl (by first | exact .inl rfl | exact .inr rfl))) jgs_nil))) jgs_nil))) ?_
    refine jss_one ?_
    refine js_if (jt_bool (jw_and (jt_cmp (os_eq hu) (je_ix (je_name (pv 4)) je_int) je_str) (jw_and1 (jt_cmp (os_eq hu) (je_ix (je_name (pv 4)) je_int) (je_name (pv 0)))))) ?_ ?_
    · refine jss_cons ?_ ?_
      · exact (js_set (i := 5) nd rfl (by first | exact .inl rfl | exact .inr rfl) (je_bin os_add (je_slice (je_name (pv 1)) jo_none (jo_some (je_name (pv 2)))) (je_slice (je_name (pv 1)) (jo_some (je_bin os_add (je_name (pv 2)) je_int)) jo_none)))
      refine jss_one ?_
      refine js_if (jt_cmp (os_eq hu) (je_ix (je_name (pv 4)) je_int) (je_call D.c_raised.cal hr tk rfl (ja_cons (je_name (pv 5)) (ja_cons je_int (ja_cons je_int ja_nil))))) ?_ ?_
      · refine jss_one ?_
        exact (js_ret (je_tup (ja_cons (je_bin os_add (je_name (pv 3)) je_int) (ja_cons (je_tup (ja_cons je_str (ja_cons (je_name (pv 0)) (ja_cons (je_name (pv 5)) ja_nil)))) ja_nil))))
      exact jss_nil
    exact jss_nil
  refine jss_one ?_
  exact (js_ret (je_tup (ja_cons je_int (ja_cons (je_tup (ja_cons je_str (ja_cons (je_name (pv 0)) (ja_cons (je_name (pv 1)) ja_nil)))) ja_nil))))
theorem ok_folded (E : Facts K w mg cts) (B : Makes base mg cts) (D : Defs P w K mg base cts n) : Dfn P w K mg base (T0 cts) (Den tbl (n + 1)) (n + 1) "folded" 107 := by
  obtain ⟨f, fd, hf, F⟩ := E.f_folded
  exact ⟨f, fd, ["door", "body"], hf, F.kp, F.bindsN fun _ _ _ _ _ _ us hl => (match us, hl with | [_, _], _ => rfl), fo_folded E D F⟩
theorem sc_plain_of : FnScope ["plan", "items", "count", "part", "many", "prime"] ["plan"] (defScope (top 48)) := ⟨rfl, rfl, rfl, by decide +kernel, rfl, by decide +kernel, by decide +kernel⟩
theorem fo_plain_of (E : Facts K w mg cts) (D : Defs P w K mg base cts n) {f : Addr} {fd : FuncData} (F : FnP K "plain_of" (top 48) f fd) : FnOk P w K mg base (L2.CX P w) (n + 1) f fd ["plan"] (spD ⟨K, mg, (T0 cts)⟩ ((Den tbl (n + 1)).call 106)) := by
  refine def_ok F sc_plain_of (bd := b_plain_of) rfl fun cdv A outer s H E0 hr => ?_
  have nd := (sc_plain_of).nd
  have hu : (A.deeper (envOfC "plain_of" (defScope (top 48)) s.heap.objs.size f cdv)).units + (Den tbl n).room < cLine := by rw [den_room]; have := hr.un; omega
  have tk : Takes (cxOf (L2.CX P w) P w K mg base ["plan", "items", "count", "part", "many", "prime"] "plain_of" (defScope (top 48)) f cdv A outer s H E0) (fun cls d _ H => E0 cls d H) := takes_of rfl rfl rfl rfl
  unfold b_plain_of
  refine jss_cons ?_ ?_
  · exact (js_set (i := 1) nd rfl (by first | exact .inl rfl | exact .inr rfl) (je_lst ja_nil))
  refine jss_cons ?_ ?_
  · refine js_for (passes_of rfl) rfl (ji_seq (je_name (pv 0))) (jg_tup rfl (jgs_cons (jg_name (pg_name (i := 2) nd rfl (by first | exact .inl rfl | exact .inr rfl))) (jgs_cons (jg_name (pg_name (i := 3) nd rfl (by first | exact .inl rfl | exact .inr rfl))) jgs_nil))) ?_
    refine jss_one ?_
    refine js_if (jt_cmp (os_eq hu) (je_ix (je_name (pv 3)) je_int) je_str) ?_ ?_
    · refine jss_one ?_
      exact (js_append (pv 1) (je_tup (ja_cons (je_name (pv 2)) (ja_cons (je_tup (ja_cons je_str (ja_cons (je_ix (je_name (pv 3)) je_int) (ja_cons (je_call D.c_plain_of.cal hr tk rfl (ja_cons (je_ix (je_name (pv 3)) je_int) ja_nil)) ja_nil)))) ja_nil))))
    refine jss_one ?_
    refine js_if (jt_cmp (os_eq hu) (je_ix (je_name (pv 3)) je_int) je_str) ?_ ?_
    · refine jss_cons ?_ ?_
      · exact (js_asg (jg_tup rfl (jgs_cons (jg_name (pg_name (i := 4) nd rfl (by first | exact .inl rfl | exact .inr rfl))) (jgs_cons (jg_name (pg_name (i := 5) nd rfl (by first | exact .inl rfl | exact .inr rfl))) jgs_nil))) (je_call D.c_folded.cal hr tk rfl (ja_cons (je_ix (je_name (pv 3)) je_int) (ja_cons (je_call D.c_plain_of.cal hr tk rfl (ja_cons (je_ix (je_name (pv 3)) je_int) ja_nil)) ja_nil))))
      refine jss_one ?_
      exact (js_append (pv 1) (je_tup (ja_cons (je_bin os_mul (je_name (pv 2)) (je_name (pv 4))) (ja_cons (je_name (pv 5)) ja_nil))))
    refine jss_one ?_
    exact (js_append (pv 1) (je_tup (ja_cons (je_name (pv 2)) (ja_cons (je_name (pv 3)) ja_nil))))
  refine jss_one ?_
  refine js_frz ?_
  exact (js_ret (je_call D.c_sorted_items.cal hr tk rfl (ja_cons (je_name (pv 1)) ja_nil)))
theorem ok_plain_of (E : Facts K w mg cts) (B : Makes base mg cts) (D : Defs P w K mg base cts n) : Dfn P w K mg base (T0 cts) (Den tbl (n + 1)) (n + 1) "plain_of" 106 := by
  obtain ⟨f, fd, hf, F⟩ := E.f_plain_of
  exact ⟨f, fd, ["plan"], hf, F.kp, F.bindsN fun _ _ _ _ _ _ us hl => (match us, hl with | [_], _ => rfl), fo_plain_of E D F⟩
theorem sc_alike : FnScope ["one", "other"] ["one", "other"] (defScope (top 49)) := ⟨rfl, rfl, rfl, by decide +kernel, rfl, by decide +kernel, by decide +kernel⟩
theorem fo_alike (E : Facts K w mg cts) (D : Defs P w K mg base cts n) {f : Addr} {fd : FuncData} (F : FnP K "alike" (top 49) f fd) : FnOk P w K mg base (L2.CX P w) (n + 1) f fd ["one", "other"] (spD ⟨K, mg, (T0 cts)⟩ ((Den tbl (n + 1)).call 115)) := by
  refine def_ok F sc_alike (bd := b_alike) rfl fun cdv A outer s H E0 hr => ?_
  have nd := (sc_alike).nd
  have hu : (A.deeper (envOfC "alike" (defScope (top 49)) s.heap.objs.size f cdv)).units + (Den tbl n).room < cLine := by rw [den_room]; have := hr.un; omega
  have tk : Takes (cxOf (L2.CX P w) P w K mg base ["one", "other"] "alike" (defScope (top 49)) f cdv A outer s H E0) (fun cls d _ H => E0 cls d H) := takes_of rfl rfl rfl rfl
  unfold b_alike
  refine jss_cons ?_ ?_
  · exact (js_expr (je_call D.c_check_two.cal hr tk rfl (ja_cons (je_name (pv 0)) (ja_cons (je_name (pv 1)) ja_nil))))
  refine jss_one ?_
  exact (js_ret (je_cmp (os_eq hu) (je_call D.c_plain_of.cal hr tk rfl (ja_cons (je_name (pv 0)) ja_nil)) (je_call D.c_plain_of.cal hr tk rfl (ja_cons (je_name (pv 1)) ja_nil))))
theorem ok_alike (E : Facts K w mg cts) (B : Makes base mg cts) (D : Defs P w K mg base cts n) : Dfn P w K mg base (T0 cts) (Den tbl (n + 1)) (n + 1) "alike" 115 := by
  obtain ⟨f, fd, hf, F⟩ := E.f_alike
  exact ⟨f, fd, ["one", "other"], hf, F.kp, F.bindsN fun _ _ _ _ _ _ us hl => (match us, hl with | [_, _], _ => rfl), fo_alike E D F⟩
theorem sc__law_tape : FnScope ["_law_script"] ["_law_script"] (defScope (top 51)) := ⟨rfl, rfl, rfl, by decide +kernel, rfl, by decide +kernel, by decide +kernel⟩
theorem fo__law_tape (E : Facts K w mg cts) (D : Defs P w K mg base cts n) {f : Addr} {fd : FuncData} (F : FnP K "_law_tape" (top 51) f fd) : FnOk P w K mg base (L2.CX P w) (n + 1) f fd ["_law_script"] (spD ⟨K, mg, (T0 cts)⟩ ((Den tbl (n + 1)).call 22)) := by
  refine def_ok F sc__law_tape (bd := b__law_tape) rfl fun cdv A outer s H E0 hr => ?_
  have nd := (sc__law_tape).nd
  have hu : (A.deeper (envOfC "_law_tape" (defScope (top 51)) s.heap.objs.size f cdv)).units + (Den tbl n).room < cLine := by rw [den_room]; have := hr.un; omega
  have tk : Takes (cxOf (L2.CX P w) P w K mg base ["_law_script"] "_law_tape" (defScope (top 51)) f cdv A outer s H E0) (fun cls d _ H => E0 cls d H) := takes_of rfl rfl rfl rfl
  unfold b__law_tape
  refine jss_one ?_
  exact (js_ret (je_lst (ja_cons (je_bty cs_list rfl E.h_list (by decide +kernel) (jr_cons (je_name (pv 0)) jr_nil)) (ja_cons je_int (ja_cons je_int (ja_cons je_int (ja_cons je_int ja_nil)))))))
theorem ok__law_tape (E : Facts K w mg cts) (B : Makes base mg cts) (D : Defs P w K mg base cts n) : Dfn P w K mg base (T0 cts) (Den tbl (n + 1)) (n + 1) "_law_tape" 22 := by
  obtain ⟨f, fd, hf, F⟩ := E.f__law_tape
  exact ⟨f, fd, ["_law_script"], hf, F.kp, F.bindsN fun _ _ _ _ _ _ us hl => (match us, hl with | [_], _ => rfl), fo__law_tape E D F⟩
theorem sc__law_pick : FnScope ["_law_tape_here", "_law_many", "_law_digit", "_law_cell", "_law_mixed"] ["_law_tape_here", "_law_many"] (defScope (top 52)) := ⟨rfl, rfl, rfl, by decide +kernel, rfl, by decide +kernel, by decide +kernel⟩
theorem fo__law_pick (E : Facts K w mg cts) (D : Defs P w K mg base cts n) {f : Addr} {fd : FuncData} (F : FnP K "_law_pick" (top 52) f fd) : FnOk P w K mg base (L2.CX P w) (n + 1) f fd ["_law_tape_here", "_law_many"] (spD ⟨K, mg, (T0 cts)⟩ ((Den tbl (n + 1)).call 11)) := by
  refine def_ok F sc__law_pick (bd := b__law_pick) rfl fun cdv A outer s H E0 hr => ?_
  have nd := (sc__law_pick).nd
  have hu : (A.deeper (envOfC "_law_pick" (defScope (top 52)) s.heap.objs.size f cdv)).units + (Den tbl n).room < cLine := by rw [den_room]; have := hr.un; omega
  have tk : Takes (cxOf (L2.CX P w) P w K mg base ["_law_tape_here", "_law_many", "_law_digit", "_law_cell", "_law_mixed"] "_law_pick" (defScope (top 52)) f cdv A outer s H E0) (fun cls d _ H => E0 cls d H) := takes_of rfl rfl rfl rfl
  unfold b__law_pick
  refine jss_cons ?_ ?_
  · refine js_if (jt_cmp (os_gt hu) (je_ixW (pv 0) je_int) je_int) ?_ ?_
    · refine jss_cons ?_ ?_
      · exact (js_set (i := 2) nd rfl (by first | exact .inl rfl | exact .inr rfl) (je_bin os_mod (je_bty cs_int rfl E.h_int (by decide +kernel) (jr_cons (je_ixW (pv 0) je_int) jr_nil)) (je_name (pv 1))))
      refine jss_cons ?_ ?_
      · exact (js_setIx (pv 0) je_int (je_bin os_fdiv (je_ixW (pv 0) je_int) (je_name (pv 1))))
      refine jss_one ?_
      exact (js_ret (je_name (pv 2)))
    exact jss_nil
  refine jss_cons ?_ ?_
  · exact (js_setIx (pv 0) je_int (je_bin os_add (je_ixW (pv 0) je_int) je_int))
  refine jss_cons ?_ ?_
  · exact (js_set (i := 3) nd rfl (by first | exact .inl rfl | exact .inr rfl) je_int)
  refine jss_cons ?_ ?_
  · refine js_if (jt_cmp (os_lt hu) (je_ixW (pv 0) je_int) (je_blt cs_len rfl E.h_len boot_len (jr_cons (je_ixW (pv 0) je_int) jr_nil))) ?_ ?_
    · refine jss_cons ?_ ?_
      · exact (js_set (i := 3) nd rfl (by first | exact .inl rfl | exact .inr rfl) (je_ix (je_ixW (pv 0) je_int) (je_ixW (pv 0) je_int)))
      refine jss_one ?_
      exact (js_setIx (pv 0) je_int (je_bin os_add (je_ixW (pv 0) je_int) je_int))
    exact jss_nil
  refine jss_cons ?_ ?_
  · refine js_if (jt_cmp (os_ge hu) (je_name (pv 3)) (je_bin os_pow je_int je_int)) ?_ ?_
    · refine jss_cons ?_ ?_
      · exact (js_setIx (pv 0) je_int (je_bin os_fdiv (je_name (pv 3)) (je_name (pv 1))))
      refine jss_one ?_
      exact (js_ret (je_bin os_mod (je_bty cs_int rfl E.h_int (by decide +kernel) (jr_cons (je_name (pv 3)) jr_nil)) (je_name (pv 1))))
    exact jss_nil
  refine jss_cons ?_ ?_
  · exact (js_set (i := 4) nd rfl (by first | exact .inl rfl | exact .inr rfl) (je_bin os_mod (je_bty cs_int rfl E.h_int (by decide +kernel) (jr_cons (je_bin os_add (je_bin os_add (je_bin os_mul (je_ixW (pv 0) je_int) je_int) (je_bin os_mod (je_bty cs_int rfl E.h_int (by decide +kernel) (jr_cons (je_name (pv 3)) jr_nil)) je_int)) (je_bin os_mul (je_ixW (pv 0) je_int) je_int)) jr_nil)) je_int))
  refine jss_cons ?_ ?_
  · exact (js_set (i := 4) nd rfl (by first | exact .inl rfl | exact .inr rfl) (je_bin os_mod (je_bty cs_int rfl E.h_int (by decide +kernel) (jr_cons (je_bin os_mul (je_name (pv 4)) (je_bin os_add (je_bin os_fdiv (je_name (pv 4)) je_int) je_int)) jr_nil)) je_int))
  refine jss_cons ?_ ?_
  · exact (js_setIx (pv 0) je_int (je_name (pv 4)))
  refine jss_one ?_
  exact (js_ret (je_bin os_mod (je_bty cs_int rfl E.h_int (by decide +kernel) (jr_cons (je_bin os_fdiv (je_name (pv 4)) je_int) jr_nil)) (je_name (pv 1))))
theorem ok__law_pick (E : Facts K w mg cts) (B : Makes base mg cts) (D : Defs P w K mg base cts n) : Dfn P w K mg base (T0 cts) (Den tbl (n + 1)) (n + 1) "_law_pick" 11 := by
  obtain ⟨f, fd, hf, F⟩ := E.f__law_pick
  exact ⟨f, fd, ["_law_tape_here", "_law_many"], hf, F.kp, F.bindsN fun _ _ _ _ _ _ us hl => (match us, hl with | [_, _], _ => rfl), fo__law_pick E D F⟩
theorem sc__law_plan : FnScope ["_law_tape_here", "_law_left", "_law_depth", "_law_letters", "_law_words", "_law_items", "_law_turn", "_law_count", "_law_part_here"] ["_law_tape_here", "_law_left", "_law_depth", "_law_letters", "_law_words"] (defScope (top 53)) := ⟨rfl, rfl, rfl, by decide +kernel, rfl, by decide +kernel, by decide +kernel⟩
theorem fo__law_plan (E : Facts K w mg cts) (D : Defs P w K mg base cts n) {f : Addr} {fd : FuncData} (F : FnP K "_law_plan" (top 53) f fd) : FnOk P w K mg base (L2.CX P w) (n + 1) f fd ["_law_tape_here", "_law_left", "_law_depth", "_law_letters", "_law_words"] (spD ⟨K, mg, (T0 cts)⟩ ((Den tbl (n + 1)).call 40)) := by
  refine def_ok F sc__law_plan (bd := b__law_plan) rfl fun cdv A outer s H E0 hr => ?_
  have nd := (sc__law_plan).nd
  have hu : (A.deeper (envOfC "_law_plan" (defScope (top 53)) s.heap.objs.size f cdv)).units + (Den tbl n).room < cLine := by rw [den_room]; have := hr.un; omega
  have tk : Takes (cxOf (L2.CX P w) P w K mg base ["_law_tape_here", "_law_left", "_law_depth", "_law_letters", "_law_words", "_law_items", "_law_turn", "_law_count", "_law_part_here"] "_law_plan" (defScope (top 53)) f cdv A outer s H E0) (fun cls d _ H => E0 cls d H) := takes_of rfl rfl rfl rfl
  unfold b__law_plan
  refine jss_cons ?_ ?_
  · exact (js_set (i := 5) nd rfl (by first | exact .inl rfl | exact .inr rfl) (je_lst ja_nil))
  refine jss_cons ?_ ?_
  · refine js_for (passes_of rfl) rfl (ji_range1 rfl E.h_range (jr_cons je_int jr_nil)) (jg_name (pg_name (i := 6) nd rfl (by first | exact .inl rfl | exact .inr rfl))) ?_
    refine jss_cons ?_ ?_
    · refine js_if (jt_bool (jw_or (jt_cmp (os_lt hu) (je_name (pv 1)) je_int) (jw_or1 (jt_cmp (os_eq hu) (je_call D.c__law_pick.cal hr tk rfl (ja_cons (je_name (pv 0)) (ja_cons je_int ja_nil))) je_int)))) ?_ ?_
      · refine jss_one ?_
        exact js_break
      exact jss_nil
    refine jss_cons ?_ ?_
    · exact (js_set (i := 7) nd rfl (by first | exact .inl rfl | exact .inr rfl) (je_ix (je_lst (ja_cons je_int (ja_cons je_int (ja_cons je_int (ja_cons je_int (ja_cons je_int ja_nil)))))) (je_call D.c__law_pick.cal hr tk rfl (ja_cons (je_name (pv 0)) (ja_cons je_int ja_nil)))))
    refine jss_cons ?_ ?_
    · refine js_if (jt_cmp (os_gt hu) (je_name (pv 7)) (je_name (pv 1))) ?_ ?_
      · refine jss_one ?_
        exact (js_set (i := 7) nd rfl (by first | exact .inl rfl | exact .inr rfl) je_int)
      exact jss_nil
    refine jss_cons ?_ ?_
    · exact (js_set (i := 8) nd rfl (by first | exact .inl rfl | exact .inr rfl) (je_call D.c__law_part.cal hr tk rfl (ja_cons (je_name (pv 0)) (ja_cons (je_bin os_fdiv (je_name (pv 1)) (je_name (pv 7))) (ja_cons (je_name (pv 2)) (ja_cons (je_name (pv 3)) (ja_cons (je_name (pv 4)) ja_nil)))))))
    refine jss_cons ?_ ?_
    · exact (js_append (pv 5) (je_tup (ja_cons (je_name (pv 7)) (ja_cons (je_name (pv 8)) ja_nil))))
    refine jss_one ?_
    exact (js_set (i := 1) nd rfl (by first | exact .inl rfl | exact .inr rfl) (je_bin os_sub (je_name (pv 1)) (je_bin os_mul (je_name (pv 7)) (je_call D.c__law_part_size.cal hr tk rfl (ja_cons (je_name (pv 8)) ja_nil)))))
  refine jss_one ?_
  exact (js_ret (je_bty cs_tuple rfl E.h_tuple (by decide +kernel) (jr_cons (je_name (pv 5)) jr_nil)))
theorem ok__law_plan (E : Facts K w mg cts) (B : Makes base mg cts) (D : Defs P w K mg base cts n) : Dfn P w K mg base (T0 cts) (Den tbl (n + 1)) (n + 1) "_law_plan" 40 := by
  obtain ⟨f, fd, hf, F⟩ := E.f__law_plan
  exact ⟨f, fd, ["_law_tape_here", "_law_left", "_law_depth", "_law_letters", "_law_words"], hf, F.kp, F.bindsN fun _ _ _ _ _ _ us hl => (match us, hl with | [_, _, _, _, _], _ => rfl), fo__law_plan E D F⟩
theorem sc__law_part : FnScope ["_law_tape_here", "_law_left", "_law_depth", "_law_letters", "_law_words", "_law_kind", "_law_door"] ["_law_tape_here", "_law_left", "_law_depth", "_law_letters", "_law_words"] (defScope (top 54)) := ⟨rfl, rfl, rfl, by decide +kernel, rfl, by decide +kernel, by decide +kernel⟩
theorem fo__law_part (E : Facts K w mg cts) (D : Defs P w K mg base cts n) {f : Addr} {fd : FuncData} (F : FnP K "_law_part" (top 54) f fd) : FnOk P w K mg base (L2.CX P w) (n + 1) f fd ["_law_tape_here", "_law_left", "_law_depth", "_law_letters", "_law_words"] (spD ⟨K, mg, (T0 cts)⟩ ((Den tbl (n + 1)).call 39)) := by
  refine def_ok F sc__law_part (bd := b__law_part) rfl fun cdv A outer s H E0 hr => ?_
  have nd := (sc__law_part).nd
  have hu : (A.deeper (envOfC "_law_part" (defScope (top 54)) s.heap.objs.size f cdv)).units + (Den tbl n).room < cLine := by rw [den_room]; have := hr.un; omega
  have tk : Takes (cxOf (L2.CX P w) P w K mg base ["_law_tape_here", "_law_left", "_law_depth", "_law_letters", "_law_words", "_law_kind", "_law_door"] "_law_part" (defScope (top 54)) f cdv A outer s H E0) (fun cls d _ H => E0 cls d H) := takes_of rfl rfl rfl rfl
  unfold b__law_part
  refine jss_cons ?_ ?_
  · exact (js_set (i := 5) nd rfl (by first | exact .inl rfl | exact .inr rfl) (je_call D.c__law_pick.cal hr tk rfl (ja_cons (je_name (pv 0)) (ja_cons je_int ja_nil))))
  refine jss_cons ?_ ?_
  · refine js_if (jt_bool (jw_and (jt_cmp (os_lt hu) (je_name (pv 1)) je_int) (jw_and1 (jt_cmp (os_gt hu) (je_name (pv 5)) je_int)))) ?_ ?_
    · refine jss_one ?_
      exact (js_set (i := 5) nd rfl (by first | exact .inl rfl | exact .inr rfl) (je_call D.c__law_pick.cal hr tk rfl (ja_cons (je_name (pv 0)) (ja_cons je_int ja_nil))))
    exact jss_nil
  refine jss_cons ?_ ?_
  · exact (js_set (i := 6) nd rfl (by first | exact .inl rfl | exact .inr rfl) (je_ix (je_name (pv 3)) (je_call D.c__law_pick.cal hr tk rfl (ja_cons (je_name (pv 0)) (ja_cons (je_blt cs_len rfl E.h_len boot_len (jr_cons (je_name (pv 3)) jr_nil)) ja_nil)))))
  refine jss_cons ?_ ?_
  · refine js_if (jt_bool (jw_and (jt_cmp (os_eq hu) (je_name (pv 5)) je_int) (jw_and1 (jt_cmp (os_gt hu) (je_blt cs_len rfl E.h_len boot_len (jr_cons (je_name (pv 4)) jr_nil)) je_int)))) ?_ ?_
    · refine jss_one ?_
      exact (js_ret (je_tup (ja_cons je_str (ja_cons (je_ix (je_name (pv 4)) (je_call D.c__law_pick.cal hr tk rfl (ja_cons (je_name (pv 0)) (ja_cons (je_blt cs_len rfl E.h_len boot_len (jr_cons (je_name (pv 4)) jr_nil)) ja_nil)))) ja_nil))))
    exact jss_nil
  refine jss_cons ?_ ?_
  · refine js_if (jt_bool (jw_and (jt_cmp (os_lt hu) (je_name (pv 5)) je_int) (jw_and1 (jt_cmp (os_gt hu) (je_name (pv 2)) je_int)))) ?_ ?_
    · refine jss_one ?_
      exact (js_ret (je_tup (ja_cons je_str (ja_cons (je_ix (je_lst (ja_cons je_int (ja_cons je_int (ja_cons (je_call D.c__law_pick.cal hr tk rfl (ja_cons (je_name (pv 0)) (ja_cons (je_name (pv 2)) ja_nil))) ja_nil)))) (je_call D.c__law_pick.cal hr tk rfl (ja_cons (je_name (pv 0)) (ja_cons je_int ja_nil)))) ja_nil))))
    exact jss_nil
  refine jss_cons ?_ ?_
  · refine js_if (jt_bool (jw_or (jt_cmp (os_eq hu) (je_name (pv 5)) je_int) (jw_or1 (jt_cmp (os_eq hu) (je_name (pv 5)) je_int)))) ?_ ?_
    · refine jss_one ?_
      exact (js_ret (je_tup (ja_cons je_str (ja_cons (je_name (pv 6)) (ja_cons (je_call D.c__law_plan.cal hr tk rfl (ja_cons (je_name (pv 0)) (ja_cons (je_bin os_sub (je_name (pv 1)) je_int) (ja_cons (je_name (pv 2)) (ja_cons (je_name (pv 3)) (ja_cons (je_name (pv 4)) ja_nil)))))) ja_nil)))))
    exact jss_nil
  refine jss_one ?_
  exact (js_ret (je_tup (ja_cons je_str (ja_cons (je_name (pv 6)) (ja_cons (je_call D.c__law_plan.cal hr tk rfl (ja_cons (je_name (pv 0)) (ja_cons (je_bin os_sub (je_name (pv 1)) je_int) (ja_cons (je_bin os_add (je_name (pv 2)) je_int) (ja_cons (je_name (pv 3)) (ja_cons (je_name (pv 4)) ja_nil)))))) ja_nil)))))
theorem ok__law_part (E : Facts K w mg cts) (B : Makes base mg cts) (D : Defs P w K mg base cts n) : Dfn P w K mg base (T0 cts) (Den tbl (n + 1)) (n + 1) "_law_part" 39 := by
  obtain ⟨f, fd, hf, F⟩ := E.f__law_part
  exact ⟨f, fd, ["_law_tape_here", "_law_left", "_law_depth", "_law_letters", "_law_words"], hf, F.kp, F.bindsN fun _ _ _ _ _ _ us hl => (match us, hl with | [_, _, _, _, _], _ => rfl), fo__law_part E D F⟩
theorem sc__law_part_size : FnScope ["_law_part_here"] ["_law_part_here"] (defScope (top 55)) := ⟨rfl, rfl, rfl, by decide +kernel, rfl, by decide +kernel, by decide +kernel⟩
theorem fo__law_part_size (E : Facts K w mg cts) (D : Defs P w K mg base cts n) {f : Addr} {fd : FuncData} (F : FnP K "_law_part_size" (top 55) f fd) : FnOk P w K mg base (L2.CX P w) (n + 1) f fd ["_law_part_here"] (spD ⟨K, mg, (T0 cts)⟩ ((Den tbl (n + 1)).call 38)) := by
  refine def_ok F sc__law_part_size (bd := b__law_part_size) rfl fun cdv A outer s H E0 hr => ?_
  have nd := (sc__law_part_size).nd
  have hu : (A.deeper (envOfC "_law_part_size" (defScope (top 55)) s.heap.objs.size f cdv)).units + (Den tbl n).room < cLine := by rw [den_room]; have := hr.un; omega
  have tk : Takes (cxOf (L2.CX P w) P w K mg base ["_law_part_here"] "_law_part_size" (defScope (top 55)) f cdv A outer s H E0) (fun cls d _ H => E0 cls d H) := takes_of rfl rfl rfl rfl
  unfold b__law_part_size
  refine jss_cons ?_ ?_
  · refine js_if (jt_cmp (os_eq hu) (je_blt cs_len rfl E.h_len boot_len (jr_cons (je_name (pv 0)) jr_nil)) je_int) ?_ ?_
    · refine jss_one ?_
      exact (js_ret (je_bin os_add je_int (je_call D.c__law_size.cal hr tk rfl (ja_cons (je_ix (je_name (pv 0)) je_int) ja_nil))))
    exact jss_nil
  refine jss_one ?_
  exact (js_ret je_int)
theorem ok__law_part_size (E : Facts K w mg cts) (B : Makes base mg cts) (D : Defs P w K mg base cts n) : Dfn P w K mg base (T0 cts) (Den tbl (n + 1)) (n + 1) "_law_part_size" 38 := by
  obtain ⟨f, fd, hf, F⟩ := E.f__law_part_size
  exact ⟨f, fd, ["_law_part_here"], hf, F.kp, F.bindsN fun _ _ _ _ _ _ us hl => (match us, hl with | [_], _ => rfl), fo__law_part_size E D F⟩
theorem sc__law_size : FnScope ["_law_plan_here", "_law_count", "_law_part_here"] ["_law_plan_here"] (defScope (top 56)) := ⟨rfl, rfl, rfl, by decide +kernel, rfl, by decide +kernel, by decide +kernel⟩
theorem fo__law_size (E : Facts K w mg cts) (D : Defs P w K mg base cts n) {f : Addr} {fd : FuncData} (F : FnP K "_law_size" (top 56) f fd) : FnOk P w K mg base (L2.CX P w) (n + 1) f fd ["_law_plan_here"] (spD ⟨K, mg, (T0 cts)⟩ ((Den tbl (n + 1)).call 41)) := by
  refine def_ok F sc__law_size (bd := b__law_size) rfl fun cdv A outer s H E0 hr => ?_
  have nd := (sc__law_size).nd
  have hu : (A.deeper (envOfC "_law_size" (defScope (top 56)) s.heap.objs.size f cdv)).units + (Den tbl n).room < cLine := by rw [den_room]; have := hr.un; omega
  have tk : Takes (cxOf (L2.CX P w) P w K mg base ["_law_plan_here", "_law_count", "_law_part_here"] "_law_size" (defScope (top 56)) f cdv A outer s H E0) (fun cls d _ H => E0 cls d H) := takes_of rfl rfl rfl rfl
  unfold b__law_size
  refine jss_one ?_
  exact (js_ret (je_blt (cs_sum rfl) rfl E.h_sum (by decide +kernel) (jr_cons (je_comp rfl nd (ji_seq (je_name (pv 0))) (blkOk_by (N := ["_law_plan_here", "_law_count", "_law_part_here"]) (sc := defScope (top 56)) (own := [("_law_count", 1), ("_law_part_here", 2)]) (by decide +kernel)) (us := [1, 2]) rfl (by decide) (fun _ _ _ _ _ => (jg_tup rfl (jgs_cons (jg_name (pg_name (i := 1) nd rfl (by first | exact .inl rfl | exact .inr rfl))) (jgs_cons (jg_name (pg_name (i := 2) nd rfl (by first | exact .inl rfl | exact .inr rfl))) jgs_nil)))) (fun _ _ _ _ _ => jts_nil) (fun _ _ _ _ _ => (je_bin os_mul (je_name (pv 1)) (je_call D.c__law_part_size.cal hr takes0 rfl (ja_cons (je_name (pv 2)) ja_nil))))) jr_nil)))
theorem ok__law_size (E : Facts K w mg cts) (B : Makes base mg cts) (D : Defs P w K mg base cts n) : Dfn P w K mg base (T0 cts) (Den tbl (n + 1)) (n + 1) "_law_size" 41 := by
  obtain ⟨f, fd, hf, F⟩ := E.f__law_size
  exact ⟨f, fd, ["_law_plan_here"], hf, F.kp, F.bindsN fun _ _ _ _ _ _ us hl => (match us, hl with | [_], _ => rfl), fo__law_size E D F⟩
theorem sc__law_raise : FnScope ["_law_plan_here", "_law_by", "_law_least", "_law_found", "_law_count", "_law_part_here"] ["_law_plan_here", "_law_by", "_law_least"] (defScope (top 57)) := ⟨rfl, rfl, rfl, by decide +kernel, rfl, by decide +kernel, by decide +kernel⟩
theorem fo__law_raise (E : Facts K w mg cts) (D : Defs P w K mg base cts n) {f : Addr} {fd : FuncData} (F : FnP K "_law_raise" (top 57) f fd) : FnOk P w K mg base (L2.CX P w) (n + 1) f fd ["_law_plan_here", "_law_by", "_law_least"] (spD ⟨K, mg, (T0 cts)⟩ ((Den tbl (n + 1)).call 88)) := by
  refine def_ok F sc__law_raise (bd := b__law_raise) rfl fun cdv A outer s H E0 hr => ?_
  have nd := (sc__law_raise).nd
  have hu : (A.deeper (envOfC "_law_raise" (defScope (top 57)) s.heap.objs.size f cdv)).units + (Den tbl n).room < cLine := by rw [den_room]; have := hr.un; omega
  have tk : Takes (cxOf (L2.CX P w) P w K mg base ["_law_plan_here", "_law_by", "_law_least", "_law_found", "_law_count", "_law_part_here"] "_law_raise" (defScope (top 57)) f cdv A outer s H E0) (fun cls d _ H => E0 cls d H) := takes_of rfl rfl rfl rfl
  unfold b__law_raise
  refine jss_cons ?_ ?_
  · exact (js_set (i := 3) nd rfl (by first | exact .inl rfl | exact .inr rfl) (je_lst ja_nil))
  refine jss_cons ?_ ?_
  · refine js_for (passes_of rfl) rfl (ji_seq (je_name (pv 0))) (jg_tup rfl (jgs_cons (jg_name (pg_name (i := 4) nd rfl (by first | exact .inl rfl | exact .inr rfl))) (jgs_cons (jg_name (pg_name (i := 5) nd rfl (by first | exact .inl rfl | exact .inr rfl))) jgs_nil))) ?_
    refine jss_cons ?_ ?_
    · refine js_if (jt_bool (jw_and (jt_cmp (os_eq hu) (je_ix (je_name (pv 5)) je_int) je_str) (jw_and1 (jt_cmp (os_ge hu) (je_ix (je_name (pv 5)) je_int) (je_name (pv 2)))))) ?_ ?_
      · refine jss_one ?_
        exact (js_set (i := 5) nd rfl (by first | exact .inl rfl | exact .inr rfl) (je_tup (ja_cons je_str (ja_cons (je_bin os_add (je_ix (je_name (pv 5)) je_int) (je_name (pv 1))) ja_nil))))
      exact jss_nil
    refine jss_cons ?_ ?_
    · refine js_if (jt_cmp (os_eq hu) (je_ix (je_name (pv 5)) je_int) je_str) ?_ ?_
      · refine jss_one ?_
        exact (js_set (i := 5) nd rfl (by first | exact .inl rfl | exact .inr rfl) (je_tup (ja_cons je_str (ja_cons (je_ix (je_name (pv 5)) je_int) (ja_cons (je_call D.c__law_raise.cal hr tk rfl (ja_cons (je_ix (je_name (pv 5)) je_int) (ja_cons (je_name (pv 1)) (ja_cons (je_name (pv 2)) ja_nil)))) ja_nil)))))
      exact jss_nil
    refine jss_cons ?_ ?_
    · refine js_if (jt_cmp (os_eq hu) (je_ix (je_name (pv 5)) je_int) je_str) ?_ ?_
      · refine jss_one ?_
        exact (js_set (i := 5) nd rfl (by first | exact .inl rfl | exact .inr rfl) (je_tup (ja_cons je_str (ja_cons (je_ix (je_name (pv 5)) je_int) (ja_cons (je_call D.c__law_raise.cal hr tk rfl (ja_cons (je_ix (je_name (pv 5)) je_int) (ja_cons (je_name (pv 1)) (ja_cons (je_bin os_add (je_name (pv 2)) je_int) ja_nil)))) ja_nil)))))
      exact jss_nil
    refine jss_one ?_
    exact (js_append (pv 3) (je_tup (ja_cons (je_name (pv 4)) (ja_cons (je_name (pv 5)) ja_nil))))
  refine jss_one ?_
  exact (js_ret (je_bty cs_tuple rfl E.h_tuple (by decide +kernel) (jr_cons (je_name (pv 3)) jr_nil)))
theorem ok__law_raise (E : Facts K w mg cts) (B : Makes base mg cts) (D : Defs P w K mg base cts n) : Dfn P w K mg base (T0 cts) (Den tbl (n + 1)) (n + 1) "_law_raise" 88 := by
  obtain ⟨f, fd, hf, F⟩ := E.f__law_raise
  exact ⟨f, fd, ["_law_plan_here", "_law_by", "_law_least"], hf, F.kp, F.bindsN fun _ _ _ _ _ _ us hl => (match us, hl with | [_, _, _], _ => rfl), fo__law_raise E D F⟩
theorem sc__law_key : FnScope ["_law_part_here", "_law_rank", "_law_inner", "_law_count", "_law_one"] ["_law_part_here"] (defScope (top 58)) := ⟨rfl, rfl, rfl, by decide +kernel, rfl, by decide +kernel, by decide +kernel⟩
theorem fo__law_key (E : Facts K w mg cts) (D : Defs P w K mg base cts n) {f : Addr} {fd : FuncData} (F : FnP K "_law_key" (top 58) f fd) : FnOk P w K mg base (L2.CX P w) (n + 1) f fd ["_law_part_here"] (spD ⟨K, mg, (T0 cts)⟩ ((Den tbl (n + 1)).call 108)) := by
  refine def_ok F sc__law_key (bd := b__law_key) rfl fun cdv A outer s H E0 hr => ?_
  have nd := (sc__law_key).nd
  have hu : (A.deeper (envOfC "_law_key" (defScope (top 58)) s.heap.objs.size f cdv)).units + (Den tbl n).room < cLine := by rw [den_room]; have := hr.un; omega
  have tk : Takes (cxOf (L2.CX P w) P w K mg base ["_law_part_here", "_law_rank", "_law_inner", "_law_count", "_law_one"] "_law_key" (defScope (top 58)) f cdv A outer s H E0) (fun cls d _ H => E0 cls d H) := takes_of rfl rfl rfl rfl
  unfold b__law_key
  refine jss_cons ?_ ?_
  · exact (js_set (i := 1) nd rfl (by first | exact .inl rfl | exact .inr rfl) (je_indexS (je_lst (ja_cons je_str (ja_cons je_str (ja_cons je_str (ja_cons je_str (ja_cons je_str ja_nil)))))) (je_ix (je_name (pv 0)) je_int)))
  refine jss_cons ?_ ?_
  · exact (js_set (i := 2) nd rfl (by first | exact .inl rfl | exact .inr rfl) (je_tup ja_nil))
  refine jss_cons ?_ ?_
  · refine js_if (jt_cmp (os_eq hu) (je_blt cs_len rfl E.h_len boot_len (jr_cons (je_name (pv 0)) jr_nil)) je_int) ?_ ?_
    · refine jss_one ?_
      exact (js_set (i := 2) nd rfl (by first | exact .inl rfl | exact .inr rfl) (je_bty cs_tuple rfl E.h_tuple (by decide +kernel) (jr_cons (je_comp rfl nd (ji_seq (je_ix (je_name (pv 0)) je_int)) (blkOk_by (N := ["_law_part_here", "_law_rank", "_law_inner", "_law_count", "_law_one"]) (sc := defScope (top 58)) (own := [("_law_count", 3), ("_law_one", 4)]) (by decide +kernel)) (us := [3, 4]) rfl (by decide) (fun _ _ _ _ _ => (jg_tup rfl (jgs_cons (jg_name (pg_name (i := 3) nd rfl (by first | exact .inl rfl | exact .inr rfl))) (jgs_cons (jg_name (pg_name (i := 4) nd rfl (by first | exact .inl rfl | exact .inr rfl))) jgs_nil)))) (fun _ _ _ _ _ => jts_nil) (fun _ _ _ _ _ => (je_tup (ja_cons (je_call D.c__law_key.cal hr takes0 rfl (ja_cons (je_name (pv 4)) ja_nil)) (ja_cons (je_name (pv 3)) ja_nil))))) jr_nil)))
    exact jss_nil
  refine jss_one ?_
  exact (js_ret (je_tup (ja_cons (je_call D.c__law_part_size.cal hr tk rfl (ja_cons (je_name (pv 0)) ja_nil)) (ja_cons (je_name (pv 1)) (ja_cons (je_ix (je_name (pv 0)) je_int) (ja_cons (je_name (pv 2)) ja_nil))))))
theorem ok__law_key (E : Facts K w mg cts) (B : Makes base mg cts) (D : Defs P w K mg base cts n) : Dfn P w K mg base (T0 cts) (Den tbl (n + 1)) (n + 1) "_law_key" 108 := by
  obtain ⟨f, fd, hf, F⟩ := E.f__law_key
  exact ⟨f, fd, ["_law_part_here"], hf, F.kp, F.bindsN fun _ _ _ _ _ _ us hl => (match us, hl with | [_], _ => rfl), fo__law_key E D F⟩
theorem sc__law_joined : FnScope ["_law_items", "_law_found", "_law_count", "_law_part_here"] ["_law_items"] (defScope (top 59)) := ⟨rfl, rfl, rfl, by decide +kernel, rfl, by decide +kernel, by decide +kernel⟩
theorem fo__law_joined (E : Facts K w mg cts) (D : Defs P w K mg base cts n) {f : Addr} {fd : FuncData} (F : FnP K "_law_joined" (top 59) f fd) {Pt : Addr} (hm : ∃ c, fd.code = .ref c ∧ LamX.TabB base mg c Pt) (hM : (Pt, x__law_joined.qual) ∈ cts.map (·.2)) (hU : ∀ p ∈ cts.map (·.2), p.1 = Pt → p.2 = x__law_joined.qual) : FnOk P w K mg base (L2.CX P w) (n + 1) f fd ["_law_items"] (spD ⟨K, mg, (T0 cts)⟩ ((Den tbl (n + 1)).call 111)) := by
  refine def_okM F hm sc__law_joined (bd := b__law_joined) rfl fun c A outer s H E0 TB hr => ?_
  have nd := (sc__law_joined).nd
  have hu : (A.deeper (envOfC "_law_joined" (defScope (top 59)) s.heap.objs.size f (.ref c))).units + (Den tbl n).room < cLine := by rw [den_room]; have := hr.un; omega
  have tk : Takes (cxOf (L2.CX P w) P w K mg base ["_law_items", "_law_found", "_law_count", "_law_part_here"] "_law_joined" (defScope (top 59)) f (.ref c) A outer s H E0) (fun cls d _ H => E0 cls d H) := takes_of rfl rfl rfl rfl
  unfold b__law_joined
  refine jss_cons ?_ ?_
  · exact (js_set (i := 1) nd rfl (by first | exact .inl rfl | exact .inr rfl) (je_lst ja_nil))
  refine jss_cons ?_ ?_
  · refine js_for (passes_of rfl) rfl (ji_seq (je_sortkey (nd := x__law_joined) D.lw__law_joined hr hu rfl rfl E.h_sorted (je_name (pv 0)) (tt_tabs cts) TB rfl rfl rfl rfl hM hU rfl (show ∀ y ∈ (x__law_joined).scope.names, y.2 = .free → (defScope (top 59)).names.lookup y.1 = some .cell ∨ (defScope (top 59)).names.lookup y.1 = some .free by decide +kernel) (fun y hy => fr_of (fr := (x__law_joined).fr) (ns := (x__law_joined).scope.names) (by decide +kernel) hy))) (jg_tup rfl (jgs_cons (jg_name (pg_name (i := 2) nd rfl (by first | exact .inl rfl | exact .inr rfl))) (jgs_cons (jg_name (pg_name (i := 3) nd rfl (by first | exact .inl rfl | exact .inr rfl))) jgs_nil))) ?_
    refine jss_one ?_
    refine js_if (jt_bool (jw_and (jt_cmp (os_gt hu) (je_blt cs_len rfl E.h_len boot_len (jr_cons (je_name (pv 1)) jr_nil)) je_int) (jw_and1 (jt_cmp (os_eq hu) (je_ix (je_ix (je_name (pv 1)) (je_neg je_int)) je_int) (je_name (pv 3)))))) ?_ ?_
    · refine jss_one ?_
      exact (js_setIx (pv 1) (je_neg je_int) (je_tup (ja_cons (je_bin os_add (je_ix (je_ix (je_name (pv 1)) (je_neg je_int)) je_int) (je_name (pv 2))) (ja_cons (je_name (pv 3)) ja_nil))))
    refine jss_one ?_
    exact (js_append (pv 1) (je_tup (ja_cons (je_name (pv 2)) (ja_cons (je_name (pv 3)) ja_nil))))
  refine jss_one ?_
  exact (js_ret (je_bty cs_tuple rfl E.h_tuple (by decide +kernel) (jr_cons (je_name (pv 1)) jr_nil)))
theorem ok__law_joined (E : Facts K w mg cts) (B : Makes base mg cts) (D : Defs P w K mg base cts n) : Dfn P w K mg base (T0 cts) (Den tbl (n + 1)) (n + 1) "_law_joined" 111 := by
  obtain ⟨f, fd, c, Pt, hf, F, hcd, hm⟩ := E.f__law_joined
  exact ⟨f, fd, ["_law_items"], hf, F.kp, F.bindsN fun _ _ _ _ _ _ us hl => (match us, hl with | [_], _ => rfl), fo__law_joined E D F ⟨c, hcd, B.tb _ hm⟩ (B.mem hm) (B.uni hm)⟩
theorem sc__law_form : FnScope ["_law_plan_here", "_law_items", "_law_count", "_law_part_here", "_law_body", "_law_many", "_law_one", "_law_rest", "_law_item"] ["_law_plan_here"] (defScope (top 60)) := ⟨rfl, rfl, rfl, by decide +kernel, rfl, by decide +kernel, by decide +kernel⟩
theorem fo__law_form (E : Facts K w mg cts) (D : Defs P w K mg base cts n) {f : Addr} {fd : FuncData} (F : FnP K "_law_form" (top 60) f fd) : FnOk P w K mg base (L2.CX P w) (n + 1) f fd ["_law_plan_here"] (spD ⟨K, mg, (T0 cts)⟩ ((Den tbl (n + 1)).call 112)) := by
  refine def_ok F sc__law_form (bd := b__law_form) rfl fun cdv A outer s H E0 hr => ?_
  have nd := (sc__law_form).nd
  have hu : (A.deeper (envOfC "_law_form" (defScope (top 60)) s.heap.objs.size f cdv)).units + (Den tbl n).room < cLine := by rw [den_room]; have := hr.un; omega
  have tk : Takes (cxOf (L2.CX P w) P w K mg base ["_law_plan_here", "_law_items", "_law_count", "_law_part_here", "_law_body", "_law_many", "_law_one", "_law_rest", "_law_item"] "_law_form" (defScope (top 60)) f cdv A outer s H E0) (fun cls d _ H => E0 cls d H) := takes_of rfl rfl rfl rfl
  unfold b__law_form
  refine jss_cons ?_ ?_
  · exact (js_set (i := 1) nd rfl (by first | exact .inl rfl | exact .inr rfl) (je_lst ja_nil))
  refine jss_cons ?_ ?_
  · refine js_for (passes_of rfl) rfl (ji_seq (je_name (pv 0))) (jg_tup rfl (jgs_cons (jg_name (pg_name (i := 2) nd rfl (by first | exact .inl rfl | exact .inr rfl))) (jgs_cons (jg_name (pg_name (i := 3) nd rfl (by first | exact .inl rfl | exact .inr rfl))) jgs_nil))) ?_
    refine jss_cons ?_ ?_
    · refine js_if (jt_cmp (os_eq hu) (je_ix (je_name (pv 3)) je_int) je_str) ?_ ?_
      · refine jss_one ?_
        exact (js_set (i := 3) nd rfl (by first | exact .inl rfl | exact .inr rfl) (je_tup (ja_cons je_str (ja_cons (je_ix (je_name (pv 3)) je_int) (ja_cons (je_call D.c__law_form.cal hr tk rfl (ja_cons (je_ix (je_name (pv 3)) je_int) ja_nil)) ja_nil)))))
      exact jss_nil
    refine jss_cons ?_ ?_
    · refine js_if (jt_cmp (os_eq hu) (je_ix (je_name (pv 3)) je_int) je_str) ?_ ?_
      · refine jss_cons ?_ ?_
        · exact (js_set (i := 4) nd rfl (by first | exact .inl rfl | exact .inr rfl) (je_call D.c__law_form.cal hr tk rfl (ja_cons (je_ix (je_name (pv 3)) je_int) ja_nil)))
        refine jss_cons ?_ ?_
        · refine js_for (passes_of rfl) rfl (ji_seq (je_name (pv 4))) (jg_tup rfl (jgs_cons (jg_name (pg_name (i := 5) nd rfl (by first | exact .inl rfl | exact .inr rfl))) (jgs_cons (jg_name (pg_name (i := 6) nd rfl (by first | exact .inl rfl | exact .inr rfl))) jgs_nil))) ?_
          refine jss_cons ?_ ?_
          · exact (js_set (i := 7) nd rfl (by first | exact .inl rfl | exact .inr rfl) (je_bty cs_tuple rfl E.h_tuple (by decide +kernel) (jr_cons (je_comp rfl nd (ji_seq (je_name (pv 4))) (blkOk_by (N := ["_law_plan_here", "_law_items", "_law_count", "_law_part_here", "_law_body", "_law_many", "_law_one", "_law_rest", "_law_item"]) (sc := defScope (top 60)) (own := [("_law_item", 8)]) (by decide +kernel)) (us := [8]) rfl (by decide) (fun _ _ _ _ _ => (jg_name (pg_name (i := 8) nd rfl (by first | exact .inl rfl | exact .inr rfl)))) (fun _ _ _ _ _ => (jts_one (jt_cmp (os_ne hu) (je_ix (je_name (pv 8)) je_int) (je_name (pv 6))))) (fun _ _ _ _ _ => (je_name (pv 8)))) jr_nil)))
          refine jss_one ?_
          refine js_if (jt_bool (jw_and (jt_cmp (os_eq hu) (je_ix (je_name (pv 6)) je_int) je_str) (jw_and (jt_cmp (os_eq hu) (je_ix (je_name (pv 6)) je_int) (je_ix (je_name (pv 3)) je_int)) (jw_and1 (jt_cmp (os_eq hu) (je_ix (je_name (pv 6)) je_int) (je_call D.c__law_raise.cal hr tk rfl (ja_cons (je_name (pv 7)) (ja_cons je_int (ja_cons je_int ja_nil))))))))) ?_ ?_
          · refine jss_cons ?_ ?_
            · exact (js_set (i := 4) nd rfl (by first | exact .inl rfl | exact .inr rfl) (je_name (pv 7)))
            refine jss_cons ?_ ?_
            · exact (js_set (i := 2) nd rfl (by first | exact .inl rfl | exact .inr rfl) (je_bin os_mul (je_name (pv 2)) (je_bin os_add (je_name (pv 5)) je_int)))
            refine jss_one ?_
            exact js_break
          exact jss_nil
        refine jss_one ?_
        exact (js_set (i := 3) nd rfl (by first | exact .inl rfl | exact .inr rfl) (je_tup (ja_cons je_str (ja_cons (je_ix (je_name (pv 3)) je_int) (ja_cons (je_name (pv 4)) ja_nil)))))
      exact jss_nil
    refine jss_one ?_
    exact (js_append (pv 1) (je_tup (ja_cons (je_name (pv 2)) (ja_cons (je_name (pv 3)) ja_nil))))
  refine jss_one ?_
  refine js_frz ?_
  exact (js_ret (je_call D.c__law_joined.cal hr tk rfl (ja_cons (je_name (pv 1)) ja_nil)))
theorem ok__law_form (E : Facts K w mg cts) (B : Makes base mg cts) (D : Defs P w K mg base cts n) : Dfn P w K mg base (T0 cts) (Den tbl (n + 1)) (n + 1) "_law_form" 112 := by
  obtain ⟨f, fd, hf, F⟩ := E.f__law_form
  exact ⟨f, fd, ["_law_plan_here"], hf, F.kp, F.bindsN fun _ _ _ _ _ _ us hl => (match us, hl with | [_], _ => rfl), fo__law_form E D F⟩
theorem sc__law_copied : FnScope ["_law_door", "_law_body", "_law_k"] ["_law_door", "_law_body", "_law_k"] (defScope (top 61)) := ⟨rfl, rfl, rfl, by decide +kernel, rfl, by decide +kernel, by decide +kernel⟩
theorem fo__law_copied (E : Facts K w mg cts) (D : Defs P w K mg base cts n) {f : Addr} {fd : FuncData} (F : FnP K "_law_copied" (top 61) f fd) : FnOk P w K mg base (L2.CX P w) (n + 1) f fd ["_law_door", "_law_body", "_law_k"] (spD ⟨K, mg, (T0 cts)⟩ ((Den tbl (n + 1)).call 113)) := by
  refine def_ok F sc__law_copied (bd := b__law_copied) rfl fun cdv A outer s H E0 hr => ?_
  have nd := (sc__law_copied).nd
  have hu : (A.deeper (envOfC "_law_copied" (defScope (top 61)) s.heap.objs.size f cdv)).units + (Den tbl n).room < cLine := by rw [den_room]; have := hr.un; omega
  have tk : Takes (cxOf (L2.CX P w) P w K mg base ["_law_door", "_law_body", "_law_k"] "_law_copied" (defScope (top 61)) f cdv A outer s H E0) (fun cls d _ H => E0 cls d H) := takes_of rfl rfl rfl rfl
  unfold b__law_copied
  refine jss_cons ?_ ?_
  · refine js_if (jt_cmp (os_eq hu) (je_name (pv 2)) je_int) ?_ ?_
    · refine jss_one ?_
      exact (js_ret (je_name (pv 1)))
    exact jss_nil
  refine jss_one ?_
  exact (js_ret (je_bin os_add (je_name (pv 1)) (je_tup (ja_cons (je_tup (ja_cons (je_bin os_sub (je_name (pv 2)) je_int) (ja_cons (je_tup (ja_cons je_str (ja_cons (je_name (pv 0)) (ja_cons (je_call D.c__law_raise.cal hr tk rfl (ja_cons (je_name (pv 1)) (ja_cons je_int (ja_cons je_int ja_nil)))) ja_nil)))) ja_nil))) ja_nil))))
theorem ok__law_copied (E : Facts K w mg cts) (B : Makes base mg cts) (D : Defs P w K mg base cts n) : Dfn P w K mg base (T0 cts) (Den tbl (n + 1)) (n + 1) "_law_copied" 113 := by
  obtain ⟨f, fd, hf, F⟩ := E.f__law_copied
  exact ⟨f, fd, ["_law_door", "_law_body", "_law_k"], hf, F.kp, F.bindsN fun _ _ _ _ _ _ us hl => (match us, hl with | [_, _, _], _ => rfl), fo__law_copied E D F⟩
theorem sc__law_spread : FnScope ["_law_tape_here", "_law_plan_here", "_law_tries", "_law_items", "_law_count", "_law_part_here", "_law_k", "_law_one", "_law_turned", "_law_turn"] ["_law_tape_here", "_law_plan_here", "_law_tries"] (defScope (top 62)) := ⟨rfl, rfl, rfl, by decide +kernel, rfl, by decide +kernel, by decide +kernel⟩
theorem fo__law_spread (E : Facts K w mg cts) (D : Defs P w K mg base cts n) {f : Addr} {fd : FuncData} (F : FnP K "_law_spread" (top 62) f fd) : FnOk P w K mg base (L2.CX P w) (n + 1) f fd ["_law_tape_here", "_law_plan_here", "_law_tries"] (spD ⟨K, mg, (T0 cts)⟩ ((Den tbl (n + 1)).call 114)) := by
  refine def_ok F sc__law_spread (bd := b__law_spread) rfl fun cdv A outer s H E0 hr => ?_
  have nd := (sc__law_spread).nd
  have hu : (A.deeper (envOfC "_law_spread" (defScope (top 62)) s.heap.objs.size f cdv)).units + (Den tbl n).room < cLine := by rw [den_room]; have := hr.un; omega
  have tk : Takes (cxOf (L2.CX P w) P w K mg base ["_law_tape_here", "_law_plan_here", "_law_tries", "_law_items", "_law_count", "_law_part_here", "_law_k", "_law_one", "_law_turned", "_law_turn"] "_law_spread" (defScope (top 62)) f cdv A outer s H E0) (fun cls d _ H => E0 cls d H) := takes_of rfl rfl rfl rfl
  unfold b__law_spread
  refine jss_cons ?_ ?_
  · exact (js_set (i := 3) nd rfl (by first | exact .inl rfl | exact .inr rfl) (je_lst ja_nil))
  refine jss_cons ?_ ?_
  · refine js_for (passes_of rfl) rfl (ji_seq (je_name (pv 1))) (jg_tup rfl (jgs_cons (jg_name (pg_name (i := 4) nd rfl (by first | exact .inl rfl | exact .inr rfl))) (jgs_cons (jg_name (pg_name (i := 5) nd rfl (by first | exact .inl rfl | exact .inr rfl))) jgs_nil))) ?_
    refine jss_cons ?_ ?_
    · refine js_if (jt_cmp (os_eq hu) (je_blt cs_len rfl E.h_len boot_len (jr_cons (je_name (pv 5)) jr_nil)) je_int) ?_ ?_
      · refine jss_one ?_
        exact (js_set (i := 5) nd rfl (by first | exact .inl rfl | exact .inr rfl) (je_tup (ja_cons (je_ix (je_name (pv 5)) je_int) (ja_cons (je_ix (je_name (pv 5)) je_int) (ja_cons (je_call D.c__law_spread.cal hr tk rfl (ja_cons (je_name (pv 0)) (ja_cons (je_ix (je_name (pv 5)) je_int) (ja_cons (je_name (pv 2)) ja_nil)))) ja_nil)))))
      exact jss_nil
    refine jss_cons ?_ ?_
    · refine js_if (jt_bool (jw_and (jt_cmp (os_eq hu) (je_ix (je_name (pv 5)) je_int) je_str) (jw_and (jt_cmp (os_gt hu) (je_name (pv 4)) je_int) (jw_and1 (jt_cmp (os_eq hu) (je_call D.c__law_pick.cal hr tk rfl (ja_cons (je_name (pv 0)) (ja_cons je_int ja_nil))) je_int))))) ?_ ?_
      · refine jss_cons ?_ ?_
        · exact (js_set (i := 6) nd rfl (by first | exact .inl rfl | exact .inr rfl) (je_ix (je_lst (ja_cons (je_name (pv 4)) (ja_cons je_int (ja_cons je_int ja_nil)))) (je_call D.c__law_pick.cal hr tk rfl (ja_cons (je_name (pv 0)) (ja_cons je_int ja_nil)))))
        refine jss_one ?_
        refine js_if (jt_cmp (os_eq hu) (je_bin os_mod (je_bty cs_int rfl E.h_int (by decide +kernel) (jr_cons (je_name (pv 4)) jr_nil)) (je_name (pv 6))) je_int) ?_ ?_
        · refine jss_cons ?_ ?_
          · exact (js_set (i := 5) nd rfl (by first | exact .inl rfl | exact .inr rfl) (je_tup (ja_cons je_str (ja_cons (je_ix (je_name (pv 5)) je_int) (ja_cons (je_call D.c__law_copied.cal hr tk rfl (ja_cons (je_ix (je_name (pv 5)) je_int) (ja_cons (je_ix (je_name (pv 5)) je_int) (ja_cons (je_name (pv 6)) ja_nil)))) ja_nil)))))
          refine jss_one ?_
          exact (js_set (i := 4) nd rfl (by first | exact .inl rfl | exact .inr rfl) (je_bin os_fdiv (je_name (pv 4)) (je_name (pv 6))))
        exact jss_nil
      exact jss_nil
    refine jss_cons ?_ ?_
    · refine js_if (jt_bool (jw_and (jt_cmp (os_gt hu) (je_name (pv 4)) je_int) (jw_and1 (jt_cmp (os_eq hu) (je_call D.c__law_pick.cal hr tk rfl (ja_cons (je_name (pv 0)) (ja_cons je_int ja_nil))) je_int)))) ?_ ?_
      · refine jss_cons ?_ ?_
        · exact (js_set (i := 7) nd rfl (by first | exact .inl rfl | exact .inr rfl) (je_bin os_add je_int (je_call D.c__law_pick.cal hr tk rfl (ja_cons (je_name (pv 0)) (ja_cons (je_blt (cs_min2 rfl) rfl E.h_min (by decide +kernel) (jr_cons (je_bin os_sub (je_name (pv 4)) je_int) (jr_cons je_int jr_nil))) ja_nil)))))
        refine jss_cons ?_ ?_
        · exact (js_append (pv 3) (je_tup (ja_cons (je_name (pv 7)) (ja_cons (je_name (pv 5)) ja_nil))))
        refine jss_one ?_
        exact (js_set (i := 4) nd rfl (by first | exact .inl rfl | exact .inr rfl) (je_bin os_sub (je_name (pv 4)) (je_name (pv 7))))
      exact jss_nil
    refine jss_one ?_
    exact (js_append (pv 3) (je_tup (ja_cons (je_name (pv 4)) (ja_cons (je_name (pv 5)) ja_nil))))
  refine jss_cons ?_ ?_
  · exact (js_set (i := 8) nd rfl (by first | exact .inl rfl | exact .inr rfl) (je_lst ja_nil))
  refine jss_cons ?_ ?_
  · refine js_for (passes_of rfl) rfl (ji_range1 rfl E.h_range (jr_cons (je_blt cs_len rfl E.h_len boot_len (jr_cons (je_name (pv 3)) jr_nil)) jr_nil)) (jg_name (pg_name (i := 9) nd rfl (by first | exact .inl rfl | exact .inr rfl))) ?_
    refine jss_one ?_
    exact (js_appPop (pv 8) (pv 3) (je_call D.c__law_pick.cal hr tk rfl (ja_cons (je_name (pv 0)) (ja_cons (je_blt cs_len rfl E.h_len boot_len (jr_cons (je_name (pv 3)) jr_nil)) ja_nil))))
  refine jss_one ?_
  exact (js_ret (je_bty cs_tuple rfl E.h_tuple (by decide +kernel) (jr_cons (je_name (pv 8)) jr_nil)))
theorem ok__law_spread (E : Facts K w mg cts) (B : Makes base mg cts) (D : Defs P w K mg base cts n) : Dfn P w K mg base (T0 cts) (Den tbl (n + 1)) (n + 1) "_law_spread" 114 := by
  obtain ⟨f, fd, hf, F⟩ := E.f__law_spread
  exact ⟨f, fd, ["_law_tape_here", "_law_plan_here", "_law_tries"], hf, F.kp, F.bindsN fun _ _ _ _ _ _ us hl => (match us, hl with | [_, _, _], _ => rfl), fo__law_spread E D F⟩
theorem sc__law_kept : FnScope ["_law_tape_here", "_law_one", "_law_other", "_law_due", "_law_third", "_law_fresh"] ["_law_tape_here", "_law_one", "_law_other", "_law_due"] (defScope (top 63)) := ⟨rfl, rfl, rfl, by decide +kernel, rfl, by decide +kernel, by decide +kernel⟩
theorem fo__law_kept (E : Facts K w mg cts) (D : Defs P w K mg base cts n) {f : Addr} {fd : FuncData} (F : FnP K "_law_kept" (top 63) f fd) : FnOk P w K mg base (L2.CX P w) (n + 1) f fd ["_law_tape_here", "_law_one", "_law_other", "_law_due"] (spD ⟨K, mg, (T0 cts)⟩ ((Den tbl (n + 1)).call 119)) := by
  refine def_ok F sc__law_kept (bd := b__law_kept) rfl fun cdv A outer s H E0 hr => ?_
  have nd := (sc__law_kept).nd
  have hu : (A.deeper (envOfC "_law_kept" (defScope (top 63)) s.heap.objs.size f cdv)).units + (Den tbl n).room < cLine := by rw [den_room]; have := hr.un; omega
  have tk : Takes (cxOf (L2.CX P w) P w K mg base ["_law_tape_here", "_law_one", "_law_other", "_law_due", "_law_third", "_law_fresh"] "_law_kept" (defScope (top 63)) f cdv A outer s H E0) (fun cls d _ H => E0 cls d H) := takes_of rfl rfl rfl rfl
  unfold b__law_kept
  refine jss_cons ?_ ?_
  · exact (js_set (i := 4) nd rfl (by first | exact .inl rfl | exact .inr rfl) (je_call D.c__law_plan.cal hr tk rfl (ja_cons (je_name (pv 0)) (ja_cons (je_bin os_add je_int (je_call D.c__law_pick.cal hr tk rfl (ja_cons (je_name (pv 0)) (ja_cons je_int ja_nil)))) (ja_cons je_int (ja_cons je_str (ja_cons (je_lst (ja_cons je_str (ja_cons je_str ja_nil))) ja_nil)))))))
  refine jss_cons ?_ ?_
  · refine js_if (jt_cmp (os_ne hu) (je_call D.c_alike.cal hr tk rfl (ja_cons (je_call D.c_beside.cal hr tk rfl (ja_cons (je_name (pv 1)) (ja_cons (je_name (pv 4)) ja_nil))) (ja_cons (je_call D.c_beside.cal hr tk rfl (ja_cons (je_name (pv 4)) (ja_cons (je_name (pv 2)) ja_nil))) ja_nil))) (je_name (pv 3))) ?_ ?_
    · refine jss_one ?_
      exact (js_ret je_bl)
    exact jss_nil
  refine jss_cons ?_ ?_
  · refine js_if (jt_bool (jw_or (jt_cmp (os_ne hu) (je_call D.c_alike.cal hr tk rfl (ja_cons (je_call D.c_letter.cal hr tk rfl (ja_cons je_str (ja_cons (je_name (pv 1)) ja_nil))) (ja_cons (je_call D.c_letter.cal hr tk rfl (ja_cons je_str (ja_cons (je_name (pv 2)) ja_nil))) ja_nil))) (je_name (pv 3))) (jw_or1 (jt_cmp os_is (je_call D.c_alike.cal hr tk rfl (ja_cons (je_call D.c_letter.cal hr tk rfl (ja_cons je_str (ja_cons (je_name (pv 1)) ja_nil))) (ja_cons (je_call D.c_letter.cal hr tk rfl (ja_cons je_str (ja_cons (je_name (pv 2)) ja_nil))) ja_nil))) je_bl)))) ?_ ?_
    · refine jss_one ?_
      exact (js_ret je_bl)
    exact jss_nil
  refine jss_cons ?_ ?_
  · refine js_if (jt_cmp (os_ne hu) (je_call D.c_alike.cal hr tk rfl (ja_cons (je_call D.c_wait.cal hr tk rfl (ja_cons je_str (ja_cons je_str (ja_cons (je_name (pv 1)) ja_nil)))) (ja_cons (je_call D.c_wait.cal hr tk rfl (ja_cons je_str (ja_cons je_str (ja_cons (je_name (pv 2)) ja_nil)))) ja_nil))) (je_name (pv 3))) ?_ ?_
    · refine jss_one ?_
      exact (js_ret je_bl)
    exact jss_nil
  refine jss_cons ?_ ?_
  · exact (js_set (i := 5) nd rfl (by first | exact .inl rfl | exact .inr rfl) (je_tup (ja_cons (je_tup (ja_cons je_int (ja_cons (je_tup (ja_cons je_str (ja_cons je_str ja_nil))) ja_nil))) ja_nil)))
  refine jss_cons ?_ ?_
  · refine js_if (jt_cmp (os_ne hu) (je_call D.c_alike.cal hr tk rfl (ja_cons (je_call D.c_put.cal hr tk rfl (ja_cons (je_name (pv 1)) (ja_cons je_str (ja_cons (je_name (pv 5)) ja_nil)))) (ja_cons (je_call D.c_put.cal hr tk rfl (ja_cons (je_name (pv 2)) (ja_cons je_str (ja_cons (je_name (pv 5)) ja_nil)))) ja_nil))) (je_name (pv 3))) ?_ ?_
    · refine jss_one ?_
      exact (js_ret je_bl)
    exact jss_nil
  refine jss_one ?_
  exact (js_ret (je_cmp (os_eq hu) (je_call D.c_alike.cal hr tk rfl (ja_cons (je_call D.c_wait.cal hr tk rfl (ja_cons je_str (ja_cons je_str (ja_cons (je_call D.c_beside.cal hr tk rfl (ja_cons (je_name (pv 1)) (ja_cons (je_name (pv 4)) ja_nil))) ja_nil)))) (ja_cons (je_call D.c_wait.cal hr tk rfl (ja_cons je_str (ja_cons je_str (ja_cons (je_call D.c_beside.cal hr tk rfl (ja_cons (je_name (pv 4)) (ja_cons (je_name (pv 2)) ja_nil))) ja_nil)))) ja_nil))) (je_name (pv 3))))
theorem ok__law_kept (E : Facts K w mg cts) (B : Makes base mg cts) (D : Defs P w K mg base cts n) : Dfn P w K mg base (T0 cts) (Den tbl (n + 1)) (n + 1) "_law_kept" 119 := by
  obtain ⟨f, fd, hf, F⟩ := E.f__law_kept
  exact ⟨f, fd, ["_law_tape_here", "_law_one", "_law_other", "_law_due"], hf, F.kp, F.bindsN fun _ _ _ _ _ _ us hl => (match us, hl with | [_, _, _, _], _ => rfl), fo__law_kept E D F⟩
theorem sc_law : FnScope ["_law_script", "_law_tape_here", "_law_one", "_law_other", "_law_third", "_law_filled", "_law_outer", "_law_marked", "_law_strange", "_law_due"] ["_law_script"] (defScope (top 64)) := ⟨rfl, rfl, rfl, by decide +kernel, rfl, by decide +kernel, by decide +kernel⟩
theorem fo_law (E : Facts K w mg cts) (D : Defs P w K mg base cts n) {f : Addr} {fd : FuncData} (F : FnP K "law" (top 64) f fd) : FnOk P w K mg base (L2.CX P w) (n + 1) f fd ["_law_script"] (spD ⟨K, mg, (T0 cts)⟩ ((Den tbl (n + 1)).call 120)) := by
  refine def_ok F sc_law (bd := b_law_120) rfl fun cdv A outer s H E0 hr => ?_
  have nd := (sc_law).nd
  have hu : (A.deeper (envOfC "law" (defScope (top 64)) s.heap.objs.size f cdv)).units + (Den tbl n).room < cLine := by rw [den_room]; have := hr.un; omega
  have tk : Takes (cxOf (L2.CX P w) P w K mg base ["_law_script", "_law_tape_here", "_law_one", "_law_other", "_law_third", "_law_filled", "_law_outer", "_law_marked", "_law_strange", "_law_due"] "law" (defScope (top 64)) f cdv A outer s H E0) (fun cls d _ H => E0 cls d H) := takes_of rfl rfl rfl rfl
  unfold b_law_120
  refine jss_cons ?_ ?_
  · exact (js_setW (i := 1) nd rfl (by first | exact .inl rfl | exact .inr rfl) (je_call D.c__law_tape.cal hr tk rfl (ja_cons (je_name (pv 0)) ja_nil)))
  refine jss_cons ?_ ?_
  · exact (js_set (i := 2) nd rfl (by first | exact .inl rfl | exact .inr rfl) (je_call D.c__law_plan.cal hr tk rfl (ja_cons (je_name (pv 1)) (ja_cons (je_bin os_add je_int (je_call D.c__law_pick.cal hr tk rfl (ja_cons (je_name (pv 1)) (ja_cons je_int ja_nil)))) (ja_cons je_int (ja_cons je_str (ja_cons (je_lst (ja_cons je_str (ja_cons je_str ja_nil))) ja_nil)))))))
  refine jss_cons ?_ ?_
  · exact (js_set (i := 3) nd rfl (by first | exact .inl rfl | exact .inr rfl) (je_call D.c__law_spread.cal hr tk rfl (ja_cons (je_name (pv 1)) (ja_cons (je_call D.c__law_form.cal hr tk rfl (ja_cons (je_name (pv 2)) ja_nil)) (ja_cons je_int ja_nil)))))
  refine jss_cons ?_ ?_
  · exact (js_set (i := 4) nd rfl (by first | exact .inl rfl | exact .inr rfl) (je_call D.c__law_spread.cal hr tk rfl (ja_cons (je_name (pv 1)) (ja_cons (je_name (pv 3)) (ja_cons je_int ja_nil)))))
  refine jss_cons ?_ ?_
  · refine js_if (jt_bool (jw_or (jt_cmp os_isnot (je_call D.c_alike.cal hr tk rfl (ja_cons (je_name (pv 2)) (ja_cons (je_name (pv 2)) ja_nil))) je_bl) (jw_or (jt_cmp os_isnot (je_call D.c_alike.cal hr tk rfl (ja_cons (je_name (pv 2)) (ja_cons (je_name (pv 3)) ja_nil))) je_bl) (jw_or1 (jt_cmp os_isnot (je_call D.c_alike.cal hr tk rfl (ja_cons (je_name (pv 3)) (ja_cons (je_name (pv 2)) ja_nil))) je_bl))))) ?_ ?_
    · refine jss_one ?_
      exact (js_ret je_bl)
    exact jss_nil
  refine jss_cons ?_ ?_
  · refine js_if (jt_bool (jw_or (jt_cmp os_isnot (je_call D.c_alike.cal hr tk rfl (ja_cons (je_name (pv 2)) (ja_cons (je_name (pv 4)) ja_nil))) je_bl) (jw_or1 (jt_not (jt_truth (je_call D.c__law_kept.cal hr tk rfl (ja_cons (je_name (pv 1)) (ja_cons (je_name (pv 2)) (ja_cons (je_name (pv 3)) (ja_cons je_bl ja_nil)))))))))) ?_ ?_
    · refine jss_one ?_
      exact (js_ret je_bl)
    exact jss_nil
  refine jss_cons ?_ ?_
  · exact (js_set (i := 5) nd rfl (by first | exact .inl rfl | exact .inr rfl) (je_call D.c__law_plan.cal hr tk rfl (ja_cons (je_name (pv 1)) (ja_cons (je_bin os_add je_int (je_call D.c__law_pick.cal hr tk rfl (ja_cons (je_name (pv 1)) (ja_cons je_int ja_nil)))) (ja_cons je_int (ja_cons je_str (ja_cons (je_lst (ja_cons je_str (ja_cons je_str ja_nil))) ja_nil)))))))
  refine jss_cons ?_ ?_
  · refine js_if (jt_cmp os_isnot (je_call D.c_alike.cal hr tk rfl (ja_cons (je_call D.c_put.cal hr tk rfl (ja_cons (je_name (pv 2)) (ja_cons je_str (ja_cons (je_name (pv 5)) ja_nil)))) (ja_cons (je_call D.c_put.cal hr tk rfl (ja_cons (je_name (pv 4)) (ja_cons je_str (ja_cons (je_name (pv 5)) ja_nil)))) ja_nil))) je_bl) ?_ ?_
    · refine jss_one ?_
      exact (js_ret je_bl)
    exact jss_nil
  refine jss_cons ?_ ?_
  · exact (js_set (i := 6) nd rfl (by first | exact .inl rfl | exact .inr rfl) (je_call D.c__law_plan.cal hr tk rfl (ja_cons (je_name (pv 1)) (ja_cons (je_bin os_add je_int (je_call D.c__law_pick.cal hr tk rfl (ja_cons (je_name (pv 1)) (ja_cons je_int ja_nil)))) (ja_cons je_int (ja_cons je_str (ja_cons (je_lst (ja_cons je_str (ja_cons je_str ja_nil))) ja_nil)))))))
  refine jss_cons ?_ ?_
  · refine js_if (jt_cmp os_isnot (je_call D.c_alike.cal hr tk rfl (ja_cons (je_call D.c_put.cal hr tk rfl (ja_cons (je_name (pv 6)) (ja_cons je_str (ja_cons (je_name (pv 2)) ja_nil)))) (ja_cons (je_call D.c_put.cal hr tk rfl (ja_cons (je_name (pv 6)) (ja_cons je_str (ja_cons (je_name (pv 3)) ja_nil)))) ja_nil))) je_bl) ?_ ?_
    · refine jss_one ?_
      exact (js_ret je_bl)
    exact jss_nil
  refine jss_cons ?_ ?_
  · exact (js_set (i := 7) nd rfl (by first | exact .inl rfl | exact .inr rfl) (je_call D.c_put.cal hr tk rfl (ja_cons (je_name (pv 2)) (ja_cons je_str (ja_cons (je_tup (ja_cons (je_tup (ja_cons je_int (ja_cons (je_tup (ja_cons je_str (ja_cons je_int ja_nil))) ja_nil))) ja_nil)) ja_nil)))))
  refine jss_cons ?_ ?_
  · refine js_if (jt_cmp os_isnot (je_call D.c_alike.cal hr tk rfl (ja_cons (je_call D.c_mark_put.cal hr tk rfl (ja_cons (je_name (pv 7)) (ja_cons je_int (ja_cons (je_name (pv 5)) ja_nil)))) (ja_cons (je_call D.c_put.cal hr tk rfl (ja_cons (je_name (pv 3)) (ja_cons je_str (ja_cons (je_name (pv 5)) ja_nil)))) ja_nil))) je_bl) ?_ ?_
    · refine jss_one ?_
      exact (js_ret je_bl)
    exact jss_nil
  refine jss_cons ?_ ?_
  · exact (js_set (i := 8) nd rfl (by first | exact .inl rfl | exact .inr rfl) (je_call D.c__law_plan.cal hr tk rfl (ja_cons (je_name (pv 1)) (ja_cons (je_call D.c__law_size.cal hr tk rfl (ja_cons (je_name (pv 2)) ja_nil)) (ja_cons je_int (ja_cons je_str (ja_cons (je_lst (ja_cons je_str (ja_cons je_str ja_nil))) ja_nil)))))))
  refine jss_cons ?_ ?_
  · exact (js_set (i := 9) nd rfl (by first | exact .inl rfl | exact .inr rfl) (je_cmp (os_eq hu) (je_call D.c__law_form.cal hr tk rfl (ja_cons (je_name (pv 8)) ja_nil)) (je_call D.c__law_form.cal hr tk rfl (ja_cons (je_name (pv 2)) ja_nil))))
  refine jss_one ?_
  exact (js_ret (je_and (je_cmp (os_eq hu) (je_call D.c_alike.cal hr tk rfl (ja_cons (je_name (pv 2)) (ja_cons (je_name (pv 8)) ja_nil))) (je_name (pv 9))) (je_one (je_call D.c__law_kept.cal hr tk rfl (ja_cons (je_name (pv 1)) (ja_cons (je_name (pv 2)) (ja_cons (je_name (pv 8)) (ja_cons (je_name (pv 9)) ja_nil))))))))
theorem ok_law (E : Facts K w mg cts) (B : Makes base mg cts) (D : Defs P w K mg base cts n) : Dfn P w K mg base (T0 cts) (Den tbl (n + 1)) (n + 1) "law" 120 := by
  obtain ⟨f, fd, hf, F⟩ := E.f_law
  exact ⟨f, fd, ["_law_script"], hf, F.kp, F.bindsN fun _ _ _ _ _ _ us hl => (match us, hl with | [_], _ => rfl), fo_law E D F⟩
theorem lvl (E : Facts K w mg cts) (B : Makes base mg cts) : ∀ n, Defs P w K mg base cts n
  | 0 => ⟨(by obtain ⟨f, fd, hf, F⟩ := E.f_is_integer; exact ⟨f, fd, ["thing"], hf, F.kp, F.bindsN fun _ _ _ _ _ _ us hl => (match us, hl with | [_], _ => rfl), def_zero⟩),
    (by obtain ⟨f, fd, hf, F⟩ := E.f_is_within; exact ⟨f, fd, ["thing", "least", "most"], hf, F.kp, F.bindsN fun _ _ _ _ _ _ us hl => (match us, hl with | [_, _, _], _ => rfl), def_zero⟩),
    (by obtain ⟨f, fd, hf, F⟩ := E.f_is_pair; exact ⟨f, fd, ["thing"], hf, F.kp, F.bindsN fun _ _ _ _ _ _ us hl => (match us, hl with | [_], _ => rfl), def_zero⟩),
    (by obtain ⟨f, fd, hf, F⟩ := E.f_is_triple; exact ⟨f, fd, ["thing"], hf, F.kp, F.bindsN fun _ _ _ _ _ _ us hl => (match us, hl with | [_], _ => rfl), def_zero⟩),
    (by obtain ⟨f, fd, hf, F⟩ := E.f_is_word; exact ⟨f, fd, ["thing"], hf, F.kp, F.bindsN fun _ _ _ _ _ _ us hl => (match us, hl with | [_], _ => rfl), def_zero⟩),
    (by obtain ⟨f, fd, hf, F⟩ := E.f_is_door; exact ⟨f, fd, ["thing"], hf, F.kp, F.bindsN fun _ _ _ _ _ _ us hl => (match us, hl with | [_], _ => rfl), def_zero⟩),
    (by obtain ⟨f, fd, hf, F⟩ := E.f_is_part; exact ⟨f, fd, ["thing", "depth"], hf, F.kp, F.bindsN fun _ _ _ _ _ _ us hl => (match us, hl with | [_, _], _ => rfl), def_zero⟩),
    (by obtain ⟨f, fd, hf, F⟩ := E.f_is_plan_in; exact ⟨f, fd, ["thing", "depth"], hf, F.kp, F.bindsN fun _ _ _ _ _ _ us hl => (match us, hl with | [_, _], _ => rfl), def_zero⟩),
    (by obtain ⟨f, fd, hf, F⟩ := E.f_check_plan; exact ⟨f, fd, ["thing"], hf, F.kp, F.bindsN fun _ _ _ _ _ _ us hl => (match us, hl with | [_], _ => rfl), def_zero⟩),
    (by obtain ⟨f, fd, hf, F⟩ := E.f_check_two; exact ⟨f, fd, ["one", "other"], hf, F.kp, F.bindsN fun _ _ _ _ _ _ us hl => (match us, hl with | [_, _], _ => rfl), def_zero⟩),
    (by obtain ⟨f, fd, hf, F⟩ := E.f_check_door; exact ⟨f, fd, ["thing"], hf, F.kp, F.bindsN fun _ _ _ _ _ _ us hl => (match us, hl with | [_], _ => rfl), def_zero⟩),
    (by obtain ⟨f, fd, hf, F⟩ := E.f_check_word; exact ⟨f, fd, ["thing"], hf, F.kp, F.bindsN fun _ _ _ _ _ _ us hl => (match us, hl with | [_], _ => rfl), def_zero⟩),
    (by obtain ⟨f, fd, hf, F⟩ := E.f_part_key; exact ⟨f, fd, ["part"], hf, F.kp, F.bindsN fun _ _ _ _ _ _ us hl => (match us, hl with | [_], _ => rfl), def_zero⟩),
    (by obtain ⟨f, fd, hf, F⟩ := E.f_plan_key; exact ⟨f, fd, ["plan"], hf, F.kp, F.bindsN fun _ _ _ _ _ _ us hl => (match us, hl with | [_], _ => rfl), def_zero⟩),
    (by obtain ⟨f, fd, c, Pt, hf, F, hcd, hm⟩ := E.f_sorted_items; exact ⟨f, fd, ["items"], hf, F.kp, F.bindsN fun _ _ _ _ _ _ us hl => (match us, hl with | [_], _ => rfl), def_zero⟩),
    (by obtain ⟨f, fd, hf, F⟩ := E.f_parts_within; exact ⟨f, fd, ["plan"], hf, F.kp, F.bindsN fun _ _ _ _ _ _ us hl => (match us, hl with | [_], _ => rfl), def_zero⟩),
    (by obtain ⟨f, fd, hf, F⟩ := E.f_items_in; exact ⟨f, fd, ["plan"], hf, F.kp, F.bindsN fun _ _ _ _ _ _ us hl => (match us, hl with | [_], _ => rfl), def_zero⟩),
    (by obtain ⟨f, fd, hf, F⟩ := E.f_nesting; exact ⟨f, fd, ["plan"], hf, F.kp, F.bindsN fun _ _ _ _ _ _ us hl => (match us, hl with | [_], _ => rfl), def_zero⟩),
    (by obtain ⟨f, fd, hf, F⟩ := E.f_check_room; exact ⟨f, fd, ["items"], hf, F.kp, F.bindsN fun _ _ _ _ _ _ us hl => (match us, hl with | [_], _ => rfl), def_zero⟩),
    (by obtain ⟨f, fd, hf, F⟩ := E.f_roomy; exact ⟨f, fd, ["plan"], hf, F.kp, F.bindsN fun _ _ _ _ _ _ us hl => (match us, hl with | [_], _ => rfl), def_zero⟩),
    (by obtain ⟨f, fd, hf, F⟩ := E.f_mapped; exact ⟨f, fd, ["plan", "depth", "action"], hf, F.kp, F.bindsN fun _ _ _ _ _ _ us hl => (match us, hl with | [_, _, _], _ => rfl), def_zero⟩),
    (by obtain ⟨f, fd, c, Pt, hf, F, hcd, hm⟩ := E.f_raised; exact ⟨f, fd, ["plan", "by", "least"], hf, F.kp, F.bindsN fun _ _ _ _ _ _ us hl => (match us, hl with | [_, _, _], _ => rfl), def_zero⟩),
    (by obtain ⟨f, fd, c, Pt, hf, F, hcd, hm⟩ := E.f_replaced; exact ⟨f, fd, ["plan", "old", "other"], hf, F.kp, F.bindsN fun _ _ _ _ _ _ us hl => (match us, hl with | [_, _, _], _ => rfl), def_zero⟩),
    (by obtain ⟨f, fd, hf, F⟩ := E.f_roomy_replaced; exact ⟨f, fd, ["plan", "old", "other"], hf, F.kp, F.bindsN fun _ _ _ _ _ _ us hl => (match us, hl with | [_, _, _], _ => rfl), def_zero⟩),
    (by obtain ⟨f, fd, c, Pt, hf, F, hcd, hm⟩ := E.f_bound_to; exact ⟨f, fd, ["door", "old", "plan"], hf, F.kp, F.bindsN fun _ _ _ _ _ _ us hl => (match us, hl with | [_, _, _], _ => rfl), def_zero⟩),
    (by obtain ⟨f, fd, hf, F⟩ := E.f_beside; exact ⟨f, fd, ["one", "other"], hf, F.kp, F.bindsN fun _ _ _ _ _ _ us hl => (match us, hl with | [_, _], _ => rfl), def_zero⟩),
    (by obtain ⟨f, fd, hf, F⟩ := E.f_letter; exact ⟨f, fd, ["door", "plan"], hf, F.kp, F.bindsN fun _ _ _ _ _ _ us hl => (match us, hl with | [_, _], _ => rfl), def_zero⟩),
    (by obtain ⟨f, fd, hf, F⟩ := E.f_wait; exact ⟨f, fd, ["door", "word", "plan"], hf, F.kp, F.bindsN fun _ _ _ _ _ _ us hl => (match us, hl with | [_, _, _], _ => rfl), def_zero⟩),
    (by obtain ⟨f, fd, hf, F⟩ := E.f_put; exact ⟨f, fd, ["plan", "word", "other"], hf, F.kp, F.bindsN fun _ _ _ _ _ _ us hl => (match us, hl with | [_, _, _], _ => rfl), def_zero⟩),
    (by obtain ⟨f, fd, hf, F⟩ := E.f_check_mark; exact ⟨f, fd, ["thing"], hf, F.kp, F.bindsN fun _ _ _ _ _ _ us hl => (match us, hl with | [_], _ => rfl), def_zero⟩),
    (by obtain ⟨f, fd, hf, F⟩ := E.f_mark_put; exact ⟨f, fd, ["plan", "number", "other"], hf, F.kp, F.bindsN fun _ _ _ _ _ _ us hl => (match us, hl with | [_, _, _], _ => rfl), def_zero⟩),
    (by obtain ⟨f, fd, hf, F⟩ := E.f_folded; exact ⟨f, fd, ["door", "body"], hf, F.kp, F.bindsN fun _ _ _ _ _ _ us hl => (match us, hl with | [_, _], _ => rfl), def_zero⟩),
    (by obtain ⟨f, fd, hf, F⟩ := E.f_plain_of; exact ⟨f, fd, ["plan"], hf, F.kp, F.bindsN fun _ _ _ _ _ _ us hl => (match us, hl with | [_], _ => rfl), def_zero⟩),
    (by obtain ⟨f, fd, hf, F⟩ := E.f_alike; exact ⟨f, fd, ["one", "other"], hf, F.kp, F.bindsN fun _ _ _ _ _ _ us hl => (match us, hl with | [_, _], _ => rfl), def_zero⟩),
    (by obtain ⟨f, fd, hf, F⟩ := E.f__law_tape; exact ⟨f, fd, ["_law_script"], hf, F.kp, F.bindsN fun _ _ _ _ _ _ us hl => (match us, hl with | [_], _ => rfl), def_zero⟩),
    (by obtain ⟨f, fd, hf, F⟩ := E.f__law_pick; exact ⟨f, fd, ["_law_tape_here", "_law_many"], hf, F.kp, F.bindsN fun _ _ _ _ _ _ us hl => (match us, hl with | [_, _], _ => rfl), def_zero⟩),
    (by obtain ⟨f, fd, hf, F⟩ := E.f__law_plan; exact ⟨f, fd, ["_law_tape_here", "_law_left", "_law_depth", "_law_letters", "_law_words"], hf, F.kp, F.bindsN fun _ _ _ _ _ _ us hl => (match us, hl with | [_, _, _, _, _], _ => rfl), def_zero⟩),
    (by obtain ⟨f, fd, hf, F⟩ := E.f__law_part; exact ⟨f, fd, ["_law_tape_here", "_law_left", "_law_depth", "_law_letters", "_law_words"], hf, F.kp, F.bindsN fun _ _ _ _ _ _ us hl => (match us, hl with | [_, _, _, _, _], _ => rfl), def_zero⟩),
    (by obtain ⟨f, fd, hf, F⟩ := E.f__law_part_size; exact ⟨f, fd, ["_law_part_here"], hf, F.kp, F.bindsN fun _ _ _ _ _ _ us hl => (match us, hl with | [_], _ => rfl), def_zero⟩),
    (by obtain ⟨f, fd, hf, F⟩ := E.f__law_size; exact ⟨f, fd, ["_law_plan_here"], hf, F.kp, F.bindsN fun _ _ _ _ _ _ us hl => (match us, hl with | [_], _ => rfl), def_zero⟩),
    (by obtain ⟨f, fd, hf, F⟩ := E.f__law_raise; exact ⟨f, fd, ["_law_plan_here", "_law_by", "_law_least"], hf, F.kp, F.bindsN fun _ _ _ _ _ _ us hl => (match us, hl with | [_, _, _], _ => rfl), def_zero⟩),
    (by obtain ⟨f, fd, hf, F⟩ := E.f__law_key; exact ⟨f, fd, ["_law_part_here"], hf, F.kp, F.bindsN fun _ _ _ _ _ _ us hl => (match us, hl with | [_], _ => rfl), def_zero⟩),
    (by obtain ⟨f, fd, c, Pt, hf, F, hcd, hm⟩ := E.f__law_joined; exact ⟨f, fd, ["_law_items"], hf, F.kp, F.bindsN fun _ _ _ _ _ _ us hl => (match us, hl with | [_], _ => rfl), def_zero⟩),
    (by obtain ⟨f, fd, hf, F⟩ := E.f__law_form; exact ⟨f, fd, ["_law_plan_here"], hf, F.kp, F.bindsN fun _ _ _ _ _ _ us hl => (match us, hl with | [_], _ => rfl), def_zero⟩),
    (by obtain ⟨f, fd, hf, F⟩ := E.f__law_copied; exact ⟨f, fd, ["_law_door", "_law_body", "_law_k"], hf, F.kp, F.bindsN fun _ _ _ _ _ _ us hl => (match us, hl with | [_, _, _], _ => rfl), def_zero⟩),
    (by obtain ⟨f, fd, hf, F⟩ := E.f__law_spread; exact ⟨f, fd, ["_law_tape_here", "_law_plan_here", "_law_tries"], hf, F.kp, F.bindsN fun _ _ _ _ _ _ us hl => (match us, hl with | [_, _, _], _ => rfl), def_zero⟩),
    (by obtain ⟨f, fd, hf, F⟩ := E.f__law_kept; exact ⟨f, fd, ["_law_tape_here", "_law_one", "_law_other", "_law_due"], hf, F.kp, F.bindsN fun _ _ _ _ _ _ us hl => (match us, hl with | [_, _, _, _], _ => rfl), def_zero⟩),
    (by obtain ⟨f, fd, hf, F⟩ := E.f_law; exact ⟨f, fd, ["_law_script"], hf, F.kp, F.bindsN fun _ _ _ _ _ _ us hl => (match us, hl with | [_], _ => rfl), def_zero⟩),
    clos_zero,
    low_zero,
    low_zero⟩
  | n + 1 => ⟨ok_is_integer E B (lvl E B n), ok_is_within E B (lvl E B n), ok_is_pair E B (lvl E B n), ok_is_triple E B (lvl E B n), ok_is_word E B (lvl E B n), ok_is_door E B (lvl E B n), ok_is_part E B (lvl E B n), ok_is_plan_in E B (lvl E B n), ok_check_plan E B (lvl E B n), ok_check_two E B (lvl E B n), ok_check_door E B (lvl E B n), ok_check_word E B (lvl E B n), ok_part_key E B (lvl E B n), ok_plan_key E B (lvl E B n), ok_sorted_items E B (lvl E B n), ok_parts_within E B (lvl E B n), ok_items_in E B (lvl E B n), ok_nesting E B (lvl E B n), ok_check_room E B (lvl E B n), ok_roomy E B (lvl E B n), ok_mapped E B (lvl E B n), ok_raised E B (lvl E B n), ok_replaced E B (lvl E B n), ok_roomy_replaced E B (lvl E B n), ok_bound_to E B (lvl E B n), ok_beside E B (lvl E B n), ok_letter E B (lvl E B n), ok_wait E B (lvl E B n), ok_put E B (lvl E B n), ok_check_mark E B (lvl E B n), ok_mark_put E B (lvl E B n), ok_folded E B (lvl E B n), ok_plain_of E B (lvl E B n), ok_alike E B (lvl E B n), ok__law_tape E B (lvl E B n), ok__law_pick E B (lvl E B n), ok__law_plan E B (lvl E B n), ok__law_part E B (lvl E B n), ok__law_part_size E B (lvl E B n), ok__law_size E B (lvl E B n), ok__law_raise E B (lvl E B n), ok__law_key E B (lvl E B n), ok__law_joined E B (lvl E B n), ok__law_form E B (lvl E B n), ok__law_copied E B (lvl E B n), ok__law_spread E B (lvl E B n), ok__law_kept E B (lvl E B n), ok_law E B (lvl E B n), cls_succ E (lvl E B n), low_succ rfl (lvl E B n).clos rfl rfl, low_succ rfl (lvl E B n).clos rfl rfl⟩
end
end K09
end Dl
/-! L09d: k09 at its level. -/
namespace Dl
open PySem PySem.Spec PyProof.Rows L2 NdefX
namespace K09
theorem has : Has09 tbl := by
  refine { t22 := rfl, t119 := rfl, t66 := rfl, t60 := rfl, t115 := rfl, t106 := rfl, t107 := rfl, t101 := rfl, t102 := rfl, t108 := rfl, t103 := rfl, t104 := rfl, t105 := rfl, t109 := rfl, t110 := rfl, t111 := rfl, t38 := rfl, t41 := rfl, t55 := rfl, t57 := rfl, t34 := rfl, t31 := rfl, t1 := rfl, t2 := rfl, t4 := rfl, t27 := rfl, t24 := rfl, t26 := rfl, t28 := rfl, t25 := rfl, t39 := rfl, t40 := rfl, t11 := rfl, t37 := rfl, t53 := rfl, t56 := rfl, t58 := rfl, t59 := rfl, t61 := rfl, t73 := rfl, t52 := rfl, t51 := rfl, t32 := rfl, t35 := rfl, t36 := rfl, t44 := rfl, t50 := rfl, t45 := rfl, t112 := rfl, t88 := rfl, t113 := rfl, t114 := rfl, t62 := rfl, t65 := rfl }
theorem law_true (ns : List Int) : ∃ w', (Den tbl 166).call 120 [.dat (.lst (ns.map .int))] [] = .ok (.dat (.bl true)) w' := by
  have e0 : (Den tbl 165).call 22 [.dat (.lst (ns.map .int))] [] = .ok (.fresh [.lst (ns.map .int), .int 0, .int 0, .int 1, .int 0]) [] := by
    rw [den_succ has.t22]
    exact tape_run
  have t0 : TapeOk [] [.lst [.lst (ns.map .int), .int 0, .int 0, .int 1, .int 0]] := ⟨ns, 0, 0, 1, 0, rfl, by decide⟩
  generalize hS : D.lst (ns.map D.int) = S at *
  have ht : tbl 120 = some ⟨1, 10, b_law_120⟩ := rfl
  obtain ⟨w', e⟩ := law9 has (n := 165) (Nat.le_refl _) (S := S) t0
  refine ⟨w', ?_⟩
  rw [show (Den tbl 166).call 120 [.dat S] [] = endR (b_law_120 (Den tbl 165) [.dat S, .un, .un, .un, .un, .un, .un, .un, .un, .un] []) by rw [den_succ ht]; rfl]
  rw [law9_eq]
  have s1 : hq1 (Den tbl 165) [.dat S, .un, .un, .un, .un, .un, .un, .un, .un, .un] [] = .ok (.nx [.dat S, .wref 0, .un, .un, .un, .un, .un, .un, .un, .un]) [.lst [S, .int 0, .int 0, .int 1, .int 0]] := by
    simp [e0]
  exact congrArg endR ((sq_nx s1).trans e)
end K09
end Dl
namespace Dl
open PySem PySem.Spec PyProof.Rows L2 NdefX
namespace K09
def fnH : List He.DefD := [⟨("is_integer", none), "is_integer", "is_integer", defArgs (top 10), defBody (top 10), defScope (top 10), [], []⟩, ⟨("is_within", none), "is_within", "is_within", defArgs (top 11), defBody (top 11), defScope (top 11), [], []⟩, ⟨("is_pair", none), "is_pair", "is_pair", defArgs (top 12), defBody (top 12), defScope (top 12), [], []⟩, ⟨("is_triple", none), "is_triple", "is_triple", defArgs (top 13), defBody (top 13), defScope (top 13), [], []⟩, ⟨("is_word", none), "is_word", "is_word", defArgs (top 14), defBody (top 14), defScope (top 14), [], []⟩, ⟨("is_door", none), "is_door", "is_door", defArgs (top 15), defBody (top 15), defScope (top 15), [], []⟩, ⟨("is_part", none), "is_part", "is_part", defArgs (top 16), defBody (top 16), defScope (top 16), [], []⟩, ⟨("is_plan_in", none), "is_plan_in", "is_plan_in", defArgs (top 17), defBody (top 17), defScope (top 17), [], []⟩, ⟨("check_plan", none), "check_plan", "check_plan", defArgs (top 18), defBody (top 18), defScope (top 18), [], []⟩, ⟨("check_two", none), "check_two", "check_two", defArgs (top 19), defBody (top 19), defScope (top 19), [], []⟩, ⟨("check_door", none), "check_door", "check_door", defArgs (top 20), defBody (top 20), defScope (top 20), [], []⟩, ⟨("check_word", none), "check_word", "check_word", defArgs (top 21), defBody (top 21), defScope (top 21), [], []⟩, ⟨("part_key", none), "part_key", "part_key", defArgs (top 24), defBody (top 24), defScope (top 24), [], []⟩, ⟨("plan_key", none), "plan_key", "plan_key", defArgs (top 25), defBody (top 25), defScope (top 25), [], []⟩, ⟨("sorted_items", none), "sorted_items", "sorted_items", defArgs (top 26), defBody (top 26), defScope (top 26), [], []⟩, ⟨("parts_within", none), "parts_within", "parts_within", defArgs (top 30), defBody (top 30), defScope (top 30), [], []⟩, ⟨("items_in", none), "items_in", "items_in", defArgs (top 31), defBody (top 31), defScope (top 31), [], []⟩, ⟨("nesting", none), "nesting", "nesting", defArgs (top 32), defBody (top 32), defScope (top 32), [], []⟩, ⟨("check_room", none), "check_room", "check_room", defArgs (top 33), defBody (top 33), defScope (top 33), [], []⟩, ⟨("roomy", none), "roomy", "roomy", defArgs (top 34), defBody (top 34), defScope (top 34), [], []⟩, ⟨("mapped", none), "mapped", "mapped", defArgs (top 35), defBody (top 35), defScope (top 35), [], []⟩, ⟨("raised", none), "raised", "raised", defArgs (top 36), defBody (top 36), defScope (top 36), [], []⟩, ⟨("replaced", none), "replaced", "replaced", defArgs (top 37), defBody (top 37), defScope (top 37), [], []⟩, ⟨("roomy_replaced", none), "roomy_replaced", "roomy_replaced", defArgs (top 38), defBody (top 38), defScope (top 38), [], []⟩, ⟨("bound_to", none), "bound_to", "bound_to", defArgs (top 39), defBody (top 39), defScope (top 39), [], []⟩, ⟨("beside", none), "beside", "beside", defArgs (top 40), defBody (top 40), defScope (top 40), [], []⟩, ⟨("letter", none), "letter", "letter", defArgs (top 41), defBody (top 41), defScope (top 41), [], []⟩, ⟨("wait", none), "wait", "wait", defArgs (top 42), defBody (top 42), defScope (top 42), [], []⟩, ⟨("put", none), "put", "put", defArgs (top 43), defBody (top 43), defScope (top 43), [], []⟩, ⟨("check_mark", none), "check_mark", "check_mark", defArgs (top 44), defBody (top 44), defScope (top 44), [], []⟩, ⟨("mark_put", none), "mark_put", "mark_put", defArgs (top 45), defBody (top 45), defScope (top 45), [], []⟩, ⟨("folded", none), "folded", "folded", defArgs (top 47), defBody (top 47), defScope (top 47), [], []⟩, ⟨("plain_of", none), "plain_of", "plain_of", defArgs (top 48), defBody (top 48), defScope (top 48), [], []⟩, ⟨("alike", none), "alike", "alike", defArgs (top 49), defBody (top 49), defScope (top 49), [], []⟩, ⟨("_law_tape", none), "_law_tape", "_law_tape", defArgs (top 51), defBody (top 51), defScope (top 51), [], []⟩, ⟨("_law_pick", none), "_law_pick", "_law_pick", defArgs (top 52), defBody (top 52), defScope (top 52), [], []⟩, ⟨("_law_plan", none), "_law_plan", "_law_plan", defArgs (top 53), defBody (top 53), defScope (top 53), [], []⟩, ⟨("_law_part", none), "_law_part", "_law_part", defArgs (top 54), defBody (top 54), defScope (top 54), [], []⟩, ⟨("_law_part_size", none), "_law_part_size", "_law_part_size", defArgs (top 55), defBody (top 55), defScope (top 55), [], []⟩, ⟨("_law_size", none), "_law_size", "_law_size", defArgs (top 56), defBody (top 56), defScope (top 56), [], []⟩, ⟨("_law_raise", none), "_law_raise", "_law_raise", defArgs (top 57), defBody (top 57), defScope (top 57), [], []⟩, ⟨("_law_key", none), "_law_key", "_law_key", defArgs (top 58), defBody (top 58), defScope (top 58), [], []⟩, ⟨("_law_joined", none), "_law_joined", "_law_joined", defArgs (top 59), defBody (top 59), defScope (top 59), [], []⟩, ⟨("_law_form", none), "_law_form", "_law_form", defArgs (top 60), defBody (top 60), defScope (top 60), [], []⟩, ⟨("_law_copied", none), "_law_copied", "_law_copied", defArgs (top 61), defBody (top 61), defScope (top 61), [], []⟩, ⟨("_law_spread", none), "_law_spread", "_law_spread", defArgs (top 62), defBody (top 62), defScope (top 62), [], []⟩, ⟨("_law_kept", none), "_law_kept", "_law_kept", defArgs (top 63), defBody (top 63), defScope (top 63), [], []⟩, ⟨("law", none), "law", "law", defArgs (top 64), defBody (top 64), defScope (top 64), [], []⟩]
def faH : List He.Fa := [.glo "is_integer", .glo "is_within", .glo "is_pair", .glo "is_triple", .glo "is_word", .glo "is_door", .glo "is_part", .glo "is_plan_in", .glo "check_plan", .glo "check_two", .glo "check_door", .glo "check_word", .glo "part_key", .glo "plan_key", .glo "sorted_items", .glo "parts_within", .glo "items_in", .glo "nesting", .glo "check_room", .glo "roomy", .glo "mapped", .glo "raised", .glo "replaced", .glo "roomy_replaced", .glo "bound_to", .glo "beside", .glo "letter", .glo "wait", .glo "put", .glo "check_mark", .glo "mark_put", .glo "folded", .glo "plain_of", .glo "alike", .glo "_law_tape", .glo "_law_pick", .glo "_law_plan", .glo "_law_part", .glo "_law_part_size", .glo "_law_size", .glo "_law_raise", .glo "_law_key", .glo "_law_joined", .glo "_law_form", .glo "_law_copied", .glo "_law_spread", .glo "_law_kept", .glo "law", .free "all", .free "bool", .free "enumerate", .free "int", .free "isinstance", .free "len", .free "list", .free "max", .free "min", .free "range", .free "sorted", .free "str", .free "sum", .free "tuple", .str "SMALL" "abcdefghijklmnopqrstuvwxyz", .int "MOST_WORD" 8, .int "MOST_ITEMS" 5000, .int "MOST_NESTED" 120, .glo "RANKS"]
def tsH : List He.Tab := [(fun K => He.ga K "RANKS", ["name", "mark", "got", "letter", "wait"])]
def kv_RANKS : List (Str × He.Dv) := [("name", .int 0), ("mark", .int 1), ("got", .int 2), ("letter", .int 3), ("wait", .int 4)]
def tqH : List (He.Defn × Str) := [(("sorted_items", none), "sorted_items.<locals>.<lambda>"), (("raised", none), "raised.<locals>.lift"), (("replaced", none), "replaced.<locals>.<lambda>"), (("bound_to", none), "bound_to.<locals>.<lambda>"), (("_law_joined", none), "_law_joined.<locals>.<lambda>")]
abbrev tfH : List He.Defn := tqH.map (·.1)
def exH (K : PySem.W.Frag) : Bool := apart K tfH && He.valsB K (He.ga K "RANKS") kv_RANKS
abbrev R : PySem.W.OpenRow := PySem.W.OpenLaw.row PySem.Challenge.rw_sealedplans_k09_whole_likeness_in_all_su
abbrev hkH : PySem.W.Hook := He.hookX 4 faH fnH tsH tfH exH
def obH (s : PySem.W.SharedT) : He.AlX := He.obsX 4 faH fnH tsH tfH exH (HandSHeadRun.getT s)
theorem obH_eq (s : PySem.W.SharedT) : obH s = hkH.obs s.abs := He.obsX_eq (HandSHeadRun.getT_eq s)
def loose0 : List Str := ["PlanError", "NoPlan", "NoDoor", "NoWord", "NoMark", "TooMany", "SMALL", "MOST_WORD", "is_integer", "is_within", "is_pair", "is_triple", "is_word", "is_door", "is_part", "is_plan_in", "check_plan", "check_two", "check_door", "check_word", "RANKS", "part_key", "plan_key", "sorted_items", "MOST_ITEMS", "MOST_NESTED", "parts_within", "items_in", "nesting", "check_room"]
def loose1 : List Str := ["roomy", "mapped", "raised", "replaced", "roomy_replaced", "bound_to", "beside", "letter", "wait", "put", "check_mark", "mark_put", "folded", "plain_of", "alike", "_law_tape", "_law_pick", "_law_plan", "_law_part", "_law_part_size", "_law_size", "_law_raise", "_law_key", "_law_joined", "_law_form", "_law_copied", "_law_spread", "_law_kept"]
abbrev looseH : List Str := loose0 ++ loose1
theorem runH (w : PySem.World) : HandSHeadRun.RunEq R (PySem.W.view R.prog [64]) hkH obH 6000 looseH w := by
  refine PySem.W.byRow2 "special-get-raises" (P := fun w => HandSHeadRun.RunEq R (PySem.W.view R.prog [64]) hkH obH 6000 looseH w) (fun w => ?_) (fun w => ?_) w
  · intro os
    kernel_rfl
  · intro os
    kernel_rfl
theorem factsH {w : PySem.World} {K : PySem.W.Frag} {h : Heap} {mg : Str → Option Value} (X : K.In h) (G : h.Ns mainGlobals mg) (c : He.SaysX faH fnH tsH tfH exH w h K) : Facts K w mg (ctsOf K tqH) where
  f_is_integer := by obtain ⟨fd, F⟩ := c.t.d.def_ 0 (d := ⟨("is_integer", none), "is_integer", "is_integer", defArgs (top 10), defBody (top 10), defScope (top 10), [], []⟩) rfl; exact ⟨_, fd, He.glo_ok X G (c.t.d.fact 0 (f := .glo "is_integer") rfl), F⟩
  f_is_within := by obtain ⟨fd, F⟩ := c.t.d.def_ 1 (d := ⟨("is_within", none), "is_within", "is_within", defArgs (top 11), defBody (top 11), defScope (top 11), [], []⟩) rfl; exact ⟨_, fd, He.glo_ok X G (c.t.d.fact 1 (f := .glo "is_within") rfl), F⟩
  f_is_pair := by obtain ⟨fd, F⟩ := c.t.d.def_ 2 (d := ⟨("is_pair", none), "is_pair", "is_pair", defArgs (top 12), defBody (top 12), defScope (top 12), [], []⟩) rfl; exact ⟨_, fd, He.glo_ok X G (c.t.d.fact 2 (f := .glo "is_pair") rfl), F⟩
  f_is_triple := by obtain ⟨fd, F⟩ := c.t.d.def_ 3 (d := ⟨("is_triple", none), "is_triple", "is_triple", defArgs (top 13), defBody (top 13), defScope (top 13), [], []⟩) rfl; exact ⟨_, fd, He.glo_ok X G (c.t.d.fact 3 (f := .glo "is_triple") rfl), F⟩
  f_is_word := by obtain ⟨fd, F⟩ := c.t.d.def_ 4 (d := ⟨("is_word", none), "is_word", "is_word", defArgs (top 14), defBody (top 14), defScope (top 14), [], []⟩) rfl; exact ⟨_, fd, He.glo_ok X G (c.t.d.fact 4 (f := .glo "is_word") rfl), F⟩
  f_is_door := by obtain ⟨fd, F⟩ := c.t.d.def_ 5 (d := ⟨("is_door", none), "is_door", "is_door", defArgs (top 15), defBody (top 15), defScope (top 15), [], []⟩) rfl; exact ⟨_, fd, He.glo_ok X G (c.t.d.fact 5 (f := .glo "is_door") rfl), F⟩
  f_is_part := by obtain ⟨fd, F⟩ := c.t.d.def_ 6 (d := ⟨("is_part", none), "is_part", "is_part", defArgs (top 16), defBody (top 16), defScope (top 16), [], []⟩) rfl; exact ⟨_, fd, He.glo_ok X G (c.t.d.fact 6 (f := .glo "is_part") rfl), F⟩
  f_is_plan_in := by obtain ⟨fd, F⟩ := c.t.d.def_ 7 (d := ⟨("is_plan_in", none), "is_plan_in", "is_plan_in", defArgs (top 17), defBody (top 17), defScope (top 17), [], []⟩) rfl; exact ⟨_, fd, He.glo_ok X G (c.t.d.fact 7 (f := .glo "is_plan_in") rfl), F⟩
  f_check_plan := by obtain ⟨fd, F⟩ := c.t.d.def_ 8 (d := ⟨("check_plan", none), "check_plan", "check_plan", defArgs (top 18), defBody (top 18), defScope (top 18), [], []⟩) rfl; exact ⟨_, fd, He.glo_ok X G (c.t.d.fact 8 (f := .glo "check_plan") rfl), F⟩
  f_check_two := by obtain ⟨fd, F⟩ := c.t.d.def_ 9 (d := ⟨("check_two", none), "check_two", "check_two", defArgs (top 19), defBody (top 19), defScope (top 19), [], []⟩) rfl; exact ⟨_, fd, He.glo_ok X G (c.t.d.fact 9 (f := .glo "check_two") rfl), F⟩
  f_check_door := by obtain ⟨fd, F⟩ := c.t.d.def_ 10 (d := ⟨("check_door", none), "check_door", "check_door", defArgs (top 20), defBody (top 20), defScope (top 20), [], []⟩) rfl; exact ⟨_, fd, He.glo_ok X G (c.t.d.fact 10 (f := .glo "check_door") rfl), F⟩
  f_check_word := by obtain ⟨fd, F⟩ := c.t.d.def_ 11 (d := ⟨("check_word", none), "check_word", "check_word", defArgs (top 21), defBody (top 21), defScope (top 21), [], []⟩) rfl; exact ⟨_, fd, He.glo_ok X G (c.t.d.fact 11 (f := .glo "check_word") rfl), F⟩
  f_part_key := by obtain ⟨fd, F⟩ := c.t.d.def_ 12 (d := ⟨("part_key", none), "part_key", "part_key", defArgs (top 24), defBody (top 24), defScope (top 24), [], []⟩) rfl; exact ⟨_, fd, He.glo_ok X G (c.t.d.fact 12 (f := .glo "part_key") rfl), F⟩
  f_plan_key := by obtain ⟨fd, F⟩ := c.t.d.def_ 13 (d := ⟨("plan_key", none), "plan_key", "plan_key", defArgs (top 25), defBody (top 25), defScope (top 25), [], []⟩) rfl; exact ⟨_, fd, He.glo_ok X G (c.t.d.fact 13 (f := .glo "plan_key") rfl), F⟩
  f_sorted_items := by obtain ⟨fd, F⟩ := c.t.d.def_ 14 (d := ⟨("sorted_items", none), "sorted_items", "sorted_items", defArgs (top 26), defBody (top 26), defScope (top 26), [], []⟩) rfl; obtain ⟨c1, Pt, e1, e2⟩ := maker_of (tq := tqH) (p := ("sorted_items", none)) (q := "sorted_items.<locals>.<lambda>") F (.head _); exact ⟨_, fd, c1, Pt, He.glo_ok X G (c.t.d.fact 14 (f := .glo "sorted_items") rfl), F, e1, e2⟩
  f_parts_within := by obtain ⟨fd, F⟩ := c.t.d.def_ 15 (d := ⟨("parts_within", none), "parts_within", "parts_within", defArgs (top 30), defBody (top 30), defScope (top 30), [], []⟩) rfl; exact ⟨_, fd, He.glo_ok X G (c.t.d.fact 15 (f := .glo "parts_within") rfl), F⟩
  f_items_in := by obtain ⟨fd, F⟩ := c.t.d.def_ 16 (d := ⟨("items_in", none), "items_in", "items_in", defArgs (top 31), defBody (top 31), defScope (top 31), [], []⟩) rfl; exact ⟨_, fd, He.glo_ok X G (c.t.d.fact 16 (f := .glo "items_in") rfl), F⟩
  f_nesting := by obtain ⟨fd, F⟩ := c.t.d.def_ 17 (d := ⟨("nesting", none), "nesting", "nesting", defArgs (top 32), defBody (top 32), defScope (top 32), [], []⟩) rfl; exact ⟨_, fd, He.glo_ok X G (c.t.d.fact 17 (f := .glo "nesting") rfl), F⟩
  f_check_room := by obtain ⟨fd, F⟩ := c.t.d.def_ 18 (d := ⟨("check_room", none), "check_room", "check_room", defArgs (top 33), defBody (top 33), defScope (top 33), [], []⟩) rfl; exact ⟨_, fd, He.glo_ok X G (c.t.d.fact 18 (f := .glo "check_room") rfl), F⟩
  f_roomy := by obtain ⟨fd, F⟩ := c.t.d.def_ 19 (d := ⟨("roomy", none), "roomy", "roomy", defArgs (top 34), defBody (top 34), defScope (top 34), [], []⟩) rfl; exact ⟨_, fd, He.glo_ok X G (c.t.d.fact 19 (f := .glo "roomy") rfl), F⟩
  f_mapped := by obtain ⟨fd, F⟩ := c.t.d.def_ 20 (d := ⟨("mapped", none), "mapped", "mapped", defArgs (top 35), defBody (top 35), defScope (top 35), [], []⟩) rfl; exact ⟨_, fd, He.glo_ok X G (c.t.d.fact 20 (f := .glo "mapped") rfl), F⟩
  f_raised := by obtain ⟨fd, F⟩ := c.t.d.def_ 21 (d := ⟨("raised", none), "raised", "raised", defArgs (top 36), defBody (top 36), defScope (top 36), [], []⟩) rfl; obtain ⟨c1, Pt, e1, e2⟩ := maker_of (tq := tqH) (p := ("raised", none)) (q := "raised.<locals>.lift") F (.tail _ (.head _)); exact ⟨_, fd, c1, Pt, He.glo_ok X G (c.t.d.fact 21 (f := .glo "raised") rfl), F, e1, e2⟩
  f_replaced := by obtain ⟨fd, F⟩ := c.t.d.def_ 22 (d := ⟨("replaced", none), "replaced", "replaced", defArgs (top 37), defBody (top 37), defScope (top 37), [], []⟩) rfl; obtain ⟨c1, Pt, e1, e2⟩ := maker_of (tq := tqH) (p := ("replaced", none)) (q := "replaced.<locals>.<lambda>") F (.tail _ (.tail _ (.head _))); exact ⟨_, fd, c1, Pt, He.glo_ok X G (c.t.d.fact 22 (f := .glo "replaced") rfl), F, e1, e2⟩
  f_roomy_replaced := by obtain ⟨fd, F⟩ := c.t.d.def_ 23 (d := ⟨("roomy_replaced", none), "roomy_replaced", "roomy_replaced", defArgs (top 38), defBody (top 38), defScope (top 38), [], []⟩) rfl; exact ⟨_, fd, He.glo_ok X G (c.t.d.fact 23 (f := .glo "roomy_replaced") rfl), F⟩
  f_bound_to := by obtain ⟨fd, F⟩ := c.t.d.def_ 24 (d := ⟨("bound_to", none), "bound_to", "bound_to", defArgs (top 39), defBody (top 39), defScope (top 39), [], []⟩) rfl; obtain ⟨c1, Pt, e1, e2⟩ := maker_of (tq := tqH) (p := ("bound_to", none)) (q := "bound_to.<locals>.<lambda>") F (.tail _ (.tail _ (.tail _ (.head _)))); exact ⟨_, fd, c1, Pt, He.glo_ok X G (c.t.d.fact 24 (f := .glo "bound_to") rfl), F, e1, e2⟩
  f_beside := by obtain ⟨fd, F⟩ := c.t.d.def_ 25 (d := ⟨("beside", none), "beside", "beside", defArgs (top 40), defBody (top 40), defScope (top 40), [], []⟩) rfl; exact ⟨_, fd, He.glo_ok X G (c.t.d.fact 25 (f := .glo "beside") rfl), F⟩
  f_letter := by obtain ⟨fd, F⟩ := c.t.d.def_ 26 (d := ⟨("letter", none), "letter", "letter", defArgs (top 41), defBody (top 41), defScope (top 41), [], []⟩) rfl; exact ⟨_, fd, He.glo_ok X G (c.t.d.fact 26 (f := .glo "letter") rfl), F⟩
  f_wait := by obtain ⟨fd, F⟩ := c.t.d.def_ 27 (d := ⟨("wait", none), "wait", "wait", defArgs (top 42), defBody (top 42), defScope (top 42), [], []⟩) rfl; exact ⟨_, fd, He.glo_ok X G (c.t.d.fact 27 (f := .glo "wait") rfl), F⟩
  f_put := by obtain ⟨fd, F⟩ := c.t.d.def_ 28 (d := ⟨("put", none), "put", "put", defArgs (top 43), defBody (top 43), defScope (top 43), [], []⟩) rfl; exact ⟨_, fd, He.glo_ok X G (c.t.d.fact 28 (f := .glo "put") rfl), F⟩
  f_check_mark := by obtain ⟨fd, F⟩ := c.t.d.def_ 29 (d := ⟨("check_mark", none), "check_mark", "check_mark", defArgs (top 44), defBody (top 44), defScope (top 44), [], []⟩) rfl; exact ⟨_, fd, He.glo_ok X G (c.t.d.fact 29 (f := .glo "check_mark") rfl), F⟩
  f_mark_put := by obtain ⟨fd, F⟩ := c.t.d.def_ 30 (d := ⟨("mark_put", none), "mark_put", "mark_put", defArgs (top 45), defBody (top 45), defScope (top 45), [], []⟩) rfl; exact ⟨_, fd, He.glo_ok X G (c.t.d.fact 30 (f := .glo "mark_put") rfl), F⟩
  f_folded := by obtain ⟨fd, F⟩ := c.t.d.def_ 31 (d := ⟨("folded", none), "folded", "folded", defArgs (top 47), defBody (top 47), defScope (top 47), [], []⟩) rfl; exact ⟨_, fd, He.glo_ok X G (c.t.d.fact 31 (f := .glo "folded") rfl), F⟩
  f_plain_of := by obtain ⟨fd, F⟩ := c.t.d.def_ 32 (d := ⟨("plain_of", none), "plain_of", "plain_of", defArgs (top 48), defBody (top 48), defScope (top 48), [], []⟩) rfl; exact ⟨_, fd, He.glo_ok X G (c.t.d.fact 32 (f := .glo "plain_of") rfl), F⟩
  f_alike := by obtain ⟨fd, F⟩ := c.t.d.def_ 33 (d := ⟨("alike", none), "alike", "alike", defArgs (top 49), defBody (top 49), defScope (top 49), [], []⟩) rfl; exact ⟨_, fd, He.glo_ok X G (c.t.d.fact 33 (f := .glo "alike") rfl), F⟩
  f__law_tape := by obtain ⟨fd, F⟩ := c.t.d.def_ 34 (d := ⟨("_law_tape", none), "_law_tape", "_law_tape", defArgs (top 51), defBody (top 51), defScope (top 51), [], []⟩) rfl; exact ⟨_, fd, He.glo_ok X G (c.t.d.fact 34 (f := .glo "_law_tape") rfl), F⟩
  f__law_pick := by obtain ⟨fd, F⟩ := c.t.d.def_ 35 (d := ⟨("_law_pick", none), "_law_pick", "_law_pick", defArgs (top 52), defBody (top 52), defScope (top 52), [], []⟩) rfl; exact ⟨_, fd, He.glo_ok X G (c.t.d.fact 35 (f := .glo "_law_pick") rfl), F⟩
  f__law_plan := by obtain ⟨fd, F⟩ := c.t.d.def_ 36 (d := ⟨("_law_plan", none), "_law_plan", "_law_plan", defArgs (top 53), defBody (top 53), defScope (top 53), [], []⟩) rfl; exact ⟨_, fd, He.glo_ok X G (c.t.d.fact 36 (f := .glo "_law_plan") rfl), F⟩
  f__law_part := by obtain ⟨fd, F⟩ := c.t.d.def_ 37 (d := ⟨("_law_part", none), "_law_part", "_law_part", defArgs (top 54), defBody (top 54), defScope (top 54), [], []⟩) rfl; exact ⟨_, fd, He.glo_ok X G (c.t.d.fact 37 (f := .glo "_law_part") rfl), F⟩
  f__law_part_size := by obtain ⟨fd, F⟩ := c.t.d.def_ 38 (d := ⟨("_law_part_size", none), "_law_part_size", "_law_part_size", defArgs (top 55), defBody (top 55), defScope (top 55), [], []⟩) rfl; exact ⟨_, fd, He.glo_ok X G (c.t.d.fact 38 (f := .glo "_law_part_size") rfl), F⟩
  f__law_size := by obtain ⟨fd, F⟩ := c.t.d.def_ 39 (d := ⟨("_law_size", none), "_law_size", "_law_size", defArgs (top 56), defBody (top 56), defScope (top 56), [], []⟩) rfl; exact ⟨_, fd, He.glo_ok X G (c.t.d.fact 39 (f := .glo "_law_size") rfl), F⟩
  f__law_raise := by obtain ⟨fd, F⟩ := c.t.d.def_ 40 (d := ⟨("_law_raise", none), "_law_raise", "_law_raise", defArgs (top 57), defBody (top 57), defScope (top 57), [], []⟩) rfl; exact ⟨_, fd, He.glo_ok X G (c.t.d.fact 40 (f := .glo "_law_raise") rfl), F⟩
  f__law_key := by obtain ⟨fd, F⟩ := c.t.d.def_ 41 (d := ⟨("_law_key", none), "_law_key", "_law_key", defArgs (top 58), defBody (top 58), defScope (top 58), [], []⟩) rfl; exact ⟨_, fd, He.glo_ok X G (c.t.d.fact 41 (f := .glo "_law_key") rfl), F⟩
  f__law_joined := by obtain ⟨fd, F⟩ := c.t.d.def_ 42 (d := ⟨("_law_joined", none), "_law_joined", "_law_joined", defArgs (top 59), defBody (top 59), defScope (top 59), [], []⟩) rfl; obtain ⟨c1, Pt, e1, e2⟩ := maker_of (tq := tqH) (p := ("_law_joined", none)) (q := "_law_joined.<locals>.<lambda>") F (.tail _ (.tail _ (.tail _ (.tail _ (.head _))))); exact ⟨_, fd, c1, Pt, He.glo_ok X G (c.t.d.fact 42 (f := .glo "_law_joined") rfl), F, e1, e2⟩
  f__law_form := by obtain ⟨fd, F⟩ := c.t.d.def_ 43 (d := ⟨("_law_form", none), "_law_form", "_law_form", defArgs (top 60), defBody (top 60), defScope (top 60), [], []⟩) rfl; exact ⟨_, fd, He.glo_ok X G (c.t.d.fact 43 (f := .glo "_law_form") rfl), F⟩
  f__law_copied := by obtain ⟨fd, F⟩ := c.t.d.def_ 44 (d := ⟨("_law_copied", none), "_law_copied", "_law_copied", defArgs (top 61), defBody (top 61), defScope (top 61), [], []⟩) rfl; exact ⟨_, fd, He.glo_ok X G (c.t.d.fact 44 (f := .glo "_law_copied") rfl), F⟩
  f__law_spread := by obtain ⟨fd, F⟩ := c.t.d.def_ 45 (d := ⟨("_law_spread", none), "_law_spread", "_law_spread", defArgs (top 62), defBody (top 62), defScope (top 62), [], []⟩) rfl; exact ⟨_, fd, He.glo_ok X G (c.t.d.fact 45 (f := .glo "_law_spread") rfl), F⟩
  f__law_kept := by obtain ⟨fd, F⟩ := c.t.d.def_ 46 (d := ⟨("_law_kept", none), "_law_kept", "_law_kept", defArgs (top 63), defBody (top 63), defScope (top 63), [], []⟩) rfl; exact ⟨_, fd, He.glo_ok X G (c.t.d.fact 46 (f := .glo "_law_kept") rfl), F⟩
  f_law := by obtain ⟨fd, F⟩ := c.t.d.def_ 47 (d := ⟨("law", none), "law", "law", defArgs (top 64), defBody (top 64), defScope (top 64), [], []⟩) rfl; exact ⟨_, fd, He.glo_ok X G (c.t.d.fact 47 (f := .glo "law") rfl), F⟩
  h_all := He.free_ok X G (c.t.d.fact 48 (f := .free "all") rfl)
  h_bool := He.free_ok X G (c.t.d.fact 49 (f := .free "bool") rfl)
  h_enumerate := He.free_ok X G (c.t.d.fact 50 (f := .free "enumerate") rfl)
  h_int := He.free_ok X G (c.t.d.fact 51 (f := .free "int") rfl)
  h_isinstance := He.free_ok X G (c.t.d.fact 52 (f := .free "isinstance") rfl)
  h_len := He.free_ok X G (c.t.d.fact 53 (f := .free "len") rfl)
  h_list := He.free_ok X G (c.t.d.fact 54 (f := .free "list") rfl)
  h_max := He.free_ok X G (c.t.d.fact 55 (f := .free "max") rfl)
  h_min := He.free_ok X G (c.t.d.fact 56 (f := .free "min") rfl)
  h_range := He.free_ok X G (c.t.d.fact 57 (f := .free "range") rfl)
  h_sorted := He.free_ok X G (c.t.d.fact 58 (f := .free "sorted") rfl)
  h_str := He.free_ok X G (c.t.d.fact 59 (f := .free "str") rfl)
  h_sum := He.free_ok X G (c.t.d.fact 60 (f := .free "sum") rfl)
  h_tuple := He.free_ok X G (c.t.d.fact 61 (f := .free "tuple") rfl)
  k_SMALL := He.str_ok X G (c.t.d.fact 62 (f := .str "SMALL" "abcdefghijklmnopqrstuvwxyz") rfl)
  k_MOST_WORD := He.int_ok X G (c.t.d.fact 63 (f := .int "MOST_WORD" 8) rfl)
  k_MOST_ITEMS := He.int_ok X G (c.t.d.fact 64 (f := .int "MOST_ITEMS" 5000) rfl)
  k_MOST_NESTED := He.int_ok X G (c.t.d.fact 65 (f := .int "MOST_NESTED" 120) rfl)
  d_RANKS := by obtain ⟨es, n, kd⟩ := c.t.tab 0 (t := (fun K => He.ga K "RANKS", ["name", "mark", "got", "letter", "wait"])) rfl; exact tabAt_of X G (c.t.d.fact 66 (f := .glo "RANKS") rfl) kd (kvs := kv_RANKS) (by have e := c.more; simp only [exH, Bool.and_eq_true] at e; first | exact e | (repeat (first | exact e.2 | exact e.1 | (replace e := e.1)))) rfl
end K09
end Dl
open PySem PySem.W PySem.Calls PyProof.Rows
theorem PySem.Challenge.cw_sealedplans_k09_whole_likeness_in_all_su_holds : PySem.Challenge.rw_sealedplans_k09_whole_likeness_in_all_su.Holds := by
  w_on; o_law
  refine HandSHeadRun.head_any (r := OpenLaw.row PySem.Challenge.rw_sealedplans_k09_whole_likeness_in_all_su) (q := view (OpenLaw.row PySem.Challenge.rw_sealedplans_k09_whole_likeness_in_all_su).prog [64]) (H := Dl.K09.hkH) (ob := Dl.K09.obH) (M := 6000) (loose := Dl.K09.looseH) (d := HandSHeadRun.topDef (OpenLaw.row PySem.Challenge.rw_sealedplans_k09_whole_likeness_in_all_su).prog 64) (kwd := []) Dl.K09.obH_eq
    (by kernel_rfl) (fun s => by kernel_rfl) Dl.K09.runH (by kernel_rfl) (by kernel_rfl) (by kernel_rfl) (by rfl) (by first | assumption | decide +kernel) (by decide +kernel) ⟨rfl, rfl, rfl, rfl, rfl, by decide +kernel⟩ ?hw ?hc
  case hw => w_witness2
  case hc =>
    refine Dl.walk_ofM (l := PySem.Challenge.rw_sealedplans_k09_whole_likeness_in_all_su) (n := 63) (k := 166) (x := "_law_script") (fa := Dl.K09.faH) (fn := Dl.K09.fnH) (ts := Dl.K09.tsH) (tq := Dl.K09.tqH) (ex := Dl.K09.exH) rfl (by decide) (by kernel_rfl) ⟨rfl, by decide, by decide⟩ ?F
    intro w K mg fa h KX c G hmg0
    have hmg : mg ("law" : PySem.Str) = some (.ref fa) := by
      have e : (HandSHeadRun.topDef (OpenLaw.row PySem.Challenge.rw_sealedplans_k09_whole_likeness_in_all_su).prog 64).name = ("law" : PySem.Str) := by kernel_rfl
      rw [← e]
      exact hmg0
    have E := Dl.K09.factsH KX G c
    obtain ⟨f, fd, hf, F⟩ := E.f_law
    have ef : f = fa := Dl.ref_inj (hf.symm.trans hmg)
    subst ef
    have hap : Dl.apart K Dl.K09.tfH = true := by
      have e := c.more
      simp only [Dl.K09.exH, Bool.and_eq_true] at e
      first
        | exact e
        | (repeat (first | exact e.2 | exact e.1 | (replace e := e.1)))
    have b := L2.FunD.bindsA (ps := ["_law_script"]) F fun _ _ _ _ _ _ us hl => match us, hl with | [_], _ => rfl
    refine ⟨fd, Dl.spD ⟨K, mg, Dl.K09.T0 (Dl.ctsOf K Dl.K09.tqH)⟩ ((Dl.Den Dl.K09.tbl 166).call 120), fun s v => b s [v] rfl, fun H a ns hl hT hS => ?_, fun base _ _ hB => ?_⟩
    · obtain ⟨w', e⟩ := Dl.K09.law_true ns
      exact Dl.law_spT (Dl.tabs_nil hT) hS (Nat.le_trans hl (by decide)) e
    · exact Dl.K09.fo_law (P := (PySem.Challenge.rw_sealedplans_k09_whole_likeness_in_all_su).prog) (base := base) E (Dl.K09.lvl E ⟨hB, Dl.cts_un hap⟩ 165) F
